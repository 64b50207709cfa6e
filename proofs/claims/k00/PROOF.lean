import PyProof.Rows.All
import Wide.All
import OpenK.AllK
import Wide.FinOn
import HandS.ForMost
import HandS.ForExc
import HandS.IsInst
import HandS.Wide
import HandS.Flow
import HandS.TupAny
import HandS.FStr
import HandS.Codes
import HandS.Ends
import HandS.WordsExc
import HandS.List
import PySem.Challenge.RW_onemaking_k00_words_and_step_names
set_option Elab.async false
set_option linter.all false
set_option maxRecDepth 100000
set_option maxHeartbeats 2000000
/-! A layer over HandS in which values are trees of data and the heap is hidden. -/
namespace DL
open PySem PySem.Spec PyProof.Rows L2

inductive D where
  | non
  | bl (b : Bool)
  | int (i : Int)
  | str (x : Str)
  | ty (n : String)
  | ref (a : Addr)
  | tup (ds : List D)
  | lst (ds : List D)
  | rol (ds : List D)
  | obj (C : Addr) (ns : List Str) (ds : List D)
  | dct (ks : List Key) (ds : List D)

/-- the part that never changes, the part that is left alone -/
structure Fz where
  fz : Hp
  gr : Hp
def Ext (F F' : Fz) : Prop := Same F.fz F'.fz ∧ F'.gr = F.gr
theorem Ext.refl (F : Fz) : Ext F F := ⟨Same.refl _, rfl⟩
theorem Ext.trans {F F1 F2 : Fz} (a : Ext F F1) (b : Ext F1 F2) : Ext F F2 := ⟨a.1.trans b.1, b.2.trans a.2⟩
abbrev Fz.put (F : Fz) (p : Addr) (o : HO) : Fz := ⟨upd F.fz p o, F.gr⟩

mutual
def Rep (K : PySem.W.Frag) (F : Fz) : D → V → Prop
  | .non, v => v = .non
  | .bl b, v => v = .bl b
  | .int i, v => v = .int i
  | .str x, v => v = .str x
  | .ty n, v => v = .ty n
  | .ref a, v => v = .ref a
  | .tup ds, v => ∃ a vs, v = .ref a ∧ SqT K F.fz a vs ∧ RepL K F ds vs
  | .lst ds, v => ∃ a vs, v = .ref a ∧ F.fz a = some (.lst vs) ∧ RepL K F ds vs
  | .rol ds, v => ∃ a vs, v = .ref a ∧ SqL K F.fz a vs ∧ RepL K F ds vs
  | .obj C ns ds, v => ∃ a dx vs, v = .ref a ∧ F.fz a = some (.ins C dx (ns.zip vs)) ∧ ns.length = ds.length ∧ RepL K F ds vs
  | .dct ks ds, v => ∃ a vs, v = .ref a ∧ F.fz a = some (.dK (ks.zip vs)) ∧ ks.length = ds.length ∧ RepL K F ds vs
def RepL (K : PySem.W.Frag) (F : Fz) : List D → List V → Prop
  | [], vs => vs = []
  | d :: ds, vs => ∃ w ws, vs = w :: ws ∧ Rep K F d w ∧ RepL K F ds ws
end

theorem same_t {K : PySem.W.Frag} {H H' : Hp} {a : Addr} {xs : List V} (e : Same H H') (h : SqT K H a xs) : SqT K H' a xs := by
  rcases h with (h | ⟨o, h⟩) | h
  · exact .inl (.inl (e _ _ h))
  · exact .inl (.inr ⟨o, e _ _ h⟩)
  · exact .inr h

mutual
theorem Rep.mono {K : PySem.W.Frag} {F F' : Fz} (s : Ext F F') : ∀ {d : D} {v : V}, Rep K F d v → Rep K F' d v
  | .non, _, h => h
  | .bl _, _, h => h
  | .int _, _, h => h
  | .str _, _, h => h
  | .ty _, _, h => h
  | .ref _, _, h => h
  | .tup _, _, h => by
    obtain ⟨a, vs, e, q, r⟩ := h
    exact ⟨a, vs, e, same_t s.1 q, RepL.mono s r⟩
  | .lst _, _, h => by
    obtain ⟨a, vs, e, q, r⟩ := h
    exact ⟨a, vs, e, s.1 _ _ q, RepL.mono s r⟩
  | .rol _, _, h => by
    obtain ⟨a, vs, e, q, r⟩ := h
    exact ⟨a, vs, e, s.1.seq q, RepL.mono s r⟩
  | .obj _ _ _, _, h => by
    obtain ⟨a, dx, vs, e, q, l, r⟩ := h
    exact ⟨a, dx, vs, e, s.1 _ _ q, l, RepL.mono s r⟩
  | .dct _ _, _, h => by
    obtain ⟨a, vs, e, q, l, r⟩ := h
    exact ⟨a, vs, e, s.1 _ _ q, l, RepL.mono s r⟩
theorem RepL.mono {K : PySem.W.Frag} {F F' : Fz} (s : Ext F F') : ∀ {ds : List D} {vs : List V}, RepL K F ds vs → RepL K F' ds vs
  | [], _, h => h
  | _ :: _, _, h => by
    obtain ⟨w, ws, e, r, t⟩ := h
    exact ⟨w, ws, e, Rep.mono s r, RepL.mono s t⟩
end

mutual
theorem Rep.gr {K : PySem.W.Frag} {F : Fz} {G : Hp} : ∀ {d : D} {v : V}, Rep K F d v → Rep K ⟨F.fz, G⟩ d v
  | .non, _, h => h
  | .bl _, _, h => h
  | .int _, _, h => h
  | .str _, _, h => h
  | .ty _, _, h => h
  | .ref _, _, h => h
  | .tup _, _, h => by
    obtain ⟨a, vs, e, q, r⟩ := h
    exact ⟨a, vs, e, q, RepL.gr r⟩
  | .lst _, _, h => by
    obtain ⟨a, vs, e, q, r⟩ := h
    exact ⟨a, vs, e, q, RepL.gr r⟩
  | .rol _, _, h => by
    obtain ⟨a, vs, e, q, r⟩ := h
    exact ⟨a, vs, e, q, RepL.gr r⟩
  | .obj _ _ _, _, h => by
    obtain ⟨a, dx, vs, e, q, l, r⟩ := h
    exact ⟨a, dx, vs, e, q, l, RepL.gr r⟩
  | .dct _ _, _, h => by
    obtain ⟨a, vs, e, q, l, r⟩ := h
    exact ⟨a, vs, e, q, l, RepL.gr r⟩
theorem RepL.gr {K : PySem.W.Frag} {F : Fz} {G : Hp} : ∀ {ds : List D} {vs : List V}, RepL K F ds vs → RepL K ⟨F.fz, G⟩ ds vs
  | [], _, h => h
  | _ :: _, _, h => by
    obtain ⟨w, ws, e, r, t⟩ := h
    exact ⟨w, ws, e, Rep.gr r, RepL.gr t⟩
end

section repl
variable {K : PySem.W.Frag} {F : Fz}
theorem RepL.nil : RepL K F [] [] := rfl
theorem RepL.cons {d : D} {v : V} {ds : List D} {vs : List V} (h : Rep K F d v) (t : RepL K F ds vs) : RepL K F (d :: ds) (v :: vs) := ⟨v, vs, rfl, h, t⟩
theorem RepL.length : ∀ {ds : List D} {vs : List V}, RepL K F ds vs → vs.length = ds.length
  | [], _, h => by rw [show _ = [] from h]; rfl
  | _ :: _, _, h => by
    obtain ⟨w, ws, rfl, _, t⟩ := h
    rw [List.length_cons, List.length_cons, RepL.length t]
theorem RepL.append : ∀ {ds es : List D} {vs ws : List V}, RepL K F ds vs → RepL K F es ws → RepL K F (ds ++ es) (vs ++ ws)
  | [], _, _, _, h, t => by rw [show _ = [] from h]; exact t
  | _ :: _, _, _, _, h, t => by
    obtain ⟨w, ws, rfl, r, q⟩ := h
    exact ⟨w, _, rfl, r, RepL.append q t⟩
theorem RepL.one {d : D} {v : V} (h : Rep K F d v) : RepL K F [d] [v] := .cons h .nil
theorem RepL.get : ∀ {ds : List D} {vs : List V} {i : Nat} {d : D}, RepL K F ds vs → ds[i]? = some d → ∃ v, vs[i]? = some v ∧ Rep K F d v
  | [], _, _, _, _, e => by simp at e
  | _ :: _, _, 0, _, h, e => by
    obtain ⟨w, ws, rfl, r, q⟩ := h
    simp at e; subst e
    exact ⟨w, rfl, r⟩
  | _ :: _, _, i + 1, _, h, e => by
    obtain ⟨w, ws, rfl, r, q⟩ := h
    obtain ⟨v, e1, e2⟩ := RepL.get (i := i) q (by simpa using e)
    exact ⟨v, by simpa using e1, e2⟩
theorem RepL.get' : ∀ {ds : List D} {vs : List V} {i : Nat} {v : V}, RepL K F ds vs → vs[i]? = some v → ∃ d, ds[i]? = some d ∧ Rep K F d v
  | [], _, _, _, h, e => by rw [show _ = [] from h] at e; simp at e
  | d :: _, _, 0, _, h, e => by
    obtain ⟨w, ws, rfl, r, q⟩ := h
    simp at e; subst e
    exact ⟨d, rfl, r⟩
  | _ :: _, _, i + 1, _, h, e => by
    obtain ⟨w, ws, rfl, r, q⟩ := h
    obtain ⟨v, e1, e2⟩ := RepL.get' (i := i) q (by simpa using e)
    exact ⟨v, by simpa using e1, e2⟩
theorem RepL.drop : ∀ (n : Nat) {ds : List D} {vs : List V}, RepL K F ds vs → RepL K F (ds.drop n) (vs.drop n)
  | 0, _, _, h => h
  | n + 1, [], _, h => by rw [show _ = [] from h]; exact rfl
  | n + 1, _ :: _, _, h => by
    obtain ⟨w, ws, rfl, r, q⟩ := h
    exact RepL.drop n q
theorem RepL.take : ∀ (n : Nat) {ds : List D} {vs : List V}, RepL K F ds vs → RepL K F (ds.take n) (vs.take n)
  | 0, _, _, h => rfl
  | n + 1, [], _, h => by rw [show _ = [] from h]; exact rfl
  | n + 1, _ :: _, _, h => by
    obtain ⟨w, ws, rfl, r, q⟩ := h
    exact ⟨w, _, rfl, r, RepL.take n q⟩
theorem RepL.set {d : D} {v : V} (r : Rep K F d v) : ∀ (n : Nat) {ds : List D} {vs : List V}, RepL K F ds vs → RepL K F (ds.set n d) (vs.set n v)
  | _, [], _, h => by rw [show _ = [] from h]; exact rfl
  | 0, _ :: _, _, h => by
    obtain ⟨w, ws, rfl, _, q⟩ := h
    exact ⟨v, ws, rfl, r, q⟩
  | n + 1, _ :: _, _, h => by
    obtain ⟨w, ws, rfl, r', q⟩ := h
    exact ⟨w, _, rfl, r', RepL.set r n q⟩
theorem RepL.map {α : Type} {f : α → D} {g : α → V} (h : ∀ x, Rep K F (f x) (g x)) : ∀ xs : List α, RepL K F (xs.map f) (xs.map g)
  | [] => rfl
  | x :: r => ⟨g x, _, rfl, h x, RepL.map h r⟩
theorem RepL.reverse : ∀ {ds : List D} {vs : List V}, RepL K F ds vs → RepL K F ds.reverse vs.reverse
  | [], _, h => by rw [show _ = [] from h]; exact rfl
  | _ :: _, _, h => by
    obtain ⟨w, ws, rfl, r, q⟩ := h
    rw [List.reverse_cons, List.reverse_cons]
    exact (RepL.reverse q).append (.one r)
end repl

/-! ### cells -/
inductive Cell where
  | lst (ds : List D)
  | lstP (P : List D → Prop)
  | dK (ks : List Key) (ds : List D)
  | ins (C : Addr) (ns : List Str) (ds : List D)
abbrev Th := Addr → Option Cell
def ups (θ : Th) (a : Addr) (c : Cell) : Th := fun b => if b = a then some c else θ b
def ers (θ : Th) (a : Addr) : Th := fun b => if b = a then none else θ b
theorem ups_same {θ : Th} {a : Addr} {c : Cell} : ups θ a c a = some c := if_pos rfl
theorem ups_ne {θ : Th} {a b : Addr} {c : Cell} (h : b ≠ a) : ups θ a c b = θ b := if_neg h
theorem ups_ups {θ : Th} {a : Addr} {c e : Cell} : ups (ups θ a c) a e = ups θ a e := by
  funext b; unfold ups; split <;> rfl
theorem ers_ups {θ : Th} {a : Addr} {c : Cell} (h : θ a = none) : ers (ups θ a c) a = θ := by
  funext b; unfold ers ups
  split
  · rename_i e; subst e; exact h.symm
  · rfl
theorem ups_self {θ : Th} {a : Addr} {c : Cell} (h : θ a = some c) : ups θ a c = θ := by
  funext b; unfold ups
  split
  · rename_i e; subst e; exact h.symm
  · rfl
theorem ups_comm {θ : Th} {a b : Addr} {c e : Cell} (h : a ≠ b) : ups (ups θ a c) b e = ups (ups θ b e) a c := by
  funext x; unfold ups
  by_cases h1 : x = b
  · subst h1; rw [if_pos rfl, if_neg (Ne.symm h), if_pos rfl]
  · rw [if_neg h1, if_neg h1]
theorem th_ne {θ : Th} {a b : Addr} {c : Cell} (h : θ a = some c) (h' : θ b = none) : a ≠ b := by
  intro e; subst e; rw [h] at h'; cases h'

def CellOk (K : PySem.W.Frag) (F : Fz) (H : Hp) (a : Addr) : Cell → Prop
  | .lst ds => ∃ vs, H a = some (.lst vs) ∧ RepL K F ds vs
  | .lstP P => ∃ ds vs, P ds ∧ H a = some (.lst vs) ∧ RepL K F ds vs
  | .dK ks ds => ∃ vs, H a = some (.dK (ks.zip vs)) ∧ ks.length = ds.length ∧ RepL K F ds vs
  | .ins C ns ds => ∃ dx vs, H a = some (.ins C dx (ns.zip vs)) ∧ ns.length = ds.length ∧ RepL K F ds vs
theorem CellOk.some {K : PySem.W.Frag} {F : Fz} {H : Hp} {a : Addr} {c : Cell} (h : CellOk K F H a c) : ∃ o, H a = some o := by
  cases c with
  | lst ds => obtain ⟨_, e, _⟩ := h; exact ⟨_, e⟩
  | lstP P => obtain ⟨_, _, _, e, _⟩ := h; exact ⟨_, e⟩
  | dK ks ds => obtain ⟨_, e, _⟩ := h; exact ⟨_, e⟩
  | ins C ns ds => obtain ⟨_, _, e, _⟩ := h; exact ⟨_, e⟩
theorem CellOk.mono {K : PySem.W.Frag} {F F' : Fz} {H H' : Hp} {a : Addr} {c : Cell} (s : Ext F F') (e : H' a = H a) (h : CellOk K F H a c) : CellOk K F' H' a c := by
  cases c with
  | lst ds => obtain ⟨_, q, r⟩ := h; exact ⟨_, e.trans q, r.mono s⟩
  | lstP P => obtain ⟨_, _, p, q, r⟩ := h; exact ⟨_, _, p, e.trans q, r.mono s⟩
  | dK ks ds => obtain ⟨_, q, l, r⟩ := h; exact ⟨_, e.trans q, l, r.mono s⟩
  | ins C ns ds => obtain ⟨_, _, q, l, r⟩ := h; exact ⟨_, _, e.trans q, l, r.mono s⟩

theorem CellOk.gr {K : PySem.W.Frag} {F : Fz} {G H : Hp} {a : Addr} {c : Cell} (h : CellOk K F H a c) : CellOk K ⟨F.fz, G⟩ H a c := by
  cases c with
  | lst ds => obtain ⟨_, q, r⟩ := h; exact ⟨_, q, r.gr⟩
  | lstP P => obtain ⟨_, _, p, q, r⟩ := h; exact ⟨_, _, p, q, r.gr⟩
  | dK ks ds => obtain ⟨_, q, l, r⟩ := h; exact ⟨_, q, l, r.gr⟩
  | ins C ns ds => obtain ⟨_, _, q, l, r⟩ := h; exact ⟨_, _, q, l, r.gr⟩

structure Rel (K : PySem.W.Frag) (F : Fz) (H : Hp) (θ : Th) : Prop where
  ex : Same F.fz H
  gr : Same F.gr H
  dj : ∀ a o, F.gr a = some o → F.fz a = none ∧ θ a = none
  cl : ∀ a c, θ a = some c → F.fz a = none ∧ CellOk K F H a c
section rel
variable {K : PySem.W.Frag} {F : Fz} {H : Hp} {θ : Th} {p a : Addr} {o : HO}
theorem Rel.fresh (r : Rel K F H θ) (h : H p = none) : F.fz p = none ∧ θ p = none ∧ F.gr p = none := by
  refine ⟨r.ex.free h, ?_, r.gr.free h⟩
  cases e : θ p with
  | none => rfl
  | some c =>
    obtain ⟨o, q⟩ := (r.cl p c e).2.some
    rw [h] at q; cases q
theorem same_upd {H : Hp} {p : Addr} {o : HO} (h : H p = none) : Same H (upd H p o) := fun b x e => by
  rw [upd_ne (ne_of_none e h)]; exact e
/-- a new object that nobody knows -/
theorem Rel.skip (r : Rel K F H θ) (h : H p = none) : Rel K F (upd H p o) θ := ⟨r.ex.trans (same_upd h), r.gr.trans (same_upd h), r.dj, fun a c e => by
  obtain ⟨f, k⟩ := r.cl a c e
  obtain ⟨q, hq⟩ := k.some
  exact ⟨f, k.mono (Ext.refl F) (upd_ne (ne_of_none hq h))⟩⟩
/-- a new object that never changes -/
theorem Rel.frz (r : Rel K F H θ) (h : H p = none) : Ext F (F.put p o) ∧ Rel K (F.put p o) (upd H p o) θ := by
  obtain ⟨hf, ht, hg⟩ := r.fresh h
  have s : Ext F (F.put p o) := ⟨same_upd hf, rfl⟩
  refine ⟨s, fun b x e => ?_, r.gr.trans (same_upd h), fun b x e => ?_, fun a c e => ?_⟩
  · show upd H p o b = some x
    have e : upd F.fz p o b = some x := e
    by_cases hb : b = p
    · subst hb; rw [upd_same] at e ⊢; exact e
    · rw [upd_ne hb] at e ⊢; exact r.ex b x e
  · obtain ⟨q1, q2⟩ := r.dj b x e
    have hb : b ≠ p := fun z => by subst z; rw [hg] at e; cases e
    exact ⟨(upd_ne hb).trans q1, q2⟩
  · obtain ⟨f, k⟩ := r.cl a c e
    obtain ⟨q, hq⟩ := k.some
    have ne := ne_of_none hq h
    exact ⟨(upd_ne ne).trans f, k.mono s (upd_ne ne)⟩
/-- a new cell -/
theorem Rel.cell {c : Cell} (r : Rel K F H θ) (h : H p = none) (k : CellOk K F (upd H p o) p c) : Rel K F (upd H p o) (ups θ p c) := by
  obtain ⟨hf, ht, hg⟩ := r.fresh h
  refine ⟨r.ex.trans (same_upd h), r.gr.trans (same_upd h), fun b x e => ?_, fun a e q => ?_⟩
  · obtain ⟨q1, q2⟩ := r.dj b x e
    have hb : b ≠ p := fun z => by subst z; rw [hg] at e; cases e
    exact ⟨q1, (ups_ne hb).trans q2⟩
  · by_cases hb : a = p
    · subst hb; rw [ups_same] at q; cases q; exact ⟨hf, k⟩
    · rw [ups_ne hb] at q
      obtain ⟨f, k'⟩ := r.cl a e q
      exact ⟨f, k'.mono (Ext.refl F) (upd_ne hb)⟩
theorem Rel.nogr {c : Cell} (r : Rel K F H θ) (h : θ a = some c) : F.gr a = none := by
  cases e : F.gr a with
  | none => rfl
  | some o =>
    have := (r.dj a o e).2
    rw [h] at this; cases this
/-- a cell is changed -/
theorem Rel.put {c c' : Cell} (r : Rel K F H θ) (h : θ a = some c) (k : CellOk K F (upd H a o) a c') : Rel K F (upd H a o) (ups θ a c') := by
  have fa := (r.cl a c h).1
  have ga := r.nogr h
  refine ⟨fun b x e => ?_, fun b x e => ?_, fun b x e => ?_, fun b e q => ?_⟩
  · have : b ≠ a := fun z => by subst z; rw [fa] at e; cases e
    rw [upd_ne this]; exact r.ex b x e
  · have : b ≠ a := fun z => by subst z; rw [ga] at e; cases e
    rw [upd_ne this]; exact r.gr b x e
  · have : b ≠ a := fun z => by subst z; rw [ga] at e; cases e
    obtain ⟨q1, q2⟩ := r.dj b x e
    exact ⟨q1, (ups_ne this).trans q2⟩
  · by_cases hb : b = a
    · subst hb; rw [ups_same] at q; cases q; exact ⟨fa, k⟩
    · rw [ups_ne hb] at q
      obtain ⟨f, k'⟩ := r.cl b e q
      exact ⟨f, k'.mono (Ext.refl F) (upd_ne hb)⟩
/-- a cell never changes any more -/
theorem Rel.freeze {c : Cell} (r : Rel K F H θ) (h : θ a = some c) (e : H a = some o) : Ext F (F.put a o) ∧ Rel K (F.put a o) H (ers θ a) := by
  have fa := (r.cl a c h).1
  have ga := r.nogr h
  have s : Ext F (F.put a o) := ⟨same_upd fa, rfl⟩
  refine ⟨s, fun b x q => ?_, r.gr, fun b x q => ?_, fun b e' q => ?_⟩
  · have q : upd F.fz a o b = some x := q
    by_cases hb : b = a
    · subst hb; rw [upd_same] at q; cases q; exact e
    · rw [upd_ne hb] at q; exact r.ex b x q
  · have hb : b ≠ a := fun z => by subst z; rw [ga] at q; cases q
    obtain ⟨q1, q2⟩ := r.dj b x q
    exact ⟨(upd_ne hb).trans q1, (if_neg hb).trans q2⟩
  · by_cases hb : b = a
    · subst hb; unfold ers at q; rw [if_pos rfl] at q; cases q
    · unfold ers at q; rw [if_neg hb] at q
      obtain ⟨f, k⟩ := r.cl b e' q
      exact ⟨(upd_ne hb).trans f, k.mono s rfl⟩
/-- another view of a cell -/
theorem Rel.view {c c' : Cell} (r : Rel K F H θ) (h : θ a = some c) (k : CellOk K F H a c') : Rel K F H (ups θ a c') := by
  have fa := (r.cl a c h).1
  have ga := r.nogr h
  refine ⟨r.ex, r.gr, fun b x q => ?_, fun b e q => ?_⟩
  · have hb : b ≠ a := fun z => by subst z; rw [ga] at q; cases q
    obtain ⟨q1, q2⟩ := r.dj b x q
    exact ⟨q1, (ups_ne hb).trans q2⟩
  · by_cases hb : b = a
    · subst hb; rw [ups_same] at q; cases q; exact ⟨fa, k⟩
    · rw [ups_ne hb] at q; exact r.cl b e q
/-- an object is left alone -/
theorem Rel.hide (r : Rel K F H θ) (h : F.fz p = none) (ht : θ p = none) (e : H p = some o) : Rel K ⟨F.fz, upd F.gr p o⟩ H θ := by
  refine ⟨r.ex, fun b x q => ?_, fun b x q => ?_, fun b c q => ?_⟩
  · have q : upd F.gr p o b = some x := q
    by_cases hb : b = p
    · subst hb; rw [upd_same] at q; cases q; exact e
    · rw [upd_ne hb] at q; exact r.gr b x q
  · have q : upd F.gr p o b = some x := q
    by_cases hb : b = p
    · subst hb; exact ⟨h, ht⟩
    · rw [upd_ne hb] at q; exact r.dj b x q
  · obtain ⟨f, k⟩ := r.cl b c q
    exact ⟨f, k.gr⟩
/-- less is left alone -/
theorem Rel.unhide {G : Hp} (r : Rel K F H θ) (s : Same G F.gr) : Rel K ⟨F.fz, G⟩ H θ :=
  ⟨r.ex, s.trans r.gr, fun b x q => r.dj b x (s b x q), fun b c q => ⟨(r.cl b c q).1, (r.cl b c q).2.gr⟩⟩
end rel

/-! ### slots -/
abbrev Sl := List (Option D)
structure RepS (K : PySem.W.Frag) (F : Fz) (ρ : Sl) (σ : L2.St) : Prop where
  len : σ.length = ρ.length
  at_ : ∀ (i : Nat) d, ρ[i]? = some (some d) → ∃ v, σ[i]? = some (some v) ∧ Rep K F d v
section reps
variable {K : PySem.W.Frag} {F F' : Fz} {ρ : Sl} {σ : L2.St}
theorem RepS.mono (s : Ext F F') (h : RepS K F ρ σ) : RepS K F' ρ σ := ⟨h.len, fun i d e => by
  obtain ⟨v, e1, r⟩ := h.at_ i d e
  exact ⟨v, e1, r.mono s⟩⟩
theorem RepS.set {d : D} {v : V} (h : RepS K F ρ σ) (r : Rep K F d v) (i : Nat) : RepS K F (ρ.set i (some d)) (σ.set i (some v)) := by
  refine ⟨by rw [List.length_set, List.length_set]; exact h.len, fun j e q => ?_⟩
  by_cases hj : i = j
  · subst hj
    by_cases hi : i < ρ.length
    · rw [List.getElem?_set_self hi] at q
      cases q
      exact ⟨v, List.getElem?_set_self (by rw [h.len]; exact hi), r⟩
    · rw [List.getElem?_eq_none (by rw [List.length_set]; omega)] at q; cases q
  · rw [List.getElem?_set_ne hj] at q ⊢
    exact h.at_ j e q
theorem RepS.clear (h : RepS K F ρ σ) (i : Nat) : RepS K F (ρ.set i none) (σ.set i none) := by
  refine ⟨by rw [List.length_set, List.length_set]; exact h.len, fun j e q => ?_⟩
  by_cases hj : i = j
  · subst hj
    by_cases hi : i < ρ.length
    · rw [List.getElem?_set_self hi] at q
      cases q
    · rw [List.getElem?_eq_none (by rw [List.length_set]; omega)] at q; cases q
  · rw [List.getElem?_set_ne hj] at q ⊢
    exact h.at_ j e q
/-- a slot is forgotten -/
theorem RepS.forget (h : RepS K F ρ σ) (i : Nat) : RepS K F (ρ.set i none) σ := by
  refine ⟨by rw [List.length_set]; exact h.len, fun j e q => ?_⟩
  by_cases hj : i = j
  · subst hj
    by_cases hi : i < ρ.length
    · rw [List.getElem?_set_self hi] at q
      cases q
    · rw [List.getElem?_eq_none (by rw [List.length_set]; omega)] at q; cases q
  · rw [List.getElem?_set_ne hj] at q
    exact h.at_ j e q
/-- a slot's value is seen as another datum -/
theorem RepS.see {d : D} (h : RepS K F ρ σ) (i : Nat) (r : ∀ v, σ[i]? = some (some v) → Rep K F d v) (d0 : D) (e0 : ρ[i]? = some (some d0)) : RepS K F (ρ.set i (some d)) σ := by
  refine ⟨by rw [List.length_set]; exact h.len, fun j e q => ?_⟩
  by_cases hj : i = j
  · subst hj
    have hi : i < ρ.length := (List.getElem?_eq_some_iff.mp e0).1
    rw [List.getElem?_set_self hi] at q
    cases q
    obtain ⟨v, e1, _⟩ := h.at_ i d0 e0
    exact ⟨v, e1, r v e1⟩
  · rw [List.getElem?_set_ne hj] at q
    exact h.at_ j e q
theorem RepS.gr {G : Hp} (h : RepS K F ρ σ) : RepS K ⟨F.fz, G⟩ ρ σ := ⟨h.len, fun i d e => by
  obtain ⟨v, e1, r⟩ := h.at_ i d e
  exact ⟨v, e1, r.gr⟩⟩
def wipD (ρ : Sl) : List Nat → Sl
  | [] => ρ
  | v :: vs => (wipD ρ vs).set v none
theorem RepS.wipe (h : RepS K F ρ σ) : ∀ vs : List Nat, RepS K F (wipD ρ vs) (L2.wipe σ vs)
  | [] => h
  | v :: vs => (RepS.wipe h vs).clear v
def startD (N : List Str) (ds : List D) : Sl := ds.map some ++ List.replicate (N.length - ds.length) none
theorem RepS.start {N : List Str} {ds : List D} {vs : List V} (h : RepL K F ds vs) : RepS K F (startD N ds) (L2.start N vs) := by
  have hl := h.length
  refine ⟨?_, fun i d e => ?_⟩
  · unfold startD L2.start
    simp only [List.length_append, List.length_map, List.length_replicate, hl]
  · unfold startD at e
    by_cases hi : i < ds.length
    · rw [List.getElem?_append_left (by simpa using hi), List.getElem?_map] at e
      cases q : ds[i]? with
      | none => rw [q] at e; cases e
      | some a =>
        rw [q] at e; cases e
        obtain ⟨v, e1, r⟩ := h.get q
        refine ⟨v, ?_, r⟩
        unfold L2.start
        rw [List.getElem?_append_left (by simpa [hl] using hi), List.getElem?_map, e1]
        rfl
    · rw [List.getElem?_append_right (by simpa using hi), List.getElem?_replicate] at e
      split at e <;> cases e
end reps
end DL

set_option linter.all false
set_option maxRecDepth 100000
set_option maxHeartbeats 2000000
namespace DL
open PySem PySem.Spec PyProof.Rows L2

/-! ### readings over data -/
abbrev DQ := D → Th → Prop
abbrev DTE := Sl → Th → DQ → Prop
abbrev DTT := Sl → Th → (Bool → Th → Prop) → Prop
abbrev DTA := Sl → Th → (List D → Th → Prop) → Prop
abbrev DXK := Value → List Str → List D → Th → Prop
structure DEnds where
  nx : Sl → Th → Prop
  rt : DQ
  bk : Sl → Th → Prop := fun _ _ => False
  ct : Sl → Th → Prop := fun _ _ => False
abbrev DTS := DEnds → Sl → Th → Prop

def getS : Sl → Nat → Option D
  | [], _ => none
  | x :: _, 0 => x
  | _ :: r, i + 1 => getS r i
def setS : Sl → Nat → Option D → Sl
  | [], _, _ => []
  | _ :: r, 0, d => d :: r
  | x :: r, i + 1, d => x :: setS r i d
theorem getS_eq : ∀ (ρ : Sl) (i : Nat) (d : D), getS ρ i = some d → ρ[i]? = some (some d)
  | [], _, _, h => by cases h
  | x :: _, 0, d, h => by
    have e : x = some d := h
    rw [e]; rfl
  | _ :: r, i + 1, d, h => getS_eq r i d h
theorem setS_eq : ∀ (ρ : Sl) (i : Nat) (d : Option D), setS ρ i d = ρ.set i d
  | [], _, _ => rfl
  | _ :: _, 0, _ => rfl
  | x :: r, i + 1, d => by rw [setS, setS_eq r i d, List.set_cons_succ]

def XRep (K : PySem.W.Frag) (F : Fz) (ns : List Str) (ds : List D) : Option Addr → Prop
  | none => ns = [] ∧ ds = []
  | some a => ∃ vs, F.fz a = some (.xd (ns.zip vs)) ∧ ns.length = ds.length ∧ RepL K F ds vs
def Cont (K : PySem.W.Frag) (F : Fz) (Q : DQ) (Qc : VK) : Prop := ∀ v H' F' θ' d, Ext F F' → Rel K F' H' θ' → Rep K F' d v → Q d θ' → Qc v H'
def ContX (K : PySem.W.Frag) (F : Fz) (Ed : DXK) (W : XK) : Prop := ∀ c dd H' F' θ' ns ds, Ext F F' → Rel K F' H' θ' → XRep K F' ns ds dd → Ed c ns ds θ' → W c dd H'
theorem Cont.mono {K : PySem.W.Frag} {F F' : Fz} {Q : DQ} {Qc : VK} (s : Ext F F') (c : Cont K F Q Qc) : Cont K F' Q Qc := fun v H' F2 θ' d s2 => c v H' F2 θ' d (s.trans s2)
theorem ContX.mono {K : PySem.W.Frag} {F F' : Fz} {Ed : DXK} {W : XK} (s : Ext F F') (c : ContX K F Ed W) : ContX K F' Ed W := fun v dd H' F2 θ' ns ds s2 => c v dd H' F2 θ' ns ds (s.trans s2)
structure Nd (K : PySem.W.Frag) (Ed : DXK) (W : XK) (F : Fz) (H : Hp) (σ : L2.St) (ρ : Sl) (θ : Th) : Prop where
  rel : Rel K F H θ
  sl : RepS K F ρ σ
  cx : ContX K F Ed W
theorem Nd.step {K : PySem.W.Frag} {Ed : DXK} {W : XK} {F F' : Fz} {H H' : Hp} {σ : L2.St} {ρ : Sl} {θ θ' : Th} (n : Nd K Ed W F H σ ρ θ) (s : Ext F F') (r : Rel K F' H' θ') : Nd K Ed W F' H' σ ρ θ' := ⟨r, n.sl.mono s, n.cx.mono s⟩
theorem Nd.slot {K : PySem.W.Frag} {Ed : DXK} {W : XK} {F : Fz} {H : Hp} {σ σ' : L2.St} {ρ ρ' : Sl} {θ : Th} (n : Nd K Ed W F H σ ρ θ) (s : RepS K F ρ' σ') : Nd K Ed W F H σ' ρ' θ := ⟨n.rel, s, n.cx⟩

def upE (K : PySem.W.Frag) (Ed : DXK) (W : XK) (t : DTE) : TE := fun σ H Qc => ∃ F ρ θ Q, Nd K Ed W F H σ ρ θ ∧ t ρ θ Q ∧ Cont K F Q Qc
def upT (K : PySem.W.Frag) (Ed : DXK) (W : XK) (t : DTT) : TT := fun σ H Qc => ∃ F ρ θ Q, Nd K Ed W F H σ ρ θ ∧ t ρ θ Q ∧ ∀ b H' F' θ', Ext F F' → Rel K F' H' θ' → Q b θ' → Qc b H'
def upA (K : PySem.W.Frag) (Ed : DXK) (W : XK) (t : DTA) : TA := fun σ H Qc => ∃ F ρ θ Q, Nd K Ed W F H σ ρ θ ∧ t ρ θ Q ∧ ∀ vs H' F' θ' ds, Ext F F' → Rel K F' H' θ' → RepL K F' ds vs → Q ds θ' → Qc vs H'
abbrev DTO := Sl → Th → (Option Int → Th → Prop) → Prop
def upO (K : PySem.W.Frag) (Ed : DXK) (W : XK) (t : DTO) : TO := fun σ H Qc => ∃ F ρ θ Q, Nd K Ed W F H σ ρ θ ∧ t ρ θ Q ∧ ∀ o H' F' θ', Ext F F' → Rel K F' H' θ' → Q o θ' → Qc o H'
structure EndsUp (K : PySem.W.Frag) (Ed : DXK) (W : XK) (F : Fz) (D : DEnds) (E : Ends) : Prop where
  nx : ∀ σ' H' F' ρ' θ', Ext F F' → Nd K Ed W F' H' σ' ρ' θ' → D.nx ρ' θ' → E.nx σ' H'
  rt : Cont K F D.rt E.rt
  bk : ∀ σ' H' F' ρ' θ', Ext F F' → Nd K Ed W F' H' σ' ρ' θ' → D.bk ρ' θ' → E.bk σ' H'
  ct : ∀ σ' H' F' ρ' θ', Ext F F' → Nd K Ed W F' H' σ' ρ' θ' → D.ct ρ' θ' → E.ct σ' H'
theorem EndsUp.mono {K : PySem.W.Frag} {Ed : DXK} {W : XK} {F F' : Fz} {D : DEnds} {E : Ends} (s : Ext F F') (h : EndsUp K Ed W F D E) : EndsUp K Ed W F' D E :=
  ⟨fun σ' H' F2 ρ' θ' s2 => h.nx σ' H' F2 ρ' θ' (s.trans s2), h.rt.mono s, fun σ' H' F2 ρ' θ' s2 => h.bk σ' H' F2 ρ' θ' (s.trans s2), fun σ' H' F2 ρ' θ' s2 => h.ct σ' H' F2 ρ' θ' (s.trans s2)⟩
def upS (K : PySem.W.Frag) (Ed : DXK) (W : XK) (t : DTS) : TS := fun E σ H => ∃ F ρ θ D, Nd K Ed W F H σ ρ θ ∧ t D ρ θ ∧ EndsUp K Ed W F D E

section judg
variable (X : Cx) (Ed : DXK) (W : XK)
abbrev DE (e : Expr) (t : DTE) : Prop := PE X e (upE X.K Ed W t)
abbrev DT (e : Expr) (t : DTT) : Prop := PT X e (upT X.K Ed W t)
abbrev DW (e : Expr) (t : DTT) : Prop := PW X e (upT X.K Ed W t)
abbrev DA (es : List Expr) (t : DTA) : Prop := PA X es (upA X.K Ed W t)
abbrev DO (o : Option Expr) (t : DTO) : Prop := PO X o (upO X.K Ed W t)
abbrev DS (st : Stmt) (t : DTS) : Prop := PS X st (upS X.K Ed W t)
abbrev DSs (st : List Stmt) (t : DTS) : Prop := PSs X st (upS X.K Ed W t)
end judg

section imp
variable {X : Cx}
theorem _root_.L2.PE.imp {e : Expr} {u u' : TE} (h : PE X e u) (k : ∀ σ H Q, u' σ H Q → u σ H Q) : PE X e u' := ⟨fun pins s σ H Q I q => h.run pins s σ H Q I (k _ _ _ q)⟩
theorem _root_.L2.PT.imp {e : Expr} {u u' : TT} (h : PT X e u) (k : ∀ σ H Q, u' σ H Q → u σ H Q) : PT X e u' := ⟨fun pins s σ H Q I q => h.run pins s σ H Q I (k _ _ _ q)⟩
theorem _root_.L2.PW.imp {e : Expr} {u u' : TT} (h : PW X e u) (k : ∀ σ H Q, u' σ H Q → u σ H Q) : PW X e u' := ⟨fun wh pins s σ H Q I q => h.run wh pins s σ H Q I (k _ _ _ q)⟩
theorem _root_.L2.PA.imp {e : List Expr} {u u' : TA} (h : PA X e u) (k : ∀ σ H Q, u' σ H Q → u σ H Q) : PA X e u' := ⟨fun pos pins s σ H Q I q => h.run pos pins s σ H Q I (k _ _ _ q)⟩
theorem _root_.L2.PO.imp {e : Option Expr} {u u' : TO} (h : PO X e u) (k : ∀ σ H Q, u' σ H Q → u σ H Q) : PO X e u' := ⟨fun pins s σ H Q I q => h.run pins s σ H Q I (k _ _ _ q)⟩
theorem _root_.L2.PS.imp {e : Stmt} {u u' : TS} (h : PS X e u) (k : ∀ D σ H, u' D σ H → u D σ H) : PS X e u' := ⟨fun pins s σ H D I q => h.run pins s σ H D I (k _ _ _ q)⟩
theorem _root_.L2.PSs.imp {e : List Stmt} {u u' : TS} (h : PSs X e u) (k : ∀ D σ H, u' D σ H → u D σ H) : PSs X e u' := ⟨fun pins s σ H D I q => h.run pins s σ H D I (k _ _ _ q)⟩
theorem OpR.imp {f : Value → Value → Sem Value} {r r' : R2} (h : OpR X f r) (k : ∀ x y H Q, r' x y H Q → r x y H Q) : OpR X f r' := fun pins s σ H x y v u Q I rx ry q => h pins s σ H x y v u Q I rx ry (k _ _ _ _ q)
end imp

/-! ### operations on data -/
abbrev D2 := D → D → Th → DQ → Prop
abbrev D1 := D → Th → DQ → Prop
abbrev DC := List D → Th → DQ → Prop
abbrev DM := D → List D → Th → DQ → Prop
def up2 (K : PySem.W.Frag) (dr : D2) : R2 := fun x y H Qc => ∃ F θ dx dy Q, Rel K F H θ ∧ Rep K F dx x ∧ Rep K F dy y ∧ dr dx dy θ Q ∧ Cont K F Q Qc
def up1 (K : PySem.W.Frag) (dr : D1) : V → Hp → VK → Prop := fun x H Qc => ∃ F θ dx Q, Rel K F H θ ∧ Rep K F dx x ∧ dr dx θ Q ∧ Cont K F Q Qc
def upC (K : PySem.W.Frag) (dr : DC) : List V → Hp → VK → Prop := fun xs H Qc => ∃ F θ ds Q, Rel K F H θ ∧ RepL K F ds xs ∧ dr ds θ Q ∧ Cont K F Q Qc
def upM (K : PySem.W.Frag) (dr : DM) : V → List V → Hp → VK → Prop := fun x xs H Qc => ∃ F θ dx ds Q, Rel K F H θ ∧ Rep K F dx x ∧ RepL K F ds xs ∧ dr dx ds θ Q ∧ Cont K F Q Qc

def asL (θ : Th) : D → Option (List D)
  | .lst ds => some ds
  | .rol ds => some ds
  | .ref a => match θ a with
    | some (.lst ds) => some ds
    | _ => none
  | _ => none
def asH (θ : Th) : D → Option (List D)
  | .lst ds => some ds
  | .ref a => match θ a with
    | some (.lst ds) => some ds
    | _ => none
  | _ => none
section as
variable {K : PySem.W.Frag} {F : Fz} {H : Hp} {θ : Th} {d : D} {ds : List D} {v : V}
theorem asH_ok (r : Rel K F H θ) (h : Rep K F d v) (e : asH θ d = some ds) : ∃ a vs, v = .ref a ∧ H a = some (.lst vs) ∧ RepL K F ds vs := by
  cases d <;> simp only [asH] at e <;> try cases e
  · rename_i a
    split at e
    · rename_i ds' q
      cases e
      obtain ⟨_, vs, h2, r2⟩ := r.cl _ _ q
      exact ⟨a, vs, h, h2, r2⟩
    · cases e
  · obtain ⟨a, vs, h1, h2, r2⟩ := h
    exact ⟨a, vs, h1, r.ex _ _ h2, r2⟩
theorem asL_ok (r : Rel K F H θ) (h : Rep K F d v) (e : asL θ d = some ds) : ∃ a vs, v = .ref a ∧ SqL K H a vs ∧ RepL K F ds vs := by
  cases d <;> simp only [asL] at e <;> try cases e
  · rename_i a
    split at e
    · rename_i ds' q
      cases e
      obtain ⟨_, vs, h2, r2⟩ := r.cl _ _ q
      exact ⟨a, vs, h, .of h2, r2⟩
    · cases e
  · obtain ⟨a, vs, h1, h2, r2⟩ := h
    exact ⟨a, vs, h1, .of (r.ex _ _ h2), r2⟩
  · obtain ⟨a, vs, h1, h2, r2⟩ := h
    exact ⟨a, vs, h1, r.ex.seq h2, r2⟩
end as

/-- a new list: a value that never changes, or a cell -/
def newL (c : Bool) (ds : List D) (θ : Th) (Q : DQ) : Prop := if c = true then ∀ a, θ a = none → Q (.ref a) (ups θ a (.lst ds)) else Q (.lst ds) θ
section newl
variable {K : PySem.W.Frag} {F : Fz} {H : Hp} {θ : Th} {ds : List D} {vs : List V} {Q : DQ} {Qc : VK} {c : Bool}
theorem newL_ok (r : Rel K F H θ) (h : RepL K F ds vs) (q : newL c ds θ Q) (k : Cont K F Q Qc) : ∀ p, H p = none → Qc (.ref p) (upd H p (.lst vs)) := fun p hp => by
  unfold newL at q
  cases c with
  | true =>
    rw [if_pos rfl] at q
    exact k _ _ F _ (.ref p) (Ext.refl F) (r.cell hp (c := .lst ds) ⟨vs, upd_same, h⟩) rfl (q p (r.fresh hp).2.1)
  | false =>
    rw [if_neg Bool.false_ne_true] at q
    obtain ⟨s, r2⟩ := r.frz (o := .lst vs) hp
    exact k _ _ _ _ (.lst ds) s r2 ⟨p, vs, rfl, upd_same, h.mono s⟩ q
theorem newT_ok (r : Rel K F H θ) (h : RepL K F ds vs) (q : Q (.tup ds) θ) (k : Cont K F Q Qc) : ∀ p, H p = none → Qc (.ref p) (upd H p (.tup vs)) := fun p hp => by
  obtain ⟨s, r2⟩ := r.frz (o := .tup vs) hp
  exact k _ _ _ _ (.tup ds) s r2 ⟨p, vs, rfl, .of upd_same, h.mono s⟩ q
end newl

def dAdd (c : Bool) : D2 := fun x y θ Q => match x, y with
  | .int i, .int j => Q (.int (i + j)) θ
  | .str a, .str b => a.length + b.length ≤ sizeLine ∧ Q (.str (a ++ b)) θ
  | .tup a, .tup b => a.length + b.length ≤ sizeLine ∧ Q (.tup (a ++ b)) θ
  | x, y => ∃ a b, asH θ x = some a ∧ asH θ y = some b ∧ a.length + b.length ≤ sizeLine ∧ newL c (a ++ b) θ Q
def dSub : D2 := fun x y θ Q => match x, y with
  | .int i, .int j => Q (.int (i - j)) θ
  | _, _ => False
def dFdiv : D2 := fun x y θ Q => match x, y with
  | .int i, .int j => 0 < j ∧ j.natAbs < 2 ^ 9000 ∧ Q (.int (i / j)) θ
  | _, _ => False
def dMod : D2 := fun x y θ Q => match x, y with
  | .int i, .int j => 0 < j ∧ Q (.int (i % j)) θ
  | _, _ => False
def dPow : D2 := fun x y θ Q => match x, y with
  | .int i, .int j => 0 ≤ j ∧ (Builtin.Int.intBits i : Int) * j ≤ 2 ^ 27 ∧ Q (.int (i ^ j.toNat)) θ
  | _, _ => False
def repS (x : Str) (n : Nat) : Str := ⟨(List.replicate n x.cps).foldl (· ++ ·) #[]⟩
def dMul (c : Bool) : D2 := fun x y θ Q => match x, y with
  | .int i, .int j => (CMul i j ∨ CMulW i j) ∧ Q (.int (i * j)) θ
  | .str a, .int k => -(2 ^ 63) ≤ k ∧ k < 2 ^ 63 ∧ a.length * k.toNat ≤ sizeLine ∧ Q (.str (repS a k.toNat)) θ
  | x, .int k => ∃ a, asH θ x = some a ∧ -(2 ^ 63) ≤ k ∧ k < 2 ^ 63 ∧ a.length * k.toNat ≤ sizeLine ∧ newL c (List.replicate k.toNat a).flatten θ Q
  | _, _ => False

section ops
variable {X : Cx}
theorem tup_inv {K : PySem.W.Frag} {F : Fz} {H : Hp} {θ : Th} {ds : List D} {v : V} (r : Rel K F H θ) (h : Rep K F (.tup ds) v) : ∃ a vs, v = .ref a ∧ SqT K H a vs ∧ RepL K F ds vs := by
  obtain ⟨a, vs, e, q, t⟩ := h
  exact ⟨a, vs, e, same_t r.ex q, t⟩
theorem o_add {c : Bool} : OpR X (binaryOp .Add) (up2 X.K (dAdd c)) := by
  intro pins s σ H x y v u Qc I rx ry ⟨F, θ, dx, dy, Q, r, r1, r2, q, k⟩
  unfold dAdd at q
  split at q
  · cases r1; cases r2
    exact op_add pins s σ H _ _ v u Qc I rx ry ⟨_, _, rfl, rfl, k _ _ F _ (.int _) (Ext.refl F) r rfl q⟩
  · cases r1; cases r2
    exact op_add_str pins s σ H _ _ v u Qc I rx ry ⟨_, _, rfl, rfl, q.1, k _ _ F _ (.str _) (Ext.refl F) r rfl q.2⟩
  · obtain ⟨a, vs, rfl, h1, t1⟩ := tup_inv r r1
    obtain ⟨b, ws, rfl, h2, t2⟩ := tup_inv r r2
    have l1 := t1.length
    have l2 := t2.length
    refine op_catA pins s σ H _ _ v u Qc I rx ry ⟨a, b, vs, ws, rfl, rfl, h1, h2, by rw [l1, l2]; exact q.1, fun e => ?_, fun e e' => ?_, fun e e' => ?_⟩
    · rename_i p1 p2
      subst e
      have : p1 = [] := by cases p1 with
        | nil => rfl
        | cons => simp at l1
      subst this
      exact k _ _ F _ _ (Ext.refl F) r r2 q.2
    · rename_i p1 p2
      subst e'
      have : p2 = [] := by cases p2 with
        | nil => rfl
        | cons => simp at l2
      subst this
      rw [List.append_nil] at q
      exact k _ _ F _ _ (Ext.refl F) r r1 q.2
    · exact newT_ok r (t1.append t2) q.2 k
  · obtain ⟨a, b, e1, e2, hz, q⟩ := q
    obtain ⟨p, vs, rfl, h1, t1⟩ := asH_ok r r1 e1
    obtain ⟨p2, ws, rfl, h2, t2⟩ := asH_ok r r2 e2
    exact op_cat pins s σ H _ _ v u Qc I rx ry ⟨p, p2, vs, ws, rfl, rfl, h1, h2, by rw [t1.length, t2.length]; exact hz, newL_ok r (t1.append t2) q k⟩
theorem o_sub : OpR X (binaryOp .Sub) (up2 X.K dSub) := by
  intro pins s σ H x y v u Qc I rx ry ⟨F, θ, dx, dy, Q, r, r1, r2, q, k⟩
  unfold dSub at q
  split at q
  · cases r1; cases r2
    exact op_sub pins s σ H _ _ v u Qc I rx ry ⟨_, _, rfl, rfl, k _ _ F _ (.int _) (Ext.refl F) r rfl q⟩
  · cases q
theorem o_fdiv : OpR X (binaryOp .FloorDiv) (up2 X.K dFdiv) := by
  intro pins s σ H x y v u Qc I rx ry ⟨F, θ, dx, dy, Q, r, r1, r2, q, k⟩
  unfold dFdiv at q
  split at q
  · cases r1; cases r2
    exact op_fdivW pins s σ H _ _ v u Qc I rx ry ⟨_, _, rfl, rfl, wide_div q.1 q.2.1 (by decide) (by decide), k _ _ F _ (.int _) (Ext.refl F) r rfl q.2.2⟩
  · cases q
theorem o_mod : OpR X (binaryOp .Mod) (up2 X.K dMod) := by
  intro pins s σ H x y v u Qc I rx ry ⟨F, θ, dx, dy, Q, r, r1, r2, q, k⟩
  unfold dMod at q
  split at q
  · cases r1; cases r2
    exact op_mod pins s σ H _ _ v u Qc I rx ry ⟨_, _, rfl, rfl, q.1, k _ _ F _ (.int _) (Ext.refl F) r rfl q.2⟩
  · cases q
theorem o_pow : OpR X (binaryOp .Pow) (up2 X.K dPow) := by
  intro pins s σ H x y v u Qc I rx ry ⟨F, θ, dx, dy, Q, r, r1, r2, q, k⟩
  unfold dPow at q
  split at q
  · cases r1; cases r2
    obtain ⟨t, rfl⟩ := rx
    obtain ⟨t', rfl⟩ := ry
    exact pow_int q.1 q.2.1 ⟨.int _, H, I.tok _, ⟨_, rfl⟩, k _ _ F _ (.int _) (Ext.refl F) r rfl q.2.2⟩
  · cases q
theorem log2_zero_add {a b : Nat} (h : a.log2 + b.log2 < 1000000) : CMulW (a : Int) (b : Int) := h
theorem repS_one (x : Str) : repS x 1 = x := by
  unfold repS
  simp
theorem repS_empty (x : Str) (h : x.length = 0) : ∀ n, repS x n = x := by
  have hc : x.cps = #[] := Array.eq_empty_of_size_eq_zero h
  intro n
  have : ∀ n (acc : Array Nat), (List.replicate n x.cps).foldl (· ++ ·) acc = acc := by
    intro n
    induction n with
    | zero => intro _; rfl
    | succ n ih => intro acc; rw [List.replicate_succ, List.foldl_cons, hc, Array.append_empty, ← hc]; exact ih acc
  unfold repS
  rw [this n]
  cases x; simp at hc; rw [hc]
theorem o_mul {c : Bool} : OpR X (binaryOp .Mult) (up2 X.K (dMul c)) := by
  intro pins s σ H x y v u Qc I rx ry ⟨F, θ, dx, dy, Q, r, r1, r2, q, k⟩
  unfold dMul at q
  split at q
  · cases r1; cases r2
    have fin := k _ _ F _ (.int _) (Ext.refl F) r rfl q.2
    rcases q.1 with z | z
    · exact op_mul pins s σ H _ _ v u Qc I rx ry ⟨_, _, rfl, rfl, z, fin⟩
    · exact op_mulW pins s σ H _ _ v u Qc I rx ry ⟨_, _, rfl, rfl, z, fin⟩
  · rename_i a i
    cases r1; cases r2
    obtain ⟨t, rfl⟩ := rx
    obtain ⟨t', rfl⟩ := ry
    obtain ⟨h1, h2, hz, q⟩ := q
    have fin : ∀ st, Inv X pins σ H st → ∀ tk, EP X pins σ Qc (.str (repS a i.toNat) tk) st := fun st J tk => ⟨.str _, H, J, ⟨_, rfl⟩, k _ _ F _ (.str _) (Ext.refl F) r rfl q⟩
    refine P.mul_str (by simp only [Bool.or_eq_false_iff, decide_eq_false_iff_not]; omega) (fun g1 g2 => ?_) (fun g1 g2 => ?_) ?_
    · have hi : 0 < i := by omega
      intro hgt
      have h3 : ((a.length : Int)) * i ≤ sizeLine := by
        have : ((a.length * i.toNat : Nat) : Int) ≤ (sizeLine : Int) := by exact_mod_cast hz
        rw [Int.natCast_mul, Int.toNat_of_nonneg (by omega)] at this
        exact this
      have h4 : (a.length : Int) ≤ (2 ^ 63 - 1) / i := by
        rw [Int.le_ediv_iff_mul_le hi]
        refine Int.le_trans h3 ?_
        decide
      omega
    · show Builtin.Str.tooLong (a.length * i.toNat) = false
      unfold Builtin.Str.tooLong
      exact decide_eq_false (by omega)
    · split
      · rename_i hn
        refine ⟨by decide, ?_⟩
        have e0 : i.toNat = 0 := by omega
        have := fin { s with toks := s.toks + 1 } (I.tok _) s.toks
        rw [e0] at this
        exact this
      · split
        · rename_i hn h1
          have e : repS a i.toNat = a := by
            simp only [Bool.or_eq_true, beq_iff_eq] at h1
            rcases h1 with h1 | h1
            · subst h1; exact repS_one a
            · exact repS_empty a h1 _
          have := fin s I t
          rw [e] at this
          exact this
        · refine ⟨?_, fin { s with toks := s.toks + 1 } (I.tok _) s.toks⟩
          have hl : ∀ n (acc : Array Nat), ((List.replicate n a.cps).foldl (· ++ ·) acc).size = acc.size + a.cps.size * n := by
            intro n
            induction n with
            | zero => intro _; simp
            | succ n ih => intro acc; rw [List.replicate_succ, List.foldl_cons, ih, Array.size_append, Nat.mul_succ]; omega
          show ((List.replicate i.toNat a.cps).foldl (· ++ ·) #[]).size ≤ sizeLine
          rw [hl i.toNat #[]]
          show 0 + a.length * i.toNat ≤ sizeLine
          omega
  · obtain ⟨a, e1, h1, h2, hz, q⟩ := q
    obtain ⟨p, vs, rfl, g1, t1⟩ := asH_ok r r1 e1
    cases r2
    have hrep : ∀ n, RepL X.K F (List.replicate n a).flatten (List.replicate n vs).flatten := by
      intro n
      induction n with
      | zero => exact rfl
      | succ n ih => rw [List.replicate_succ, List.replicate_succ, List.flatten_cons, List.flatten_cons]; exact t1.append ih
    exact op_rep pins s σ H _ _ v u Qc I rx ry ⟨p, _, vs, rfl, rfl, g1, h1, h2, by rw [t1.length]; exact hz, newL_ok r (hrep _) q k⟩
  · cases q
end ops
end DL

set_option linter.all false
set_option maxRecDepth 100000
set_option maxHeartbeats 2000000
namespace DL
open PySem PySem.Spec PyProof.Rows L2

section expr
variable {X : Cx} {Ed : DXK} {W : XK} {a b c : Expr} {ta tb tc : DTE} {pos : Pos}

def dVar (i : Nat) : DTE := fun ρ θ Q => match getS ρ i with
  | some d => Q d θ
  | none => False
def dC (d : D) : DTE := fun _ θ Q => Q d θ
def dOp (dr : D2) (ta tb : DTE) : DTE := fun ρ θ Q => ta ρ θ fun x θ1 => tb ρ θ1 fun y θ2 => dr x y θ2 Q
def dUn (dr : D1) (ta : DTE) : DTE := fun ρ θ Q => ta ρ θ fun x θ1 => dr x θ1 Q

theorem d_var (i : Nat) {x : Str} {pos : Pos} (hN : X.N[i]? = some x := by rfl) (hv : Vis X.env.scope x := by first | exact Or.inl rfl | exact Or.inr (Or.inl rfl) | exact Or.inr (Or.inr rfl)) (hd : (x == ("__debug__" : Str)) = false := by decide)
    (hcd : (x == ("__classdict__" : Str)) = false := by decide) : DE X Ed W (.Name x pos) (dVar i) :=
  (pe_var (i := i) hN hv hd hcd).imp fun σ H Q ⟨F, ρ, θ, Qd, n, h, k⟩ => by
    unfold dVar at h
    split at h
    · rename_i d e
      obtain ⟨v, e1, r⟩ := n.sl.at_ i d (getS_eq ρ i d e)
      exact ⟨v, e1, k _ _ F _ d (Ext.refl F) n.rel r h⟩
    · cases h
theorem d_const {e : Expr} {v : V} {d : D} (he : PE X e (tC v)) (hr : ∀ F, Rep X.K F d v) : DE X Ed W e (dC d) :=
  he.imp fun σ H Q ⟨F, ρ, θ, Qd, n, h, k⟩ => k _ _ F _ d (Ext.refl F) n.rel (hr F) h
theorem d_int {i j pos} : DE X Ed W (.Constant (.int i) j pos) (dC (.int i)) := d_const pe_int fun _ => rfl
theorem d_bl {i j pos} : DE X Ed W (.Constant (.bool i) j pos) (dC (.bl i)) := d_const pe_bl fun _ => rfl
theorem d_non {j pos} : DE X Ed W (.Constant .none j pos) (dC .non) := d_const pe_non fun _ => rfl
theorem d_str {x j pos} : DE X Ed W (.Constant (.str x) j pos) (dC (.str x)) := d_const pe_str fun _ => rfl
/-- a module's constant: u its value -/
theorem d_glob {x : Str} {v : V} {u : Value} {d : D} {pos : Pos} (hm : X.mg x = some u) (r : RelV v u) (hr : ∀ F, Rep X.K F d v) (hg : Gl X x := by rfl) (hd : (x == ("__debug__" : Str)) = false := by decide) : DE X Ed W (.Name x pos) (dC d) :=
  d_const (pe_glob hg hm r hd) hr
theorem d_bltn {x : Str} {v : V} {u : Value} {d : D} {pos : Pos} (hm : X.mg x = none) (hv : bootBuiltins x = some u) (r : RelV v u) (hr : ∀ F, Rep X.K F d v) (hg : Gl X x := by rfl) (hn : x ≠ "__name__" := by decide) (hd : (x == ("__debug__" : Str)) = false := by decide) : DE X Ed W (.Name x pos) (dC d) :=
  d_const (pe_bltn hg hm hv r hn hd) hr

theorem two {dr : D2} {r : R2} (ha : DE X Ed W a ta) (hb : DE X Ed W b tb) {σ : L2.St} {H : Hp} {Q : VK} (h : upE X.K Ed W (dOp dr ta tb) σ H Q) :
    upE X.K Ed W ta σ H fun x H1 => upE X.K Ed W tb σ H1 fun y H2 => up2 X.K dr x y H2 Q := by
  obtain ⟨F, ρ, θ, Qd, n, h, k⟩ := h
  exact ⟨F, ρ, θ, _, n, h, fun v H1 F1 θ1 d s1 r1 rv q1 => ⟨F1, ρ, θ1, _, n.step s1 r1, q1, fun v2 H2 F2 θ2 d2 s2 r2 rv2 q2 => ⟨F2, θ2, d, d2, Qd, r2, rv.mono s2, rv2, q2, k.mono (s1.trans s2)⟩⟩⟩
theorem d_op {op : Operator} {dr : D2} (ho : OpR X (binaryOp op) (up2 X.K dr)) (ha : DE X Ed W a ta) (hb : DE X Ed W b tb) : DE X Ed W (.BinOp a op b pos) (dOp dr ta tb) :=
  (pe_op ho ha hb).imp fun σ H Q h => two (r := up2 X.K dr) ha hb h
theorem d_un {op : UnaryOp} {dr : D1} (ho : UnR X (unaryOp op) (up1 X.K dr)) (ha : DE X Ed W a ta) : DE X Ed W (.UnaryOp op a pos) (dUn dr ta) :=
  (pe_un ho ha).imp fun σ H Q ⟨F, ρ, θ, Qd, n, h, k⟩ => ⟨F, ρ, θ, _, n, h, fun v H1 F1 θ1 d s1 r1 rv q1 => ⟨F1, θ1, d, Qd, r1, rv, q1, k.mono s1⟩⟩
def dNeg : D1 := fun x θ Q => match x with
  | .int i => Q (.int (-i)) θ
  | _ => False
theorem o_neg : UnR X (unaryOp .USub) (up1 X.K dNeg) := by
  intro pins s σ H x v Qc I rx ⟨F, θ, dx, Q, r, r1, q, k⟩
  unfold dNeg at q
  split at q
  · cases r1
    exact un_neg pins s σ H _ v Qc I rx ⟨_, rfl, k _ _ F _ (.int _) (Ext.refl F) r rfl q⟩
  · cases q

/-! ### comparisons -/
theorem d_cmp {op : CmpOp} {dr : D2} (ho : OpR X (compareOp op) (up2 X.K dr)) (ha : DE X Ed W a ta) (hb : DE X Ed W b tb) (hm : behindInMarks op b = false := by first | exact nomark _ | rfl) : DE X Ed W (.Compare a [op] [b] pos) (dOp dr ta tb) :=
  (pe_cmpR ho ha hb hm).imp fun σ H Q h => two (r := up2 X.K dr) ha hb h
def dChain (dr dr' : D2) (ta tb tc : DTE) : DTE := fun ρ θ Q => ta ρ θ fun x θ1 => tb ρ θ1 fun y θ2 => dr x y θ2 fun z θ3 => match z with
  | .bl k => if k = true then tc ρ θ3 fun w θ4 => dr' y w θ4 Q else Q (.bl false) θ3
  | _ => False
theorem d_chain {op op' : CmpOp} {dr dr' : D2} (ho : OpR X (compareOp op) (up2 X.K dr)) (ho' : OpR X (compareOp op') (up2 X.K dr')) (ha : DE X Ed W a ta) (hb : DE X Ed W b tb) (hc : DE X Ed W c tc)
    (hm : lastMarks [op, op'] [b, c] = false := by with_unfolding_all rfl) : DE X Ed W (.Compare a [op, op'] [b, c] pos) (dChain dr dr' ta tb tc) :=
  (pe_chain ho ho' ha hb hc hm).imp fun σ H Q ⟨F, ρ, θ, Qd, n, h, k⟩ => by
    refine ⟨F, ρ, θ, _, n, h, fun v H1 F1 θ1 d s1 r1 rv q1 => ⟨F1, ρ, θ1, _, n.step s1 r1, q1, fun v2 H2 F2 θ2 d2 s2 r2 rv2 q2 => ⟨F2, θ2, d, d2, _, r2, rv.mono s2, rv2, q2, fun z H3 F3 θ3 d3 s3 r3 rv3 q3 => ?_⟩⟩⟩
    split at q3
    · rename_i kk
      refine ⟨kk, rv3, ?_⟩
      cases kk with
      | true =>
        rw [if_pos rfl] at q3 ⊢
        exact ⟨F3, ρ, θ3, _, n.step ((s1.trans s2).trans s3) r3, q3, fun v4 H4 F4 θ4 d4 s4 r4 rv4 q4 => ⟨F4, θ4, d2, d4, Qd, r4, rv2.mono (s3.trans s4), rv4, q4, k.mono (((s1.trans s2).trans s3).trans s4)⟩⟩
      | false =>
        rw [if_neg Bool.false_ne_true] at q3 ⊢
        exact k _ _ F3 _ (.bl false) ((s1.trans s2).trans s3) r3 rfl q3
    · cases q3

def scD : D → D → Option Bool
  | .non, .non => some true | .non, .int _ => some false | .int _, .non => some false | .non, .bl _ => some false | .bl _, .non => some false | .non, .str _ => some false | .str _, .non => some false
  | .int i, .int j => some (decide (i = j)) | .bl i, .bl j => some (decide (i = j)) | .str i, .str j => some (decide (i = j))
  | .int _, .str _ => some false | .str _, .int _ => some false | .bl _, .str _ => some false | .str _, .bl _ => some false
  | _, _ => none
theorem scD_ok {K : PySem.W.Frag} {F : Fz} {x y : D} {v u : V} {k : Bool} (r1 : Rep K F x v) (r2 : Rep K F y u) (h : scD x y = some k) : scal v u = true ∧ decide (v = u) = k := by
  cases x <;> cases y <;> simp only [scD, Option.some.injEq, reduceCtorEq] at h <;> (subst h; cases r1; cases r2; refine ⟨rfl, ?_⟩; simp)
def dEq : D2 := fun x y θ Q => ∃ k, scD x y = some k ∧ Q (.bl k) θ
def dNe : D2 := fun x y θ Q => ∃ k, scD x y = some k ∧ Q (.bl (!k)) θ
theorem o_eq : OpR X (compareOp .Eq) (up2 X.K dEq) := by
  intro pins s σ H x y v u Qc I rx ry ⟨F, θ, dx, dy, Q, r, r1, r2, ⟨kk, e, q⟩, k⟩
  obtain ⟨h1, h2⟩ := scD_ok r1 r2 e
  exact op_eq pins s σ H _ _ v u Qc I rx ry ⟨h1, by rw [h2]; exact k _ _ F _ (.bl _) (Ext.refl F) r rfl q⟩
theorem o_ne : OpR X (compareOp .NotEq) (up2 X.K dNe) := by
  intro pins s σ H x y v u Qc I rx ry ⟨F, θ, dx, dy, Q, r, r1, r2, ⟨kk, e, q⟩, k⟩
  obtain ⟨h1, h2⟩ := scD_ok r1 r2 e
  exact op_ne pins s σ H _ _ v u Qc I rx ry ⟨h1, by rw [h2]; exact k _ _ F _ (.bl _) (Ext.refl F) r rfl q⟩
def dCmpI (p : Int → Int → Bool) : D2 := fun x y θ Q => match x, y with
  | .int i, .int j => Q (.bl (p i j)) θ
  | _, _ => False
abbrev dLt : D2 := dCmpI fun i j => decide (i < j)
abbrev dLe : D2 := dCmpI fun i j => decide (i ≤ j)
abbrev dGt : D2 := dCmpI fun i j => decide (j < i)
abbrev dGe : D2 := dCmpI fun i j => decide (j ≤ i)
theorem o_cmpI {f : Value → Value → Sem Value} {p : Int → Int → Bool} (h : OpR X f (rI0 fun i j => .bl (p i j))) : OpR X f (up2 X.K (dCmpI p)) := by
  intro pins s σ H x y v u Qc I rx ry ⟨F, θ, dx, dy, Q, r, r1, r2, q, k⟩
  unfold dCmpI at q
  split at q
  · cases r1; cases r2
    exact h pins s σ H _ _ v u Qc I rx ry ⟨_, _, rfl, rfl, k _ _ F _ (.bl _) (Ext.refl F) r rfl q⟩
  · cases q
theorem o_lt : OpR X (compareOp .Lt) (up2 X.K dLt) := o_cmpI op_lt
theorem o_le : OpR X (compareOp .LtE) (up2 X.K dLe) := o_cmpI op_le
theorem o_gt : OpR X (compareOp .Gt) (up2 X.K dGt) := o_cmpI op_gt
theorem o_ge : OpR X (compareOp .GtE) (up2 X.K dGe) := o_cmpI op_ge
def isN : D → Bool
  | .non => true
  | _ => false
theorem isN_ok {K : PySem.W.Frag} {F : Fz} {x : D} {v : V} (r : Rep K F x v) : decide (v = .non) = isN x := by
  cases x <;> first
    | (cases r; rfl)
    | (obtain ⟨_, _, e, _⟩ := r; subst e; rfl)
    | (obtain ⟨_, _, _, e, _⟩ := r; subst e; rfl)
/-- is None, is True, is False -/
def dIs : D2 := fun x y θ Q => match y with
  | .non => Q (.bl (isN x)) θ
  | _ => False
def dIsNot : D2 := fun x y θ Q => match y with
  | .non => Q (.bl (!isN x)) θ
  | _ => False
theorem o_is : OpR X (compareOp .Is) (up2 X.K dIs) := by
  intro pins s σ H x y v u Qc I rx ry ⟨F, θ, dx, dy, Q, r, r1, r2, q, k⟩
  unfold dIs at q
  split at q
  · cases r2
    exact op_isN pins s σ H _ _ v u Qc I rx ry ⟨rfl, by rw [isN_ok r1]; exact k _ _ F _ (.bl _) (Ext.refl F) r rfl q⟩
  · cases q
theorem o_isnot : OpR X (compareOp .IsNot) (up2 X.K dIsNot) := by
  intro pins s σ H x y v u Qc I rx ry ⟨F, θ, dx, dy, Q, r, r1, r2, q, k⟩
  unfold dIsNot at q
  split at q
  · cases r2
    exact op_notN pins s σ H _ _ v u Qc I rx ry ⟨rfl, by rw [isN_ok r1]; exact k _ _ F _ (.bl _) (Ext.refl F) r rfl q⟩
  · cases q

/-! ### in -/
def flatD : D → Bool
  | .non => true | .bl _ => true | .int _ => true | .str _ => true | _ => false
def eqF : D → D → Bool
  | .non, .non => true
  | .bl a, .bl b => a == b
  | .bl a, .int b => (if a then 1 else 0) == b
  | .int a, .bl b => a == (if b then 1 else 0)
  | .int a, .int b => a == b
  | .str a, .str b => a == b
  | _, _ => false
theorem flatD_ok {K : PySem.W.Frag} {F : Fz} {x : D} {v : V} (r : Rep K F x v) (h : flatD x = true) : flatV v = true := by
  cases x <;> simp only [flatD, Bool.false_eq_true] at h <;> (cases r; rfl)
theorem eqF_ok {K : PySem.W.Frag} {F : Fz} {x y : D} {v u : V} (r : Rep K F x v) (r' : Rep K F y u) (h : flatD x = true) (h' : flatD y = true) : eqV v u = eqF x y := by
  cases x <;> simp only [flatD, Bool.false_eq_true] at h <;> cases y <;> simp only [flatD, Bool.false_eq_true] at h' <;> (cases r; cases r'; rfl)
theorem flats_ok {K : PySem.W.Frag} {F : Fz} : ∀ {ds : List D} {vs : List V}, RepL K F ds vs → ds.all flatD = true → vs.all flatV = true
  | [], _, r, _ => by cases (show _ = [] from r); rfl
  | d :: ds, _, r, h => by
    obtain ⟨w, ws, rfl, r1, r2⟩ := r
    rw [List.all_cons, Bool.and_eq_true] at h
    rw [List.all_cons, Bool.and_eq_true]
    exact ⟨flatD_ok r1 h.1, flats_ok r2 h.2⟩
theorem inV_ok {K : PySem.W.Frag} {F : Fz} {x : D} {v : V} (rx : Rep K F x v) (hx : flatD x = true) : ∀ {ds : List D} {vs : List V}, RepL K F ds vs → ds.all flatD = true → inV v vs = ds.any fun d => eqF d x
  | [], _, r, _ => by cases (show _ = [] from r); rfl
  | d :: ds, _, r, h => by
    obtain ⟨w, ws, rfl, r1, r2⟩ := r
    rw [List.all_cons, Bool.and_eq_true] at h
    show (eqV w v || inV v ws) = (eqF d x || ds.any fun d => eqF d x)
    rw [eqF_ok r1 rx h.1 hx, inV_ok rx hx r2 h.2]
def inS (a b : Str) : Bool := !(Builtin.Str.occurrences b a 0 b.length 1).isEmpty
theorem inS_one (c : Nat) (z : Str) : inS ⟨#[c]⟩ z = decide (c ∈ z.cps.toList) := PySem.StrLaws.found_one z c
def asT : D → Option (List D)
  | .tup ds => some ds
  | _ => none
/-- any list or tuple -/
def asQ (θ : Th) (d : D) : Option (List D) := match d with
  | .tup ds => some ds
  | d => asL θ d
theorem asQ_ok {K : PySem.W.Frag} {F : Fz} {H : Hp} {θ : Th} {d : D} {ds : List D} {v : V} (r : Rel K F H θ) (h : Rep K F d v) (e : asQ θ d = some ds) : ∃ a vs, v = .ref a ∧ (SqL K H a vs ∨ SqT K H a vs) ∧ RepL K F ds vs := by
  unfold asQ at e
  split at e
  · cases e
    obtain ⟨a, vs, h1, h2, h3⟩ := tup_inv r h
    exact ⟨a, vs, h1, .inr h2, h3⟩
  · obtain ⟨a, vs, h1, h2, h3⟩ := asL_ok r h e
    exact ⟨a, vs, h1, .inl h2, h3⟩
def dIn (neg : Bool) : D2 := fun x y θ Q => match y with
  | .str b => match x with
    | .str a => Q (.bl (if neg = true then !inS a b else inS a b)) θ
    | _ => False
  | y => ∃ ds, asQ θ y = some ds ∧ flatD x = true ∧ ds.all flatD = true ∧ Q (.bl (if neg = true then !(ds.any fun d => eqF d x) else ds.any fun d => eqF d x)) θ
theorem o_in : OpR X (compareOp .In) (up2 X.K (dIn false)) := by
  intro pins s σ H x y v u Qc I rx ry ⟨F, θ, dx, dy, Q, r, r1, r2, q, k⟩
  unfold dIn at q
  split at q
  · split at q
    · cases r1; cases r2
      exact op_in_str pins s σ H _ _ v u Qc I rx ry ⟨_, _, rfl, rfl, k _ _ F _ (.bl _) (Ext.refl F) r rfl q⟩
    · cases q
  · obtain ⟨ds, e, h1, h2, q⟩ := q
    obtain ⟨p, vs, rfl, h3, h4⟩ := asQ_ok r r2 e
    refine op_in_seq pins s σ H _ _ v u Qc I rx ry ⟨p, vs, rfl, h3, flatD_ok r1 h1, flats_ok h4 h2, ?_⟩
    rw [inV_ok r1 h1 h4 h2]
    exact k _ _ F _ (.bl _) (Ext.refl F) r rfl q
theorem o_notin : OpR X (compareOp .NotIn) (up2 X.K (dIn true)) := by
  intro pins s σ H x y v u Qc I rx ry ⟨F, θ, dx, dy, Q, r, r1, r2, q, k⟩
  unfold dIn at q
  split at q
  · split at q
    · cases r1; cases r2
      exact op_notin_str pins s σ H _ _ v u Qc I rx ry ⟨_, _, rfl, rfl, k _ _ F _ (.bl _) (Ext.refl F) r rfl q⟩
    · cases q
  · obtain ⟨ds, e, h1, h2, q⟩ := q
    obtain ⟨p, vs, rfl, h3, h4⟩ := asQ_ok r r2 e
    refine op_notIn_seq pins s σ H _ _ v u Qc I rx ry ⟨p, vs, rfl, h3, flatD_ok r1 h1, flats_ok h4 h2, ?_⟩
    rw [inV_ok r1 h1 h4 h2]
    exact k _ _ F _ (.bl _) (Ext.refl F) r rfl q

/-! ### tests -/
def dTst (ta : DTE) : DTT := fun ρ θ Q => ta ρ θ fun x θ1 => match x with
  | .bl k => Q k θ1
  | _ => False
theorem t_cmp {op : CmpOp} {dr : D2} (ho : OpR X (compareOp op) (up2 X.K dr)) (ha : DE X Ed W a ta) (hb : DE X Ed W b tb) (hm : behindInMarks op b = false := by first | exact nomark _ | rfl) : DT X Ed W (.Compare a [op] [b] pos) (dTst (dOp dr ta tb)) :=
  (pt_cmpR ho ha hb hm).imp fun σ H Q ⟨F, ρ, θ, Qd, n, h, k⟩ => by
    refine two (dr := dr) (r := up2 X.K dr) ha hb ⟨F, ρ, θ, _, n, h, fun v H1 F1 θ1 d s1 r1 rv q1 => ?_⟩
    split at q1
    · exact ⟨_, rv, k _ _ _ _ s1 r1 q1⟩
    · cases q1
theorem t_chain {op op' : CmpOp} {dr dr' : D2} (ho : OpR X (compareOp op) (up2 X.K dr)) (ho' : OpR X (compareOp op') (up2 X.K dr')) (ha : DE X Ed W a ta) (hb : DE X Ed W b tb) (hc : DE X Ed W c tc)
    (hm : lastMarks [op, op'] [b, c] = false := by with_unfolding_all rfl) : DT X Ed W (.Compare a [op, op'] [b, c] pos) (dTst (dChain dr dr' ta tb tc)) :=
  (pt_chain ho ho' ha hb hc hm).imp fun σ H Q ⟨F, ρ, θ, Qd, n, h, kT⟩ => by
    have k : Cont X.K F (fun x θ1 => match x with
      | .bl k => Qd k θ1
      | _ => False) (fun x H' => ∃ k, x = .bl k ∧ Q k H') := fun v H1 F1 θ1 d s1 r1 rv q1 => by
      dsimp only at q1
      split at q1
      · exact ⟨_, rv, kT _ _ _ _ s1 r1 q1⟩
      · cases q1
    refine ⟨F, ρ, θ, _, n, h, fun v H1 F1 θ1 d s1 r1 rv q1 => ⟨F1, ρ, θ1, _, n.step s1 r1, q1, fun v2 H2 F2 θ2 d2 s2 r2 rv2 q2 => ⟨F2, θ2, d, d2, _, r2, rv.mono s2, rv2, q2, fun z H3 F3 θ3 d3 s3 r3 rv3 q3 => ?_⟩⟩⟩
    split at q3
    · rename_i kk
      refine ⟨kk, rv3, ?_⟩
      cases kk with
      | true =>
        rw [if_pos rfl] at q3 ⊢
        exact ⟨F3, ρ, θ3, _, n.step ((s1.trans s2).trans s3) r3, q3, fun v4 H4 F4 θ4 d4 s4 r4 rv4 q4 => ⟨F4, θ4, d2, d4, _, r4, rv2.mono (s3.trans s4), rv4, q4, k.mono (((s1.trans s2).trans s3).trans s4)⟩⟩
      | false =>
        rw [if_neg Bool.false_ne_true] at q3 ⊢
        exact k _ _ F3 _ (.bl false) ((s1.trans s2).trans s3) r3 rfl q3
    · cases q3
def dTru (ta : DTE) : DTT := fun ρ θ Q => ta ρ θ fun x θ1 => match x with
  | .bl k => Q k θ1
  | .non => Q false θ1
  | .int i => Q (i != 0) θ1
  | .str z => z.length ≤ sizeLine ∧ Q ((z.length : Int) != 0) θ1
  | x => ∃ ds, asQ θ1 x = some ds ∧ Q (!ds.isEmpty) θ1
theorem RepL.isEmpty {K : PySem.W.Frag} {F : Fz} {ds : List D} {vs : List V} (h : RepL K F ds vs) : vs.isEmpty = ds.isEmpty := by
  cases ds with
  | nil => cases (show _ = [] from h); rfl
  | cons d r => obtain ⟨w, ws, rfl, _⟩ := h; rfl
theorem t_tru (ha : DE X Ed W a ta) (he : ∀ whole, isTrue a X.env whole = (do let v ← whole; standAt a.pos; holding [v] (truthy v)) := by intro _; rfl) : DT X Ed W a (dTru ta) :=
  (pt_truth ha he).imp fun σ H Q ⟨F, ρ, θ, Qd, n, h, k⟩ => by
    refine ⟨F, ρ, θ, _, n, h, fun v H1 F1 θ1 d s1 r1 rv q1 => ?_⟩
    split at q1
    · cases rv; exact ⟨_, rfl, k _ _ _ _ s1 r1 q1⟩
    · cases rv; exact ⟨_, rfl, k _ _ _ _ s1 r1 q1⟩
    · cases rv; exact ⟨_, rfl, k _ _ _ _ s1 r1 q1⟩
    · cases rv; exact ⟨_, ⟨q1.1, rfl⟩, k _ _ _ _ s1 r1 q1.2⟩
    · obtain ⟨ds, e, q⟩ := q1
      obtain ⟨p, vs, rfl, h3, h4⟩ := asQ_ok r1 rv e
      refine ⟨!ds.isEmpty, ?_, k _ _ _ _ s1 r1 q⟩
      rcases h3 with h3 | h3
      · exact .inl ⟨vs, h3, by rw [h4.isEmpty]⟩
      · exact .inr (.inl ⟨vs, h3, by rw [h4.isEmpty]⟩)
def dNotT (t : DTT) : DTT := fun ρ θ Q => t ρ θ fun b θ1 => Q (!b) θ1
def dAndT (t u : DTT) : DTT := fun ρ θ Q => t ρ θ fun b θ1 => if b = true then u ρ θ1 Q else Q false θ1
def dOrT (t u : DTT) : DTT := fun ρ θ Q => t ρ θ fun b θ1 => if b = true then Q true θ1 else u ρ θ1 Q
variable {tA tB : DTT} {rest : List Expr}
theorem t_not (ha : DT X Ed W a tA) : DT X Ed W (.UnaryOp .Not a pos) (dNotT tA) :=
  (pt_not ha).imp fun σ H Q ⟨F, ρ, θ, Qd, n, h, k⟩ => ⟨F, ρ, θ, _, n, h, fun b H1 F1 θ1 s1 r1 q1 => k _ _ _ _ s1 r1 q1⟩
theorem w_and1 (ha : DT X Ed W a tA) : DW X Ed W (.BoolOp .And [a] pos) tA := pw_and1 ha
theorem w_or1 (ha : DT X Ed W a tA) : DW X Ed W (.BoolOp .Or [a] pos) tA := pw_or1 ha
theorem w_and (ha : DT X Ed W a tA) (hb : DW X Ed W (.BoolOp .And (b :: rest) pos) tB) : DW X Ed W (.BoolOp .And (a :: b :: rest) pos) (dAndT tA tB) :=
  (pw_and ha hb).imp fun σ H Q ⟨F, ρ, θ, Qd, n, h, k⟩ => ⟨F, ρ, θ, _, n, h, fun bb H1 F1 θ1 s1 r1 q1 => by
    cases bb with
    | true =>
      rw [if_pos rfl] at q1 ⊢
      exact ⟨F1, ρ, θ1, _, n.step s1 r1, q1, fun b2 H2 F2 θ2 s2 r2 q2 => k _ _ _ _ (s1.trans s2) r2 q2⟩
    | false =>
      rw [if_neg Bool.false_ne_true] at q1 ⊢
      exact k _ _ _ _ s1 r1 q1⟩
theorem w_or (ha : DT X Ed W a tA) (hb : DW X Ed W (.BoolOp .Or (b :: rest) pos) tB) : DW X Ed W (.BoolOp .Or (a :: b :: rest) pos) (dOrT tA tB) :=
  (pw_or ha hb).imp fun σ H Q ⟨F, ρ, θ, Qd, n, h, k⟩ => ⟨F, ρ, θ, _, n, h, fun bb H1 F1 θ1 s1 r1 q1 => by
    cases bb with
    | true =>
      rw [if_pos rfl] at q1 ⊢
      exact k _ _ _ _ s1 r1 q1
    | false =>
      rw [if_neg Bool.false_ne_true] at q1 ⊢
      exact ⟨F1, ρ, θ1, _, n.step s1 r1, q1, fun b2 H2 F2 θ2 s2 r2 q2 => k _ _ _ _ (s1.trans s2) r2 q2⟩⟩
theorem t_bool {op : BoolOp} {es : List Expr} (h : DW X Ed W (.BoolOp op es pos) tA) : DT X Ed W (.BoolOp op es pos) tA := PW.pt h
/-! .. as values -/
def dAndV (ta tb : DTE) : DTE := fun ρ θ Q => ta ρ θ fun x θ1 => match x with
  | .bl k => if k = true then tb ρ θ1 Q else Q (.bl false) θ1
  | _ => False
def dOrV (ta tb : DTE) : DTE := fun ρ θ Q => ta ρ θ fun x θ1 => match x with
  | .bl k => if k = true then Q (.bl true) θ1 else tb ρ θ1 Q
  | _ => False
def dNotV (ta : DTE) : DTE := fun ρ θ Q => ta ρ θ fun x θ1 => match x with
  | .bl k => Q (.bl (!k)) θ1
  | _ => False
theorem d_one {op : BoolOp} (h : DE X Ed W a ta) : DE X Ed W (.BoolOp op [a] pos) ta := pe_one h
theorem d_and (ha : DE X Ed W a ta) (hb : DE X Ed W (.BoolOp .And (b :: rest) pos) tb) : DE X Ed W (.BoolOp .And (a :: b :: rest) pos) (dAndV ta tb) :=
  (pe_and ha hb).imp fun σ H Q ⟨F, ρ, θ, Qd, n, h, k⟩ => ⟨F, ρ, θ, _, n, h, fun v H1 F1 θ1 d s1 r1 rv q1 => by
    split at q1
    · rename_i kk
      refine ⟨kk, rv, ?_⟩
      cases kk with
      | true =>
        rw [if_pos rfl] at q1 ⊢
        exact ⟨F1, ρ, θ1, _, n.step s1 r1, q1, k.mono s1⟩
      | false =>
        rw [if_neg Bool.false_ne_true] at q1 ⊢
        exact k _ _ F1 _ (.bl false) s1 r1 rfl q1
    · cases q1⟩
theorem d_or (ha : DE X Ed W a ta) (hb : DE X Ed W (.BoolOp .Or (b :: rest) pos) tb) : DE X Ed W (.BoolOp .Or (a :: b :: rest) pos) (dOrV ta tb) :=
  (pe_or ha hb).imp fun σ H Q ⟨F, ρ, θ, Qd, n, h, k⟩ => ⟨F, ρ, θ, _, n, h, fun v H1 F1 θ1 d s1 r1 rv q1 => by
    split at q1
    · rename_i kk
      refine ⟨kk, rv, ?_⟩
      cases kk with
      | true =>
        rw [if_pos rfl] at q1 ⊢
        exact k _ _ F1 _ (.bl true) s1 r1 rfl q1
      | false =>
        rw [if_neg Bool.false_ne_true] at q1 ⊢
        exact ⟨F1, ρ, θ1, _, n.step s1 r1, q1, k.mono s1⟩
    · cases q1⟩
theorem d_not (ha : DE X Ed W a ta) : DE X Ed W (.UnaryOp .Not a pos) (dNotV ta) :=
  (pe_not ha).imp fun σ H Q ⟨F, ρ, θ, Qd, n, h, k⟩ => ⟨F, ρ, θ, _, n, h, fun v H1 F1 θ1 d s1 r1 rv q1 => by
    split at q1
    · exact ⟨_, rv, k _ _ F1 _ (.bl _) s1 r1 rfl q1⟩
    · cases q1⟩
def dIfE (t : DTT) (ta tb : DTE) : DTE := fun ρ θ Q => t ρ θ fun c θ1 => if c = true then ta ρ θ1 Q else tb ρ θ1 Q
theorem d_ifE (hc : DT X Ed W c tA) (ha : DE X Ed W a ta) (hb : DE X Ed W b tb) : DE X Ed W (.IfExp c a b pos) (dIfE tA ta tb) :=
  (pe_ifExp hc ha hb).imp fun σ H Q ⟨F, ρ, θ, Qd, n, h, k⟩ => ⟨F, ρ, θ, _, n, h, fun bb H1 F1 θ1 s1 r1 q1 => by
    cases bb with
    | true =>
      rw [if_pos rfl] at q1 ⊢
      exact ⟨F1, ρ, θ1, _, n.step s1 r1, q1, k.mono s1⟩
    | false =>
      rw [if_neg Bool.false_ne_true] at q1 ⊢
      exact ⟨F1, ρ, θ1, _, n.step s1 r1, q1, k.mono s1⟩⟩

/-! ### argument lists, displays, subscripts, slices -/
variable {es : List Expr} {tl : DTA}
def dNil : DTA := fun _ θ Q => Q [] θ
def dCons (ta : DTE) (tl : DTA) : DTA := fun ρ θ Q => ta ρ θ fun d θ1 => tl ρ θ1 fun ds θ2 => Q (d :: ds) θ2
theorem a_nil : DA X Ed W [] dNil := pa_nil.imp fun σ H Q ⟨F, ρ, θ, Qd, n, h, k⟩ => k [] _ F _ [] (Ext.refl F) n.rel rfl h
theorem a_cons (ha : DE X Ed W a ta) (hl : DA X Ed W es tl) (hs : starEach (a :: es) X.env = (false, eval a X.env) :: starEach es X.env := by rfl) : DA X Ed W (a :: es) (dCons ta tl) :=
  (pa_cons ha hl hs).imp fun σ H Q ⟨F, ρ, θ, Qd, n, h, k⟩ => ⟨F, ρ, θ, _, n, h, fun v H1 F1 θ1 d s1 r1 rv q1 => ⟨F1, ρ, θ1, _, n.step s1 r1, q1, fun vs H2 F2 θ2 ds s2 r2 rvs q2 => k _ _ F2 _ _ (s1.trans s2) r2 (.cons (rv.mono s2) rvs) q2⟩⟩
def dTup (tl : DTA) : DTE := fun ρ θ Q => tl ρ θ fun ds θ1 => ds.length ≤ sizeLine ∧ Q (.tup ds) θ1
def dLst (c : Bool) (tl : DTA) : DTE := fun ρ θ Q => tl ρ θ fun ds θ1 => ds.length ≤ sizeLine ∧ newL c ds θ1 Q
theorem d_tup {x1} (h : DA X Ed W es tl) : DE X Ed W (.Tuple es x1 pos) (dTup tl) :=
  (pe_tup h).imp fun σ H Q ⟨F, ρ, θ, Qd, n, h, k⟩ => ⟨F, ρ, θ, _, n, h, fun vs H1 F1 θ1 ds s1 r1 rvs q1 => ⟨by rw [rvs.length]; exact q1.1, newT_ok r1 rvs q1.2 (k.mono s1)⟩⟩
theorem d_lst (c : Bool) (h : DA X Ed W es tl) : DE X Ed W (.List es pos) (dLst c tl) :=
  (pe_lst h).imp fun σ H Q ⟨F, ρ, θ, Qd, n, h, k⟩ => ⟨F, ρ, θ, _, n, h, fun vs H1 F1 θ1 ds s1 r1 rvs q1 => ⟨by rw [rvs.length]; exact q1.1, newL_ok r1 rvs q1.2 (k.mono s1)⟩⟩

theorem atI_rep {K : PySem.W.Frag} {F : Fz} {ds : List D} {vs : List V} {i : Int} {d : D} (r : RepL K F ds vs) (h : atI ds i = some d) : ∃ v, atI vs i = some v ∧ Rep K F d v := by
  unfold atI at h ⊢
  rw [r.length]
  cases e : ixN ds.length i with
  | none => rw [e] at h; cases h
  | some j =>
    rw [e] at h
    obtain ⟨v, e1, e2⟩ := r.get (show ds[j]? = some d from h)
    exact ⟨v, e1, e2⟩
/-- x[i] -/
def dIx : D2 := fun x y θ Q => match x with
  | .str z => match y with
    | .int i => z.length ≤ sizeLine ∧ ∃ c, atI z.cps.toList i = some c ∧ Q (.str ⟨#[c]⟩) θ
    | _ => False
  | x => match y with
    | .int i => ∃ ds d, asQ θ x = some ds ∧ atI ds i = some d ∧ Q d θ
    | _ => False
theorem i_seq : IxR X (up2 X.K dIx) := by
  intro value slice pins s σ H x y v u Qc I rx ry ⟨F, θ, dx, dy, Q, r, r1, r2, q, k⟩ hsub
  unfold dIx at q
  split at q
  · split at q
    · cases r1; cases r2
      obtain ⟨hz, c, e, q⟩ := q
      exact ix_str value slice pins s σ H _ _ v u Qc I rx ry ⟨_, _, c, rfl, rfl, hz, e, k _ _ F _ (.str _) (Ext.refl F) r rfl q⟩ hsub
    · cases q
  · split at q
    · cases r2
      obtain ⟨ds, d, e, ea, q⟩ := q
      obtain ⟨p, vs, rfl, h3, h4⟩ := asQ_ok r r1 e
      obtain ⟨w, e1, e2⟩ := atI_rep h4 ea
      have fin := k _ _ F _ d (Ext.refl F) r e2 q
      rcases h3 with h3 | h3
      · exact ix_list value slice pins s σ H _ _ v u Qc I rx ry ⟨p, vs, _, w, rfl, rfl, h3, e1, fin⟩ hsub
      · exact ix_tup value slice pins s σ H _ _ v u Qc I rx ry ⟨p, vs, _, w, rfl, rfl, h3, e1, fin⟩ hsub
    · cases q
theorem d_ix {dr : D2} (hr : IxR X (up2 X.K dr)) (ha : DE X Ed W a ta) (hb : DE X Ed W b tb) (hs : PlainIx b := by exact fun _ _ => rfl) : DE X Ed W (.Subscript a b pos) (dOp dr ta tb) :=
  (pe_ix hr ha hb hs).imp fun σ H Q h => two (r := up2 X.K dr) ha hb h
def dPn : DTO := fun _ θ Q => Q none θ
def dPs (ta : DTE) : DTO := fun ρ θ Q => ta ρ θ fun d θ1 => match d with
  | .int i => Q (some i) θ1
  | _ => False
theorem p_none : DO X Ed W none dPn := po_none.imp fun σ H Q ⟨F, ρ, θ, Qd, n, h, k⟩ => k _ _ F _ (Ext.refl F) n.rel h
theorem p_some (ha : DE X Ed W a ta) : DO X Ed W (some a) (dPs ta) :=
  (po_some ha).imp fun σ H Q ⟨F, ρ, θ, Qd, n, h, k⟩ => ⟨F, ρ, θ, _, n, h, fun v H1 F1 θ1 d s1 r1 rv q1 => by
    split at q1
    · exact ⟨_, rv, k _ _ F1 _ s1 r1 q1⟩
    · cases q1⟩
abbrev DSlc := D → Option Int → Option Int → Th → DQ → Prop
def upSl (K : PySem.W.Frag) (dr : DSlc) : V → Option Int → Option Int → Hp → VK → Prop := fun x lo hi H Qc => ∃ F θ dx Q, Rel K F H θ ∧ Rep K F dx x ∧ dr dx lo hi θ Q ∧ Cont K F Q Qc
def dSlice (dr : DSlc) (ta : DTE) (tl th : DTO) : DTE := fun ρ θ Q => ta ρ θ fun x θ1 => tl ρ θ1 fun l θ2 => th ρ θ2 fun u θ3 => dr x l u θ3 Q
theorem d_slice {dr : DSlc} {lo hi : Option Expr} {tl th : DTO} {p2 : Pos} (hr : SlR X (upSl X.K dr)) (ha : DE X Ed W a ta) (hl : DO X Ed W lo tl) (hu : DO X Ed W hi th) : DE X Ed W (.Subscript a (.Slice lo hi none p2) pos) (dSlice dr ta tl th) :=
  (pe_slice hr ha hl hu).imp fun σ H Q ⟨F, ρ, θ, Qd, n, h, k⟩ => ⟨F, ρ, θ, _, n, h, fun v H1 F1 θ1 d s1 r1 rv q1 => ⟨F1, ρ, θ1, _, n.step s1 r1, q1, fun o H2 F2 θ2 s2 r2 q2 =>
    ⟨F2, ρ, θ2, _, n.step (s1.trans s2) r2, q2, fun o' H3 F3 θ3 s3 r3 q3 => ⟨F3, θ3, d, Qd, r3, rv.mono (s2.trans s3), q3, k.mono ((s1.trans s2).trans s3)⟩⟩⟩⟩
def cutD (xs : List D) (lo hi : Option Int) : List D := (xs.drop (HT.sIx xs.length 0 lo)).take (HT.sIx xs.length xs.length hi - HT.sIx xs.length 0 lo)
theorem cut_rep {K : PySem.W.Frag} {F : Fz} {ds : List D} {vs : List V} (r : RepL K F ds vs) (lo hi : Option Int) : RepL K F (cutD ds lo hi) (cutV vs lo hi) := by
  unfold cutD cutV
  rw [r.length]
  exact (r.drop _).take _
def dSlc (c : Bool) : DSlc := fun x lo hi θ Q => match x with
  | .str z => z.length ≤ sizeLine ∧ Q (.str (cutS z lo hi)) θ
  | .tup ds => Q (.tup (cutD ds lo hi)) θ
  | x => ∃ ds, asL θ x = some ds ∧ newL c (cutD ds lo hi) θ Q
theorem s_seq {cc : Bool} : SlR X (upSl X.K (dSlc cc)) := by
  intro pins s σ H x v vl vu lo hi sl Qc I rx hs pl pu ⟨F, θ, dx, Q, r, r1, q, k⟩
  unfold dSlc at q
  split at q
  · cases r1
    exact sl_str pins s σ H _ v vl vu lo hi sl Qc I rx hs pl pu ⟨_, rfl, q.1, k _ _ F _ (.str _) (Ext.refl F) r rfl q.2⟩
  · rename_i ds
    obtain ⟨a, vs, rfl, h1, h2⟩ := tup_inv r r1
    refine sl_tupA pins s σ H _ v vl vu lo hi sl Qc I rx hs pl pu ⟨a, vs, rfl, h1, fun ⟨e1, e2⟩ => ?_, fun _ => newT_ok r (cut_rep h2 lo hi) q k⟩
    have e : cutD ds lo hi = ds := by
      unfold cutD
      rw [← h2.length, e1, e2, h2.length]
      simp
    rw [e] at q
    exact k _ _ F _ (.tup ds) (Ext.refl F) r r1 q
  · obtain ⟨ds, e, q⟩ := q
    obtain ⟨p, vs, rfl, h3, h4⟩ := asL_ok r r1 e
    exact sl_list pins s σ H _ v vl vu lo hi sl Qc I rx hs pl pu ⟨p, vs, rfl, h3, newL_ok r (cut_rep h4 lo hi) q k⟩

/-! ### calls of what is built in -/
def dCB (dr : DC) (tl : DTA) : DTE := fun ρ θ Q => tl ρ θ fun ds θ1 => dr ds θ1 Q
theorem d_callB {x : Str} {id : String} {dr : DC} {p : Pos} (hc : CallR X (.builtin id) (upC X.K dr)) (hm : X.mg x = none) (hv : bootBuiltins x = some (.builtin id)) (ha : DA X Ed W (a :: es) tl) (hg : Gl X x := by rfl) (hn : x ≠ "__name__" := by decide) (hdb : (x == ("__debug__" : Str)) = false := by decide)
    (he : starEach (a :: es) X.env = (false, eval a X.env) :: starEach es X.env := by rfl) (hpl : (backTo pos (starEach es X.env)).any (·.1) = false := by rfl) : DE X Ed W (.Call (.Name x p) (a :: es) [] pos) (dCB dr tl) :=
  (pe_callB hc hg hm hv ha hn hdb he hpl).imp fun σ H Q ⟨F, ρ, θ, Qd, n, h, k⟩ => ⟨F, ρ, θ, _, n, h, fun vs H1 F1 θ1 ds s1 r1 rv q1 => ⟨F1, θ1, ds, Qd, r1, rv, q1, k.mono s1⟩⟩
theorem d_callTy {x : Str} {T : String} {dr : DC} {p : Pos} (hc : CallR X (.type T) (upC X.K dr)) (hm : X.mg x = none) (hv : bootBuiltins x = some (.type T)) (ha : DA X Ed W (a :: es) tl) (hg : Gl X x := by rfl) (hn : x ≠ "__name__" := by decide) (hdb : (x == ("__debug__" : Str)) = false := by decide)
    (he : starEach (a :: es) X.env = (false, eval a X.env) :: starEach es X.env := by rfl) (hpl : (backTo pos (starEach es X.env)).any (·.1) = false := by rfl) : DE X Ed W (.Call (.Name x p) (a :: es) [] pos) (dCB dr tl) :=
  (pe_callTy hc hg hm hv ha hn hdb he hpl).imp fun σ H Q ⟨F, ρ, θ, Qd, n, h, k⟩ => ⟨F, ρ, θ, _, n, h, fun vs H1 F1 θ1 ds s1 r1 rv q1 => ⟨F1, θ1, ds, Qd, r1, rv, q1, k.mono s1⟩⟩
theorem repl1 {K : PySem.W.Frag} {F : Fz} {d : D} {vs : List V} (h : RepL K F [d] vs) : ∃ v, vs = [v] ∧ Rep K F d v := by
  obtain ⟨w, ws, rfl, r, e⟩ := h
  cases (show ws = [] from e)
  exact ⟨w, rfl, r⟩
theorem repl2 {K : PySem.W.Frag} {F : Fz} {d e : D} {vs : List V} (h : RepL K F [d, e] vs) : ∃ v w, vs = [v, w] ∧ Rep K F d v ∧ Rep K F e w := by
  obtain ⟨w, ws, rfl, r, t⟩ := h
  obtain ⟨v, rfl, r2⟩ := repl1 t
  exact ⟨w, v, rfl, r, r2⟩
def dLen : DC := fun ds θ Q => match ds with
  | [.str z] => z.length ≤ sizeLine ∧ Q (.int z.length) θ
  | [x] => ∃ xs, asQ θ x = some xs ∧ Q (.int xs.length) θ
  | _ => False
theorem c_len : CallR X (.builtin "len") (upC X.K dLen) := by
  intro pins s σ H xs us Qc I rv ⟨F, θ, ds, Q, r, r1, q, k⟩
  unfold dLen at q
  split at q
  · obtain ⟨v, rfl, r2⟩ := repl1 r1
    cases r2
    exact call_len_str pins s σ H _ us Qc I rv ⟨_, rfl, q.1, k _ _ F _ (.int _) (Ext.refl F) r rfl q.2⟩
  · obtain ⟨v, rfl, r2⟩ := repl1 r1
    obtain ⟨ys, e, q⟩ := q
    obtain ⟨p, vs, rfl, h3, h4⟩ := asQ_ok r r2 e
    exact call_len_seq pins s σ H _ us Qc I rv ⟨p, vs, rfl, h3, k _ _ F _ (.int _) (Ext.refl F) r (by rw [h4.length]; rfl) q⟩
  · cases q
def dAbs : DC := fun ds θ Q => match ds with
  | [.int i] => Q (.int (if i < 0 then -i else i)) θ
  | _ => False
theorem c_abs : CallR X (.builtin "abs") (upC X.K dAbs) := by
  intro pins s σ H xs us Qc I rv ⟨F, θ, ds, Q, r, r1, q, k⟩
  unfold dAbs at q
  split at q
  · obtain ⟨v, rfl, r2⟩ := repl1 r1
    cases r2
    exact call_abs pins s σ H _ us Qc I rv ⟨_, rfl, k _ _ F _ (.int _) (Ext.refl F) r rfl q⟩
  · cases q
def dMax : DC := fun ds θ Q => match ds with
  | [.int i, .int j] => Q (.int (if j > i then j else i)) θ
  | _ => False
theorem c_max (hc : X.calm = true) : CallR X (.builtin "max") (upC X.K dMax) := by
  intro pins s σ H xs us Qc I rv ⟨F, θ, ds, Q, r, r1, q, k⟩
  unfold dMax at q
  split at q
  · obtain ⟨v, w, rfl, r2, r3⟩ := repl2 r1
    cases r2; cases r3
    exact call_max2 hc pins s σ H _ us Qc I rv ⟨_, _, rfl, k _ _ F _ (.int _) (Ext.refl F) r rfl q⟩
  · cases q
def dMin : DC := fun ds θ Q => match ds with
  | [.int i, .int j] => Q (.int (if j < i then j else i)) θ
  | _ => False
theorem c_min (hc : X.calm = true) : CallR X (.builtin "min") (upC X.K dMin) := by
  intro pins s σ H xs us Qc I rv ⟨F, θ, ds, Q, r, r1, q, k⟩
  unfold dMin at q
  split at q
  · obtain ⟨v, w, rfl, r2, r3⟩ := repl2 r1
    cases r2; cases r3
    exact call_min2 hc pins s σ H _ us Qc I rv ⟨_, _, rfl, k _ _ F _ (.int _) (Ext.refl F) r rfl q⟩
  · cases q
/-- int(n), int(flag), int(text) -/
def dInt : DC := fun ds θ Q => match ds with
  | [.int i] => Q (.int i) θ
  | [.bl k] => Q (.int (if k then 1 else 0)) θ
  | [.str z] => ∃ n, PySem.intText? z = some n ∧ z.length ≤ 640 ∧ Q (.int n) θ
  | _ => False
theorem c_int : CallR X (.type "int") (upC X.K dInt) := by
  intro pins s σ H xs us Qc I rv ⟨F, θ, ds, Q, r, r1, q, k⟩
  unfold dInt at q
  split at q
  · obtain ⟨v, rfl, r2⟩ := repl1 r1
    cases r2
    exact call_int1 pins s σ H _ us Qc I rv (.inl ⟨_, rfl, k _ _ F _ (.int _) (Ext.refl F) r rfl q⟩)
  · obtain ⟨v, rfl, r2⟩ := repl1 r1
    cases r2
    exact call_int1 pins s σ H _ us Qc I rv (.inr ⟨_, rfl, k _ _ F _ (.int _) (Ext.refl F) r rfl q⟩)
  · obtain ⟨v, rfl, r2⟩ := repl1 r1
    cases r2
    obtain ⟨m, e, hz, q⟩ := q
    exact call_int_str pins s σ H _ us Qc I rv ⟨_, m, rfl, e, hz, k _ _ F _ (.int _) (Ext.refl F) r rfl q⟩
  · cases q
def dStrI : DC := fun ds θ Q => match ds with
  | [.int i] => i.natAbs.log2 < 1920 ∧ Q (.str (toString i)) θ
  | _ => False
theorem c_str : CallR X (.type "str") (upC X.K dStrI) := by
  intro pins s σ H xs us Qc I rv ⟨F, θ, ds, Q, r, r1, q, k⟩
  unfold dStrI at q
  split at q
  · obtain ⟨v, rfl, r2⟩ := repl1 r1
    cases r2
    exact call_str_int pins s σ H _ us Qc I rv ⟨_, rfl, q.1, k _ _ F _ (.str _) (Ext.refl F) r rfl q.2⟩
  · cases q
def dListOf (c : Bool) : DC := fun ds θ Q => match ds with
  | [x] => ∃ xs, asQ θ x = some xs ∧ newL c xs θ Q
  | _ => False
theorem c_list {cc : Bool} : CallR X (.type "list") (upC X.K (dListOf cc)) := by
  intro pins s σ H xs us Qc I rv ⟨F, θ, ds, Q, r, r1, q, k⟩
  unfold dListOf at q
  split at q
  · obtain ⟨v, rfl, r2⟩ := repl1 r1
    obtain ⟨ys, e, q⟩ := q
    obtain ⟨p, vs, rfl, h3, h4⟩ := asQ_ok r r2 e
    exact call_list_of pins s σ H _ us Qc I rv ⟨p, vs, rfl, h3, newL_ok r h4 q k⟩
  · cases q
end expr
end DL

set_option linter.all false
set_option maxRecDepth 100000
set_option maxHeartbeats 2000000
namespace DL
open PySem PySem.Spec PyProof.Rows L2

/-! ### targets -/
abbrev DTG := D → Sl → Th → (Sl → Th → Prop) → Prop
abbrev DTGs := List D → Sl → Th → (Sl → Th → Prop) → Prop
/-- no slot but those of is was set -/
def Only (is : List Nat) (σ σ' : L2.St) : Prop := σ'.length = σ.length ∧ ∀ i, i ∉ is → σ'[i]? = σ[i]?
theorem Only.refl (is : List Nat) (σ : L2.St) : Only is σ σ := ⟨rfl, fun _ _ => rfl⟩
theorem Only.trans {is js : List Nat} {σ σ1 σ2 : L2.St} (a : Only is σ σ1) (b : Only js σ1 σ2) : Only (is ++ js) σ σ2 :=
  ⟨b.1.trans a.1, fun i h => (b.2 i fun z => h (List.mem_append_right _ z)).trans (a.2 i fun z => h (List.mem_append_left _ z))⟩
theorem wipe_get (σ : L2.St) : ∀ (vs : List Nat) (i : Nat), (L2.wipe σ vs)[i]? = if i ∈ vs ∧ i < σ.length then some none else σ[i]?
  | [], i => by rw [if_neg (by simp)]; rfl
  | v :: vs, i => by
    unfold L2.wipe
    by_cases hv : v = i
    · subst hv
      by_cases hl : v < σ.length
      · rw [List.getElem?_set_self (by rw [L2.wipe_length]; exact hl), if_pos ⟨by simp, hl⟩]
      · rw [List.getElem?_eq_none (by rw [List.length_set, L2.wipe_length]; omega), if_neg (fun z => hl z.2), List.getElem?_eq_none (by omega)]
    · rw [List.getElem?_set_ne hv, wipe_get σ vs i]
      by_cases h : i ∈ vs ∧ i < σ.length
      · rw [if_pos h, if_pos ⟨List.mem_cons_of_mem _ h.1, h.2⟩]
      · rw [if_neg h, if_neg (fun z => h ⟨(List.mem_cons.mp z.1).resolve_left (Ne.symm hv), z.2⟩)]
theorem Only.wipe {is vs : List Nat} {σ σ' : L2.St} (o : Only is (L2.wipe σ vs) σ') (h : ∀ i ∈ is, i ∈ vs) : L2.wipe σ' vs = L2.wipe σ vs := by
  have hl : σ'.length = σ.length := o.1.trans (L2.wipe_length σ vs)
  refine List.ext_getElem? fun i => ?_
  rw [wipe_get, wipe_get, hl]
  by_cases hi : i ∈ vs
  · by_cases hl' : i < σ.length
    · rw [if_pos ⟨hi, hl'⟩, if_pos ⟨hi, hl'⟩]
    · rw [if_neg (fun z => hl' z.2), if_neg (fun z => hl' z.2), List.getElem?_eq_none (by omega), List.getElem?_eq_none (by omega)]
  · rw [if_neg (fun z => hi z.1), if_neg (fun z => hi z.1), o.2 i fun z => hi (h i z), wipe_get, if_neg (fun z => hi z.1)]

def upG (K : PySem.W.Frag) (Ed : DXK) (W : XK) (is : List Nat) (t : DTG) : TG := fun v σ H Qc => ∃ F ρ θ d Q, Nd K Ed W F H σ ρ θ ∧ Rep K F d v ∧ t d ρ θ Q ∧
  ∀ σ' H' F' ρ' θ', Ext F F' → Nd K Ed W F' H' σ' ρ' θ' → Only is σ σ' → Q ρ' θ' → Qc σ' H'
def upGs (K : PySem.W.Frag) (Ed : DXK) (W : XK) (is : List Nat) (t : DTGs) : TGs := fun vs σ H Qc => ∃ F ρ θ ds Q, Nd K Ed W F H σ ρ θ ∧ RepL K F ds vs ∧ t ds ρ θ Q ∧
  ∀ σ' H' F' ρ' θ', Ext F F' → Nd K Ed W F' H' σ' ρ' θ' → Only is σ σ' → Q ρ' θ' → Qc σ' H'
theorem _root_.L2.PG.imp {X : Cx} {e : Expr} {u u' : TG} (h : PG X e u) (k : ∀ v σ H Q, u' v σ H Q → u v σ H Q) : PG X e u' := ⟨fun pins s σ H v w Q I r q => h.run pins s σ H v w Q I r (k _ _ _ _ q)⟩
theorem _root_.L2.PGs.imp {X : Cx} {e : List Expr} {u u' : TGs} (h : PGs X e u) (k : ∀ v σ H Q, u' v σ H Q → u v σ H Q) : PGs X e u' := ⟨fun pins s σ H v w Q I r q => h.run pins s σ H v w Q I r (k _ _ _ _ q)⟩
theorem _root_.L2.PI.imp {X : Cx} {tg e : Expr} {u u' : TI} (h : PI X tg e u) (k : ∀ σ H Q, u' σ H Q → u σ H Q) : PI X tg e u' := ⟨fun pins s σ H R I q => h.run pins s σ H R I (k _ _ _ q)⟩
section judg
variable (X : Cx) (Ed : DXK) (W : XK)
abbrev DG (is : List Nat) (e : Expr) (t : DTG) : Prop := PG X e (upG X.K Ed W is t)
abbrev DGs (is : List Nat) (es : List Expr) (t : DTGs) : Prop := PGs X es (upGs X.K Ed W is t)
end judg

/-! ### iterators -/
structure Yl (K : PySem.W.Frag) (F : Fz) (J : It) (xs : List D) : Prop where
  go : ∀ i (F' : Fz) H θ, Same F.fz F'.fz → Rel K F' H θ → i < xs.length → J.go i H
  yld : ∀ i (F' : Fz) H θ x H', Same F.fz F'.fz → Rel K F' H θ → i < xs.length → J.yld i H x H' → ∃ d F2, xs[i]? = some d ∧ Ext F' F2 ∧ Rel K F2 H' θ ∧ Rep K F2 d x
  stop : ∀ i (F' : Fz) H θ, Same F.fz F'.fz → Rel K F' H θ → xs.length ≤ i → J.stop i H
abbrev DTI := Sl → Th → (List D → Th → Prop) → Prop
def upI (K : PySem.W.Frag) (Ed : DXK) (W : XK) (t : DTI) : TI := fun σ H R => ∃ F ρ θ Q, Nd K Ed W F H σ ρ θ ∧ t ρ θ Q ∧ ∀ J H' F' θ' xs, Ext F F' → Rel K F' H' θ' → Yl K F' J xs → Q xs θ' → R J H'
abbrev DI (X : Cx) (Ed : DXK) (W : XK) (tg e : Expr) (t : DTI) : Prop := PI X tg e (upI X.K Ed W t)

section stm
variable {X : Cx} {Ed : DXK} {W : XK} {a b c e : Expr} {ta tb tc te : DTE} {pos : Pos} {st : Stmt} {rest : List Stmt} {t u : DTS} {tA : DTT}

/-! ### statements -/
def dNext : DTS := fun D ρ θ => D.nx ρ θ
def dSeq (t u : DTS) : DTS := fun D ρ θ => t { D with nx := u D } ρ θ
theorem b_nil : DSs X Ed W [] dNext := pss_nil.imp fun E σ H ⟨F, ρ, θ, D, n, h, k⟩ => k.nx _ _ F _ _ (Ext.refl F) n h
theorem b_cons (h1 : DS X Ed W st t) (h2 : DSs X Ed W rest u) : DSs X Ed W (st :: rest) (dSeq t u) :=
  (pss_cons h1 h2).imp fun E σ H ⟨F, ρ, θ, D, n, h, k⟩ => ⟨F, ρ, θ, _, n, h, ⟨fun σ' H' F' ρ' θ' s n' q => ⟨F', ρ', θ', D, n', q, k.mono s⟩, k.rt, k.bk, k.ct⟩⟩
theorem b_one (h1 : DS X Ed W st t) : DSs X Ed W [st] t := pss_one h1
def dBreak : DTS := fun D ρ θ => D.bk ρ θ
def dCont : DTS := fun D ρ θ => D.ct ρ θ
theorem s_pass : DS X Ed W (.Pass pos) dNext := ps_pass.imp fun E σ H ⟨F, ρ, θ, D, n, h, k⟩ => k.nx _ _ F _ _ (Ext.refl F) n h
theorem s_break : DS X Ed W (.Break pos) dBreak := ps_break.imp fun E σ H ⟨F, ρ, θ, D, n, h, k⟩ => k.bk _ _ F _ _ (Ext.refl F) n h
theorem s_continue : DS X Ed W (.Continue pos) dCont := ps_continue.imp fun E σ H ⟨F, ρ, θ, D, n, h, k⟩ => k.ct _ _ F _ _ (Ext.refl F) n h
def dDrop (te : DTE) : DTS := fun D ρ θ => te ρ θ fun _ θ1 => D.nx ρ θ1
theorem s_expr (he : DE X Ed W e te) (hs : swapsWith e none pos.line X.env = pure false := by rfl) : DS X Ed W (.Expr e pos) (dDrop te) :=
  (ps_expr he hs).imp fun E σ H ⟨F, ρ, θ, D, n, h, k⟩ => ⟨F, ρ, θ, _, n, h, fun v H1 F1 θ1 d s1 r1 rv q1 => k.nx _ _ F1 _ _ s1 (n.step s1 r1) q1⟩
def dRet (te : DTE) : DTS := fun D ρ θ => te ρ θ D.rt
theorem s_ret (he : DE X Ed W e te) : DS X Ed W (.Return (some e) pos) (dRet te) :=
  (ps_ret he).imp fun E σ H ⟨F, ρ, θ, D, n, h, k⟩ => ⟨F, ρ, θ, _, n, h, k.rt⟩
def dRetN : DTS := fun D _ θ => D.rt .non θ
theorem s_retN : DS X Ed W (.Return none pos) dRetN := ps_retN.imp fun E σ H ⟨F, ρ, θ, D, n, h, k⟩ => k.rt _ _ F _ .non (Ext.refl F) n.rel rfl h
def dIf (c : DTT) (t u : DTS) : DTS := fun D ρ θ => c ρ θ fun b θ1 => if b = true then t D ρ θ1 else u D ρ θ1
theorem s_if {sa sb : List Stmt} (hc : DT X Ed W c tA) (ha : DSs X Ed W sa t) (hb : DSs X Ed W sb u) : DS X Ed W (.If c sa sb pos) (dIf tA t u) :=
  (ps_if hc ha hb).imp fun E σ H ⟨F, ρ, θ, D, n, h, k⟩ => ⟨F, ρ, θ, _, n, h, fun bb H1 F1 θ1 s1 r1 q1 => by
    cases bb with
    | true =>
      rw [if_pos rfl] at q1 ⊢
      exact ⟨F1, ρ, θ1, D, n.step s1 r1, q1, k.mono s1⟩
    | false =>
      rw [if_neg Bool.false_ne_true] at q1 ⊢
      exact ⟨F1, ρ, θ1, D, n.step s1 r1, q1, k.mono s1⟩⟩
def dNever : DTS := fun _ _ _ => False
theorem s_never : DS X Ed W st dNever := ps_never.imp fun E σ H ⟨F, ρ, θ, D, n, h, k⟩ => h.elim
theorem b_never {sts : List Stmt} : DSs X Ed W sts dNever := pss_never.imp fun E σ H ⟨F, ρ, θ, D, n, h, k⟩ => h.elim
/-- a ghost step ahead of a block -/
theorem b_ghost {sts : List Stmt} {t' : DTS} (h : DSs X Ed W sts t) (g : ∀ D ρ θ F σ H, Nd X.K Ed W F H σ ρ θ → t' D ρ θ → ∃ F' ρ' θ', Ext F F' ∧ Nd X.K Ed W F' H σ ρ' θ' ∧ t D ρ' θ') : DSs X Ed W sts t' :=
  h.imp fun E σ H ⟨F, ρ, θ, D, n, q, k⟩ => by
    obtain ⟨F', ρ', θ', s, n', q'⟩ := g D ρ θ F σ H n q
    exact ⟨F', ρ', θ', D, n', q', k.mono s⟩
/-- the cell in slot i never changes any more -/
def frzS (i : Nat) (ρ : Sl) (θ : Th) (k : Sl → Th → Prop) : Prop := match getS ρ i with
  | some (.ref a) => ∃ c, θ a = some c ∧ match c with
    | .lst ds => k (setS ρ i (some (.lst ds))) (ers θ a)
    | .dK ks ds => k (setS ρ i (some (.dct ks ds))) (ers θ a)
    | .ins C ns ds => k (setS ρ i (some (.obj C ns ds))) (ers θ a)
    | .lstP _ => False
  | _ => False
def dFrz (i : Nat) (t : DTS) : DTS := fun D ρ θ => frzS i ρ θ fun ρ' θ' => t D ρ' θ'
theorem b_frz {sts : List Stmt} (i : Nat) (h : DSs X Ed W sts t) : DSs X Ed W sts (dFrz i t) := b_ghost h fun D ρ θ F σ H n q => by
  unfold dFrz frzS at q
  split at q
  · rename_i a e
    obtain ⟨v, e1, rv⟩ := n.sl.at_ i _ (getS_eq ρ i _ e)
    have ev : ∀ v', σ[i]? = some (some v') → v' = .ref a := fun v' e2 => by
      rw [e1] at e2; cases e2; exact rv
    obtain ⟨c, e2, q⟩ := q
    split at q
    · rename_i ds
      obtain ⟨f, vs, e3, r3⟩ := n.rel.cl a _ e2
      obtain ⟨s, r⟩ := n.rel.freeze e2 e3
      refine ⟨_, _, _, s, ⟨r, ?_, n.cx.mono s⟩, q⟩
      rw [setS_eq]
      exact (n.sl.mono s).see i (fun v' z => ⟨a, vs, ev v' z, upd_same, r3.mono s⟩) _ (getS_eq ρ i _ e)
    · rename_i ks ds
      obtain ⟨f, vs, e3, l3, r3⟩ := n.rel.cl a _ e2
      obtain ⟨s, r⟩ := n.rel.freeze e2 e3
      refine ⟨_, _, _, s, ⟨r, ?_, n.cx.mono s⟩, q⟩
      rw [setS_eq]
      exact (n.sl.mono s).see i (fun v' z => ⟨a, vs, ev v' z, upd_same, l3, r3.mono s⟩) _ (getS_eq ρ i _ e)
    · rename_i C ns ds
      obtain ⟨f, dx, vs, e3, l3, r3⟩ := n.rel.cl a _ e2
      obtain ⟨s, r⟩ := n.rel.freeze e2 e3
      refine ⟨_, _, _, s, ⟨r, ?_, n.cx.mono s⟩, q⟩
      rw [setS_eq]
      exact (n.sl.mono s).see i (fun v' z => ⟨a, dx, vs, ev v' z, upd_same, l3, r3.mono s⟩) _ (getS_eq ρ i _ e)
    · cases q
  · cases q
/-- .. of a value -/
def frzV (d : D) (θ : Th) (Q : DQ) : Prop := match d with
  | .ref a => ∃ c, θ a = some c ∧ match c with
    | .lst ds => Q (.lst ds) (ers θ a)
    | .dK ks ds => Q (.dct ks ds) (ers θ a)
    | .ins C ns ds => Q (.obj C ns ds) (ers θ a)
    | .lstP _ => False
  | _ => False
def dFz (te : DTE) : DTE := fun ρ θ Q => te ρ θ fun d θ1 => frzV d θ1 Q
theorem d_frz (he : DE X Ed W e te) : DE X Ed W e (dFz te) := he.imp fun σ H Q ⟨F, ρ, θ, Qd, n, h, k⟩ => ⟨F, ρ, θ, _, n, h, fun v H1 F1 θ1 d s1 r1 rv q => by
  unfold frzV at q
  split at q
  · rename_i a
    cases (show v = .ref a from rv)
    obtain ⟨c, e2, q⟩ := q
    split at q
    · rename_i ds
      obtain ⟨f, vs, e3, r3⟩ := r1.cl a _ e2
      obtain ⟨s, r⟩ := r1.freeze e2 e3
      exact k _ _ _ _ (.lst ds) (s1.trans s) r ⟨a, vs, rfl, upd_same, r3.mono s⟩ q
    · rename_i ks ds
      obtain ⟨f, vs, e3, l3, r3⟩ := r1.cl a _ e2
      obtain ⟨s, r⟩ := r1.freeze e2 e3
      exact k _ _ _ _ (.dct ks ds) (s1.trans s) r ⟨a, vs, rfl, upd_same, l3, r3.mono s⟩ q
    · rename_i C ns ds
      obtain ⟨f, dx, vs, e3, l3, r3⟩ := r1.cl a _ e2
      obtain ⟨s, r⟩ := r1.freeze e2 e3
      exact k _ _ _ _ (.obj C ns ds) (s1.trans s) r ⟨a, dx, vs, rfl, upd_same, l3, r3.mono s⟩ q
    · cases q
  · cases q⟩

/-! ### assignments -/
def gNm (i : Nat) : DTG := fun d ρ θ Q => Q (setS ρ i (some d)) θ
theorem g_name {x : Str} (i : Nat) (hN : X.N.Nodup) (hi : X.N[i]? = some x := by rfl) (hx : Loc X.env.scope x := by first | exact Or.inl rfl | exact Or.inr rfl) (hf : X.fn x = true ∨ X.env.scope.names.lookup x = some .local := by first | exact .inl rfl | exact .inr rfl | assumption) : DG X Ed W [i] (.Name x pos) (gNm i) :=
  (pg_name (i := i) hN hi hx hf).imp fun v σ H Q ⟨F, ρ, θ, d, Qd, n, rv, h, k⟩ => by
    refine k _ _ F _ _ (Ext.refl F) (n.slot ?_) ⟨List.length_set, fun j hj => ?_⟩ h
    · rw [setS_eq]; exact n.sl.set rv i
    · rw [List.getElem?_set_ne (fun z => hj (by simp [z]))]
def gNil : DTGs := fun ds ρ θ Q => ds = [] ∧ Q ρ θ
def gCons (t : DTG) (u : DTGs) : DTGs := fun ds ρ θ Q => match ds with
  | d :: r => t d ρ θ fun ρ1 θ1 => u r ρ1 θ1 Q
  | [] => False
theorem gs_nil : DGs X Ed W [] [] gNil := pgs_nil.imp fun v σ H Q ⟨F, ρ, θ, d, Qd, n, rv, h, k⟩ => by
  obtain ⟨rfl, h⟩ := h
  exact ⟨rv, k _ _ F _ _ (Ext.refl F) n (Only.refl _ _) h⟩
theorem gs_cons {es : List Expr} {is js : List Nat} {t : DTG} {u : DTGs} (h1 : DG X Ed W is e t) (h2 : DGs X Ed W js es u)
    (hs : (assignEach (e :: es) X.env).map (·.2) = assign e X.env :: (assignEach es X.env).map (·.2) := by rfl) : DGs X Ed W (is ++ js) (e :: es) (gCons t u) :=
  (pgs_cons h1 h2 hs).imp fun vs σ H Q ⟨F, ρ, θ, ds, Qd, n, rv, h, k⟩ => by
    cases ds with
    | nil => cases h
    | cons d r =>
      obtain ⟨w, ws, rfl, r1, r2⟩ := rv
      exact ⟨w, ws, rfl, F, ρ, θ, d, _, n, r1, h, fun σ' H' F' ρ' θ' s' n' o' q' => ⟨F', ρ', θ', r, _, n', r2.mono s', q', fun σ2 H2 F2 ρ2 θ2 s2 n2 o2 q2 => k _ _ _ _ _ (s'.trans s2) n2 (o'.trans o2) q2⟩⟩
def gTup (m : Nat) (u : DTGs) : DTG := fun d ρ θ Q => match d with
  | .tup ds => ds.length = m ∧ u ds ρ θ Q
  | _ => False
theorem g_tup {es : List Expr} {k : Nat} {is : List Nat} {u : DTGs} {m : Nat} (hc : X.calm = true) (h : DGs X Ed W is es u)
    (hn : (assignEach es X.env).length = m := by rfl) (hst : (assignEach es X.env).findIdx? (·.1) = none := by rfl) : DG X Ed W is (.Tuple es k pos) (gTup m u) :=
  (pg_tup hc h hn hst).imp fun v σ H Q ⟨F, ρ, θ, d, Qd, n, rv, h, kk⟩ => by
    unfold gTup at h
    split at h
    · rename_i ds
      obtain ⟨p, vs, rfl, h1, h2⟩ := tup_inv n.rel rv
      exact ⟨p, vs, rfl, h1, by rw [h2.length]; exact h.1, F, ρ, θ, ds, Qd, n, h2, h.2, kk⟩
    · cases h
def dAsg (te : DTE) (g : DTG) : DTS := fun D ρ θ => te ρ θ fun d θ1 => g d ρ θ1 D.nx
theorem s_set {i : Nat} {x : Str} {pos' : Pos} (hN : X.N.Nodup) (he : DE X Ed W e te) (hi : X.N[i]? = some x := by rfl) (hx : Loc X.env.scope x := by first | exact Or.inl rfl | exact Or.inr rfl) (hs : swapsWith e (some (.Name x pos')) pos.line X.env = pure false := by rfl)
    (hf : X.fn x = true ∨ X.env.scope.names.lookup x = some .local := by first | exact .inl rfl | exact .inr rfl | assumption) : DS X Ed W (.Assign [.Name x pos'] e pos) (dAsg te (gNm i)) :=
  (ps_set (i := i) hN hi hx he hs hf).imp fun E σ H ⟨F, ρ, θ, D, n, h, k⟩ => ⟨F, ρ, θ, _, n, h, fun v H1 F1 θ1 d s1 r1 rv q1 => by
    refine k.nx _ _ F1 _ _ s1 ((n.step s1 r1).slot ?_) q1
    rw [setS_eq]; exact (n.sl.mono s1).set rv i⟩
theorem s_asg {tg : Expr} {is : List Nat} {g : DTG} (he : DE X Ed W e te) (hg : DG X Ed W is tg g) (hs : swapsWithSole [tg] e pos.line X.env = pure false := by rfl) (hw : swappedStores [tg] e X.env = pure none := by rfl)
    (h1 : (assignEach [tg] X.env).map (·.2) = [assign tg X.env] := by rfl) : DS X Ed W (.Assign [tg] e pos) (dAsg te g) :=
  (ps_asg he hg hs hw h1).imp fun E σ H ⟨F, ρ, θ, D, n, h, k⟩ => ⟨F, ρ, θ, _, n, h, fun v H1 F1 θ1 d s1 r1 rv q1 => ⟨F1, ρ, θ1, d, _, n.step s1 r1, rv, q1, fun σ' H' F' ρ' θ' s' n' _ q' => k.nx _ _ F' _ _ (s1.trans s') n' q'⟩⟩
/-- o[i] = v, of a list that is a cell -/
abbrev DSt := D → D → D → Th → (Th → Prop) → Prop
def upSt (K : PySem.W.Frag) (dr : DSt) : TSet := fun o i v H Qc => ∃ F θ d1 d2 d3 Q, Rel K F H θ ∧ Rep K F d1 o ∧ Rep K F d2 i ∧ Rep K F d3 v ∧ dr d1 d2 d3 θ Q ∧ ∀ H' F' θ', Ext F F' → Rel K F' H' θ' → Q θ' → Qc H'
def dSetL : DSt := fun o i v θ Q => match o with
  | .ref a => match i with
    | .int k => ∃ ds, θ a = some (.lst ds) ∧ ∃ j, ixN ds.length k = some j ∧ Q (ups θ a (.lst (ds.set j v)))
    | _ => False
  | _ => False
theorem o_setL : PSet X (upSt X.K dSetL) := by
  intro pins s σ H o i v ov iv u Qc I ro ri rv ⟨F, θ, d1, d2, d3, Q, r, r1, r2, r3, q, k⟩
  unfold dSetL at q
  split at q
  · rename_i a
    cases (show o = .ref a from r1)
    split at q
    · cases r2
      obtain ⟨ds, e, j, ej, q⟩ := q
      obtain ⟨f, vs, e3, t3⟩ := r.cl a _ e
      refine set_list pins s σ H _ _ v ov iv u Qc I ro ri rv ⟨a, vs, _, j, rfl, rfl, e3, by rw [t3.length]; exact ej, ?_⟩
      exact k _ F _ (Ext.refl F) (r.put e (c' := .lst (ds.set j d3)) ⟨_, upd_same, t3.set r3 j⟩) q
    · cases q
  · cases q
def gSub (to ti : DTE) (dr : DSt) : DTG := fun d ρ θ Q => to ρ θ fun o θ1 => ti ρ θ1 fun i θ2 => dr o i d θ2 fun θ3 => Q ρ θ3
theorem g_sub {o i : Expr} {to ti : DTE} {dr : DSt} (ho : DE X Ed W o to) (hi : DE X Ed W i ti) (hs : PSet X (upSt X.K dr))
    (ha : ∀ v, assign (.Subscript o i pos) X.env v = (do
      let ov ← holding [v] (eval o X.env)
      let iv ← holding [v, ov] (eval i X.env)
      standAt pos
      holding [v, ov, iv] (setItem ov iv v)
      release [v, ov, iv] []) := by intro _; rfl) : DG X Ed W [] (.Subscript o i pos) (gSub to ti dr) :=
  (pg_sub ho hi hs ha).imp fun v σ H Q ⟨F, ρ, θ, d, Qd, n, rv, h, k⟩ => ⟨F, ρ, θ, _, n, h, fun v1 H1 F1 θ1 d1 s1 r1 rv1 q1 => ⟨F1, ρ, θ1, _, n.step s1 r1, q1, fun v2 H2 F2 θ2 d2 s2 r2 rv2 q2 =>
    ⟨F2, θ2, d1, d2, d, _, r2, rv1.mono s2, rv2, rv.mono (s1.trans s2), q2, fun H3 F3 θ3 s3 r3 q3 => k _ _ F3 _ _ ((s1.trans s2).trans s3) (n.step ((s1.trans s2).trans s3) r3) (Only.refl _ _) q3⟩⟩⟩
/-- x op= e -/
def upIp (K : PySem.W.Frag) (dr : D2) : TIp := up2 K dr
def dAug (i : Nat) (te : DTE) (dr : D2) : DTS := fun D ρ θ => match getS ρ i with
  | some x => te ρ θ fun y θ1 => dr x y θ1 fun z θ2 => D.nx (setS ρ i (some z)) θ2
  | none => False
theorem s_aug {i : Nat} {x : Str} {op : Operator} {dr : D2} {pos' : Pos} (hN : X.N.Nodup) (he : DE X Ed W e te) (ho : PIp X op (up2 X.K dr)) (hi : X.N[i]? = some x := by rfl) (hx : Loc X.env.scope x := by first | exact Or.inl rfl | exact Or.inr rfl)
    (hf : X.fn x = true ∨ X.env.scope.names.lookup x = some .local := by first | exact .inl rfl | exact .inr rfl | assumption) : DS X Ed W (.AugAssign (.Name x pos') op e pos) (dAug i te dr) :=
  (ps_aug (i := i) hN hi hx he ho hf).imp fun E σ H ⟨F, ρ, θ, D, n, h, k⟩ => by
    unfold dAug at h
    split at h
    · rename_i d0 e0
      obtain ⟨v, e1, rv⟩ := n.sl.at_ i _ (getS_eq ρ i _ e0)
      refine ⟨v, e1, F, ρ, θ, _, n, h, fun v1 H1 F1 θ1 d1 s1 r1 rv1 q1 => ⟨F1, θ1, d0, d1, _, r1, rv.mono s1, rv1, q1, fun v2 H2 F2 θ2 d2 s2 r2 rv2 q2 => ?_⟩⟩
      refine k.nx _ _ F2 _ _ (s1.trans s2) ((n.step (s1.trans s2) r2).slot ?_) q2
      rw [setS_eq]; exact (n.sl.mono (s1.trans s2)).set rv2 i
    · cases h

/-! ### loops -/
def dFor (it : DTI) (g : DTG) (tb : DTS) : DTS := fun D ρ θ => it ρ θ fun xs θ1 => ∃ Pv : Nat → Sl → Th → Prop, Pv 0 ρ θ1 ∧
  (∀ i x ρ' θ', xs[i]? = some x → Pv i ρ' θ' → g x ρ' θ' fun ρ2 θ2 => tb { D with nx := Pv (i + 1), ct := Pv (i + 1), bk := D.nx } ρ2 θ2) ∧ ∀ ρ' θ', Pv xs.length ρ' θ' → D.nx ρ' θ'
theorem s_for {tg iter : Expr} {body : List Stmt} {it : DTI} {is : List Nat} {g : DTG} (hp : PassesOwn (model X.prog X.w) X.A X.env X.xe) (hc : X.calm = true) (hi : DI X Ed W tg iter it) (hg : DG X Ed W is tg g) (hb : DSs X Ed W body t)
    (hs : ∀ x, foldedSetIterable iter X.env x = pure x := by intro _; rfl) : DS X Ed W (.For tg iter body [] pos) (dFor it g t) :=
  (ps_for hp hc hi hg hb hs).imp fun E σ H ⟨F, ρ, θ, D, n, h, k⟩ => ⟨F, ρ, θ, _, n, h, fun J H1 F1 θ1 xs s1 r1 y q1 => by
    obtain ⟨Pv, p0, ps, pd⟩ := q1
    refine ⟨fun i m σ' H' => m = xs.length - i ∧ i ≤ xs.length ∧ ∃ F' ρ' θ', Ext F1 F' ∧ Nd X.K Ed W F' H' σ' ρ' θ' ∧ Pv i ρ' θ', ⟨xs.length, by simp, Nat.zero_le _, F1, ρ, θ1, Ext.refl _, n.step s1 r1, p0⟩, ?_⟩
    rintro i m σ' H' ⟨rfl, hle, F', ρ', θ', s', n', p'⟩
    by_cases hi : i < xs.length
    · refine .inr ⟨y.go i F' H' θ' s'.1 n'.rel hi, fun σ2 H2 => i + 1 ≤ xs.length ∧ ∃ F2 ρ2 θ2, Ext F1 F2 ∧ Nd X.K Ed W F2 H2 σ2 ρ2 θ2 ∧ Pv (i + 1) ρ2 θ2, fun σ2 H2 w => ⟨xs.length - (i + 1), by omega, rfl, w⟩, fun x H2 hy => ?_⟩
      obtain ⟨d, F2, ed, s2, r2, rv⟩ := y.yld i F' H' θ' x H2 s'.1 n'.rel hi hy
      refine ⟨F2, ρ', θ', d, _, n'.step s2 r2, rv, ps i d ρ' θ' ed p', fun σ3 H3 F3 ρ3 θ3 s3 n3 _ q3 => ⟨F3, ρ3, θ3, _, n3, q3, ?_⟩⟩
      have sAll : Ext F F3 := (s1.trans s').trans (s2.trans s3)
      have sA1 : Ext F1 F3 := s'.trans (s2.trans s3)
      exact ⟨fun σ4 H4 F4 ρ4 θ4 s4 n4 q4 => ⟨hi, F4, ρ4, θ4, sA1.trans s4, n4, q4⟩, k.rt.mono sAll, fun σ4 H4 F4 ρ4 θ4 s4 n4 q4 => k.nx _ _ F4 _ _ (sAll.trans s4) n4 q4, fun σ4 H4 F4 ρ4 θ4 s4 n4 q4 => ⟨hi, F4, ρ4, θ4, sA1.trans s4, n4, q4⟩⟩
    · have e : i = xs.length := by omega
      subst e
      exact .inl ⟨y.stop _ F' H' θ' s'.1 n'.rel (Nat.le_refl _), k.nx _ _ F' _ _ (s1.trans s') n' (pd _ _ p')⟩⟩
def dWhile (c : DTT) (tb : DTS) : DTS := fun D ρ θ => ∃ Wv : Nat → Sl → Th → Prop, (∃ m, Wv m ρ θ) ∧ ∀ m ρ θ, Wv m ρ θ → c ρ θ fun b θ1 =>
  if b = true then tb { D with nx := fun ρ' θ' => ∃ m', m' < m ∧ Wv m' ρ' θ', ct := fun ρ' θ' => ∃ m', m' < m ∧ Wv m' ρ' θ', bk := D.nx } ρ θ1 else D.nx ρ θ1
theorem s_while {body : List Stmt} (hp : PassesOwn (model X.prog X.w) X.A X.env X.xe) (hc : DT X Ed W c tA) (hb : DSs X Ed W body t) : DS X Ed W (.While c body [] pos) (dWhile tA t) :=
  (ps_while hp hc hb).imp fun E σ H ⟨F, ρ, θ, D, n, h, k⟩ => by
    obtain ⟨Wv, ⟨m0, w0⟩, hw⟩ := h
    refine ⟨fun m σ' H' => ∃ F' ρ' θ', Ext F F' ∧ Nd X.K Ed W F' H' σ' ρ' θ' ∧ Wv m ρ' θ', ⟨m0, F, ρ, θ, Ext.refl _, n, w0⟩, ?_⟩
    rintro m σ' H' ⟨F', ρ', θ', s', n', w'⟩
    refine ⟨F', ρ', θ', _, n', hw m ρ' θ' w', fun b H2 F2 θ2 s2 r2 q2 => ?_⟩
    cases b with
    | true =>
      rw [if_pos rfl] at q2 ⊢
      refine ⟨fun σ3 H3 => ∃ m', m' < m ∧ ∃ F3 ρ3 θ3, Ext F F3 ∧ Nd X.K Ed W F3 H3 σ3 ρ3 θ3 ∧ Wv m' ρ3 θ3, fun σ3 H3 z => z, F2, ρ', θ2, _, n'.step s2 r2, q2, ?_⟩
      have sAll := s'.trans s2
      exact ⟨fun σ4 H4 F4 ρ4 θ4 s4 n4 ⟨m', l', w4⟩ => ⟨m', l', F4, ρ4, θ4, sAll.trans s4, n4, w4⟩, k.rt.mono sAll, fun σ4 H4 F4 ρ4 θ4 s4 n4 q4 => k.nx _ _ F4 _ _ (sAll.trans s4) n4 q4, fun σ4 H4 F4 ρ4 θ4 s4 n4 ⟨m', l', w4⟩ => ⟨m', l', F4, ρ4, θ4, sAll.trans s4, n4, w4⟩⟩
    | false =>
      rw [if_neg Bool.false_ne_true] at q2 ⊢
      exact k.nx _ _ F2 _ _ (s'.trans s2) (n'.step s2 r2) q2
end stm
end DL

set_option linter.all false
set_option maxRecDepth 100000
set_option maxHeartbeats 2000000
namespace DL
open PySem PySem.Spec PyProof.Rows L2

section it
variable {X : Cx} {Ed : DXK} {W : XK} {a b c e tg : Expr} {ta tb tc te : DTE} {pos : Pos} {es : List Expr} {tl : DTA}

/-! ### what is walked -/
theorem pie_l {pins : List (Addr × Obj)} {σ : L2.St} {H : Hp} {s : Shared} {R : It → Hp → Prop} {p : Addr} {xs : List V} (I : Inv X pins σ H s) (hl : SqL X.K H p xs) (q : R (Itl X.K p) H) :
    wpAny (model X.prog X.w) X.A (pyIter (.ref p)) (PIE X pins σ tg R) X.xe s := by
  obtain ⟨us, _, pl, _⟩ := I.list hl
  exact wpAny_pyIter_list pl.isList (pi_one (tk := s.toks) I _ (turn_list p _) ⟨_, Heap.get?_push_size _ rfl, rfl, rfl⟩ q)
theorem pie_t {pins : List (Addr × Obj)} {σ : L2.St} {H : Hp} {s : Shared} {R : It → Hp → Prop} {p : Addr} {xs : List V} (I : Inv X pins σ H s) (hl : SqT X.K H p xs) (q : R (Itt X.K p) H) :
    wpAny (model X.prog X.w) X.A (pyIter (.ref p)) (PIE X pins σ tg R) X.xe s := by
  obtain ⟨us, _, pl, _⟩ := I.tuple hl
  exact wpAny_pyIter_tuple (show s.heap.IsTuple p us.toArray from pl) (pi_one (tk := s.toks) I _ (turn_tuple p _) ⟨_, Heap.get?_push_size _ rfl, rfl, rfl⟩ q)
theorem pie_s {pins : List (Addr × Obj)} {σ : L2.St} {H : Hp} {s : Shared} {R : It → Hp → Prop} {z : Str} {t : Tok} (I : Inv X pins σ H s) (q : R (Its z) H) :
    wpAny (model X.prog X.w) X.A (pyIter (.str z t)) (PIE X pins σ tg R) X.xe s := by
  cases hz : z.cps.all (· < 128)
  · exact wpAny_pyIter_wide hz (pi_one (tk := s.toks) I _ (turn_str _ z t "str_iterator" (.inr rfl)) ⟨_, Heap.get?_push_size _ rfl, rfl, rfl⟩ q)
  · exact wpAny_pyIter_ascii hz (pi_one (tk := s.toks) I _ (turn_str _ z t "str_ascii_iterator" (.inl rfl)) ⟨_, Heap.get?_push_size _ rfl, rfl, rfl⟩ q)
def iSeq (K : PySem.W.Frag) (te : TE) : TI := fun σ H R => te σ H fun v H1 => (∃ p xs, v = .ref p ∧ SqL K H1 p xs ∧ R (Itl K p) H1) ∨ (∃ p xs, v = .ref p ∧ SqT K H1 p xs ∧ R (Itt K p) H1) ∨ ∃ z, v = .str z ∧ R (Its z) H1
theorem pi_seq {te : TE} (he : PE X e te) : PI X tg e (iSeq X.K te) := ⟨fun pins s σ H R I h => thn (he.run pins s σ H _ I h) fun u s1 ⟨v, H1, I1, rv, q1⟩ => by
  rcases q1 with ⟨p, xs, rfl, hl, q⟩ | ⟨p, xs, rfl, hl, q⟩ | ⟨z, rfl, q⟩
  · cases rv; exact pie_l I1 hl q
  · cases rv; exact pie_t I1 hl q
  · obtain ⟨t, rfl⟩ := rv; exact pie_s I1 q⟩
/-- the items of what a for walks: a list, a tuple, a text -/
def itms : D → Option (List D)
  | .lst ds => some ds
  | .rol ds => some ds
  | .tup ds => some ds
  | .str z => some (z.cps.toList.map fun c => .str ⟨#[c]⟩)
  | _ => none
theorem repS1 {K : PySem.W.Frag} {F F' : Fz} (h : Same F.fz F'.fz) {d : D} {v : V} (r : Rep K F d v) : Rep K F' d v := by
  have r2 : Rep K ⟨F.fz, F'.gr⟩ d v := r.gr
  exact Rep.mono (F := ⟨F.fz, F'.gr⟩) (F' := F') ⟨h, rfl⟩ r2
theorem yl_list {K : PySem.W.Frag} {F : Fz} {p : Addr} {vs : List V} {ds : List D} (h : SqL K F.fz p vs) (t : RepL K F ds vs) : Yl K F (Itl K p) ds := by
  refine ⟨fun i F' H θ s r hi => ?_, fun i F' H θ x H' s r hi hy => ?_, fun i F' H θ s r hi => ⟨vs, r.ex.seq (s.seq h), by rw [t.length]; exact hi⟩⟩
  · have : i < vs.length := by rw [t.length]; exact hi
    exact ⟨vs, vs[i], r.ex.seq (s.seq h), by simp [this]⟩
  · obtain ⟨rfl, f⟩ := hy
    obtain ⟨d, e1, e2⟩ := t.get' (f _ (r.ex.seq (s.seq h)))
    exact ⟨d, F', e1, Ext.refl _, r, repS1 s e2⟩
theorem yl_tup {K : PySem.W.Frag} {F : Fz} {p : Addr} {vs : List V} {ds : List D} (h : SqT K F.fz p vs) (t : RepL K F ds vs) : Yl K F (Itt K p) ds := by
  refine ⟨fun i F' H θ s r hi => ?_, fun i F' H θ x H' s r hi hy => ?_, fun i F' H θ s r hi => ⟨vs, same_t r.ex (same_t s h), by rw [t.length]; exact hi⟩⟩
  · have : i < vs.length := by rw [t.length]; exact hi
    exact ⟨vs, vs[i], same_t r.ex (same_t s h), by simp [this]⟩
  · obtain ⟨rfl, f⟩ := hy
    obtain ⟨d, e1, e2⟩ := t.get' (f _ (same_t r.ex (same_t s h)))
    exact ⟨d, F', e1, Ext.refl _, r, repS1 s e2⟩
theorem yl_str {K : PySem.W.Frag} {F : Fz} (z : Str) : Yl K F (Its z) (z.cps.toList.map fun c => D.str ⟨#[c]⟩) := by
  refine ⟨fun i F' H θ s r hi => ?_, fun i F' H θ x H' s r hi hy => ?_, fun i F' H θ s r hi => ?_⟩
  · rw [List.length_map] at hi; exact hi
  · obtain ⟨rfl, c, e, rfl⟩ := hy
    refine ⟨.str ⟨#[c]⟩, F', ?_, Ext.refl _, r, rfl⟩
    rw [List.getElem?_map, Array.getElem?_toList, e]; rfl
  · rw [List.length_map] at hi; exact hi
theorem yl_rng {K : PySem.W.Frag} {F : Fz} (lo : Int) (n : Nat) : Yl K F (Itr lo n) ((List.range n).map fun i : Nat => D.int (lo + (i : Int))) := by
  refine ⟨fun i F' H θ s r hi => ?_, fun i F' H θ x H' s r hi hy => ?_, fun i F' H θ s r hi => ?_⟩
  · rw [List.length_map, List.length_range] at hi; exact hi
  · obtain ⟨rfl, rfl⟩ := hy
    rw [List.length_map, List.length_range] at hi
    refine ⟨.int (lo + (i : Int)), F', ?_, Ext.refl _, r, rfl⟩
    rw [List.getElem?_map, List.getElem?_range hi]; rfl
  · rw [List.length_map, List.length_range] at hi; exact hi
theorem yl_rngC {K : PySem.W.Frag} {F : Fz} (lo c : Int) (n : Nat) : Yl K F (Itc lo c n) ((List.range n).map fun i : Nat => D.int (lo + (i : Int) * c)) := by
  refine ⟨fun i F' H θ s r hi => ?_, fun i F' H θ x H' s r hi hy => ?_, fun i F' H θ s r hi => ?_⟩
  · rw [List.length_map, List.length_range] at hi; exact hi
  · obtain ⟨rfl, rfl⟩ := hy
    rw [List.length_map, List.length_range] at hi
    refine ⟨.int (lo + (i : Int) * c), F', ?_, Ext.refl _, r, rfl⟩
    rw [List.getElem?_map, List.getElem?_range hi]; rfl
  · rw [List.length_map, List.length_range] at hi; exact hi
def dItE (te : DTE) : DTI := fun ρ θ Q => te ρ θ fun d θ1 => ∃ xs, itms d = some xs ∧ Q xs θ1
theorem i_seq' (he : DE X Ed W e te) : DI X Ed W tg e (dItE te) :=
  (pi_seq he).imp fun σ H R ⟨F, ρ, θ, Qd, n, h, k⟩ => ⟨F, ρ, θ, _, n, h, fun v H1 F1 θ1 d s1 r1 rv q1 => by
    obtain ⟨xs, e1, q⟩ := q1
    unfold itms at e1
    split at e1 <;> cases e1
    · obtain ⟨p, vs, rfl, h1, h2⟩ := rv
      exact .inl ⟨p, vs, rfl, .of (r1.ex _ _ h1), k _ _ F1 _ _ s1 r1 (yl_list (.of h1) h2) q⟩
    · obtain ⟨p, vs, rfl, h1, h2⟩ := rv
      exact .inl ⟨p, vs, rfl, r1.ex.seq h1, k _ _ F1 _ _ s1 r1 (yl_list h1 h2) q⟩
    · obtain ⟨p, vs, rfl, h1, h2⟩ := rv
      exact .inr (.inl ⟨p, vs, rfl, same_t r1.ex h1, k _ _ F1 _ _ s1 r1 (yl_tup h1 h2) q⟩)
    · cases rv
      exact .inr (.inr ⟨_, rfl, k _ _ F1 _ _ s1 r1 (yl_str _) q⟩)⟩
def rngD (lo : Int) (n : Nat) : List D := (List.range n).map fun i : Nat => D.int (lo + (i : Int))
def dRng1 (tl : DTA) : DTI := fun ρ θ Q => tl ρ θ fun ds θ1 => match ds with
  | [.int j] => -(2 ^ 62) ≤ j ∧ j < 2 ^ 62 ∧ Q (rngD 0 j.toNat) θ1
  | _ => False
theorem i_rng1 {p : Pos} (hm : X.mg "range" = none) (ha : DA X Ed W [a] tl) (hg : Gl X "range" := by rfl) (hs : starEach [a] X.env = [(false, eval a X.env)] := by rfl) : DI X Ed W tg (.Call (.Name "range" p) [a] [] pos) (dRng1 tl) :=
  (pi_range1 hg hm ha hs).imp fun σ H R ⟨F, ρ, θ, Qd, n, h, k⟩ => ⟨F, ρ, θ, _, n, h, fun vs H1 F1 θ1 ds s1 r1 rv q1 => by
    split at q1
    · obtain ⟨v, rfl, r2⟩ := repl1 rv
      cases r2
      exact ⟨_, rfl, q1.1, q1.2.1, k _ _ F1 _ _ s1 r1 (yl_rng _ _) q1.2.2⟩
    · cases q1⟩
def dRng2 (tl : DTA) : DTI := fun ρ θ Q => tl ρ θ fun ds θ1 => match ds with
  | [.int i, .int j] => (-(2 ^ 62) ≤ i ∧ i < 2 ^ 62 ∧ -(2 ^ 62) ≤ j ∧ j < 2 ^ 62) ∧ Q (rngD i (j - i).toNat) θ1
  | _ => False
theorem i_rng2 {p : Pos} (hm : X.mg "range" = none) (ha : DA X Ed W [a, b] tl) (hg : Gl X "range" := by rfl) (hs : starEach [a, b] X.env = [(false, eval a X.env), (false, eval b X.env)] := by rfl) (hs2 : starEach [b] X.env = [(false, eval b X.env)] := by rfl) :
    DI X Ed W tg (.Call (.Name "range" p) [a, b] [] pos) (dRng2 tl) :=
  (pi_range2 hg hm ha hs hs2).imp fun σ H R ⟨F, ρ, θ, Qd, n, h, k⟩ => ⟨F, ρ, θ, _, n, h, fun vs H1 F1 θ1 ds s1 r1 rv q1 => by
    split at q1
    · obtain ⟨v, w, rfl, r2, r3⟩ := repl2 rv
      cases r2; cases r3
      exact ⟨_, _, rfl, q1.1, k _ _ F1 _ _ s1 r1 (yl_rng _ _) q1.2⟩
    · cases q1⟩
/-- range(i, j, -1) -/
def dRng3 (tl : DTA) : DTI := fun ρ θ Q => tl ρ θ fun ds θ1 => match ds with
  | [.int i, .int j, .int (-1)] => (-(2 ^ 62) ≤ i ∧ i < 2 ^ 62 ∧ -(2 ^ 62) ≤ j ∧ j < 2 ^ 62) ∧ Q ((List.range (i - j).toNat).map fun k : Nat => D.int (i - (k : Int))) θ1
  | _ => False
theorem i_rng3 {p : Pos} (hm : X.mg "range" = none) (ha : DA X Ed W [a, b, c] tl) (hg : Gl X "range" := by rfl)
    (hs : starEach [a, b, c] X.env = (false, eval a X.env) :: starEach [b, c] X.env := by rfl) (hpl : (backTo pos (starEach [b, c] X.env)).any (·.1) = false := by rfl) : DI X Ed W tg (.Call (.Name "range" p) [a, b, c] [] pos) (dRng3 tl) :=
  (pi_range3 hg hm ha hs hpl).imp fun σ H R ⟨F, ρ, θ, Qd, n, h, k⟩ => ⟨F, ρ, θ, _, n, h, fun vs H1 F1 θ1 ds s1 r1 rv q1 => by
    split at q1
    · rename_i i j
      obtain ⟨w, ws, rfl, r2, t⟩ := rv
      obtain ⟨v, w', rfl, r3, r4⟩ := repl2 t
      cases r2; cases r3; cases r4
      obtain ⟨⟨h1, h2, h3, h4⟩, q⟩ := q1
      refine ⟨i, j, -1, (i - j).toNat, rfl, RgC.neg h1 h2 h3 h4, k _ _ F1 _ _ s1 r1 (yl_rngC _ _ _) ?_⟩
      have e : (fun k : Nat => D.int (i + (k : Int) * -1)) = fun k : Nat => D.int (i - (k : Int)) := by
        funext k; congr 1; omega
      rw [e]; exact q
    · cases q1⟩

/-! ### what a def promises -/
abbrev DSp := List D → Th → DQ → DXK → Prop
def upSp (K : PySem.W.Frag) (sp : DSp) : Sp := fun vs H Qc Ec => ∃ F θ ds Q E, Rel K F H θ ∧ RepL K F ds vs ∧ sp ds θ Q E ∧ Cont K F Q Qc ∧ ContX K F E Ec
abbrev FnD (P : Program) (w : World) (K : PySem.W.Frag) (mg : Str → Option Value) (base : Heap) (k : Nat) (f : Addr) (fd : FuncData) (ps : List Str) (sp : DSp) : Prop := FnOk P w K mg base (L2.CX P w) k f fd ps (upSp K sp)
/-- an exception may leave as W says -/
abbrev Tk (X : Cx) (W : XK) : Prop := Takes X (fun c d _ H => W c d H)
theorem tk_pass (tk : Tk X W) : Passes (L2.CX X.prog X.w) X W := passes_call tk fun _ _ _ _ h => h
def dCall (sp : DSp) (dvs : List D) (Ed : DXK) (tl : DTA) : DTE := fun ρ θ Q => tl ρ θ fun ds θ1 => sp (ds ++ dvs) θ1 Q Ed
theorem d_call {sp : DSp} {k : Nat} {f : Addr} {fd : FuncData} {ps : List Str} {x : Str} {p : Pos} {dvs : List D} {dv : List V} {ds : List Value} (tk : Tk X W) (F : FnD X.prog X.w X.K X.mg X.base k f fd ps sp) (hr : Room k X.A) (hm : X.mg x = some (.ref f)) (hk : PySem.W.keepIn X.K (.ref f) = true)
    (hb : Binds X.K fd ps ds) (hd : Vals dv ds) (hv : ∀ F, RepL X.K F dvs dv) (ha : DA X Ed W (a :: es) tl) (hg : Gl X x := by rfl) (hdb : (x == ("__debug__" : Str)) = false := by decide) (he : starEach (a :: es) X.env = (false, eval a X.env) :: starEach es X.env := by rfl)
    (hpl : (backTo pos (starEach es X.env)).any (·.1) = false := by rfl) : DE X Ed W (.Call (.Name x p) (a :: es) [] pos) (dCall sp dvs Ed tl) :=
  (pe_call F hr hg hm hk hb hd (tk_pass tk) ha hdb he hpl).imp fun σ H Q ⟨F, ρ, θ, Qd, n, h, kk⟩ => ⟨F, ρ, θ, _, n, h, fun vs H1 F1 θ1 ds s1 r1 rv q1 => ⟨F1, θ1, _, Qd, Ed, r1, rv.append (hv F1), q1, kk.mono s1, n.cx.mono s1⟩⟩
theorem d_call0 {sp : DSp} {k : Nat} {f : Addr} {fd : FuncData} {ps : List Str} {x : Str} {p : Pos} {dvs : List D} {dv : List V} {ds : List Value} (tk : Tk X W) (F : FnD X.prog X.w X.K X.mg X.base k f fd ps sp) (hr : Room k X.A) (hm : X.mg x = some (.ref f)) (hk : PySem.W.keepIn X.K (.ref f) = true)
    (hb : Binds X.K fd ps ds) (hd : Vals dv ds) (hv : ∀ F, RepL X.K F dvs dv) (hg : Gl X x := by rfl) (hdb : (x == ("__debug__" : Str)) = false := by decide) : DE X Ed W (.Call (.Name x p) [] [] pos) (dCall sp dvs Ed dNil) :=
  (pe_call0 F hr hg hm hk hb hd (tk_pass tk) hdb).imp fun σ H Q ⟨F, ρ, θ, Qd, n, h, kk⟩ => show tCall _ _ _ _ _ _ _ from ⟨F, θ, _, Qd, Ed, n.rel, hv F, h, kk, n.cx⟩
/-- the body of a def keeps its promise -/
theorem tk_def {P : Program} {w : World} {K : PySem.W.Frag} {mg : Str → Option Value} {base : Heap} {N : List Str} {qual : Str} {scope : Scope} {f : Addr} {cd : Value} {A : Around} {outer : List Env} {s : Shared} {H : Hp} {E : XK} :
    Tk (cxOf (L2.CX P w) P w K mg base N qual scope f cd A outer s H E) E := takes_of rfl rfl rfl rfl
theorem po_def {P : Program} {w : World} {K : PySem.W.Frag} {mg : Str → Option Value} {base : Heap} {N : List Str} {qual : Str} {scope : Scope} {f : Addr} {cd : Value} {A : Around} {outer : List Env} {s : Shared} {H : Hp} {E : XK} :
    PassesOwn (model P w) (cxOf (L2.CX P w) P w K mg base N qual scope f cd A outer s H E).A (cxOf (L2.CX P w) P w K mg base N qual scope f cd A outer s H E).env (cxOf (L2.CX P w) P w K mg base N qual scope f cd A outer s H E).xe := passes_of rfl
theorem fn_d {P : Program} {w : World} {K : PySem.W.Frag} {mg : Str → Option Value} {base : Heap} {x qual : Str} {st : Stmt} {f : Addr} {fd : FuncData} {N ps : List Str} {k : Nat} {sp : DSp} (F : Fun K x qual st f fd) (S : FnScope N ps (defScope st)) (len : ∀ ds θ Q E, sp ds θ Q E → ds.length = ps.length)
    (hbody : ∀ (cdv : Value) (A : Around) (outer : List Env) (s : Shared) (H : Hp) (E : XK) (Ed : DXK), Room k (A.deeper (envOfC qual (defScope st) s.heap.objs.size f cdv)) →
      ∃ t, DSs (cxOf (L2.CX P w) P w K mg base N qual (defScope st) f cdv A outer s H E) Ed E (defBody st) t ∧ ∀ ds θ Q, sp ds θ Q Ed → t { nx := fun _ θ' => Q .non θ', rt := Q } (startD N ds) θ) : FnD P w K mg base (k + 1) f fd ps sp := by
  refine F.okX S (fun vs H Q E h => ?_) (fun cdv A outer s H vs Q E hr h => ?_)
  · obtain ⟨F0, θ, ds, Qd, Ed, r, rv, h, _⟩ := h
    rw [rv.length]; exact len _ _ _ _ h
  · obtain ⟨F0, θ, ds, Qd, Ed, r, rv, h, kk, kx⟩ := h
    obtain ⟨t, ht, hs⟩ := hbody cdv A outer s H E Ed hr
    exact ⟨_, ht, F0, startD N ds, θ, _, ⟨r, RepS.start rv, kx⟩, hs ds θ Qd h,
      ⟨fun σ' H' F' ρ' θ' s' n' q' => kk _ _ F' _ .non s' n'.rel rfl q', kk, fun _ _ _ _ _ _ _ q => q.elim, fun _ _ _ _ _ _ _ q => q.elim⟩⟩

/-! ### list comprehensions -/
abbrev Ex0 : DXK := fun _ _ _ _ => False
theorem cx0 {K : PySem.W.Frag} {F : Fz} : ContX K F Ex0 E0 := fun _ _ _ _ _ _ _ _ _ _ h => h.elim
def dYes : DTT := fun _ θ Q => Q true θ
def dLc (cc : Bool) (ti : DTI) (g : DTG) (tt : DTT) (te : DTE) (vs : List Nat) : DTE := fun ρ θ Q => ti ρ θ fun xs θ1 => xs.length ≤ sizeLine ∧ ∃ Pv : Nat → List D → Th → Prop, Pv 0 [] θ1 ∧
  (∀ i x acc θ2, xs[i]? = some x → Pv i acc θ2 → g x (wipD ρ vs) θ2 fun ρ3 θ3 => tt ρ3 θ3 fun b θ4 => if b = true then te ρ3 θ4 fun d θ5 => Pv (i + 1) (acc ++ [d]) θ5 else Pv (i + 1) acc θ4) ∧
  ∀ acc θ2, Pv xs.length acc θ2 → newL cc acc θ2 Q
abbrev DTs (X : Cx) (Ed : DXK) (W : XK) (ifs : List Expr) (t : DTT) : Prop := PTs X ifs (upT X.K Ed W t)
theorem ts_nil : DTs X Ed W [] dYes := ⟨fun pins s σ H Q I ⟨F, ρ, θ, Qd, n, h, k⟩ => pts_nil.run pins s σ H Q I (k _ _ F _ (Ext.refl F) n.rel h)⟩
theorem ts_one {t : DTT} (h : DT X Ed W c t) : DTs X Ed W [c] t := pts_one h
theorem lc_up {K : PySem.W.Frag} {ti : DTI} {g : DTG} {tt : DTT} {te : DTE} {vs is : List Nat} {cc : Bool} (hi : ∀ i ∈ is, i ∈ vs) {σ : L2.St} {H : Hp} {Q : VK} (h : upE K Ed W (dLc cc ti g tt te vs) σ H Q) :
    tLc (upI K Ed W ti) (upG K Ex0 E0 is g) (upT K Ex0 E0 tt) (upE K Ex0 E0 te) vs σ H Q := by
  obtain ⟨F, ρ, θ, Qd, n, h, k⟩ := h
  refine ⟨F, ρ, θ, _, n, h, fun J H1 F1 θ1 xs s1 r1 y q1 => ?_⟩
  obtain ⟨hz, Pv, p0, ps, pd⟩ := q1
  intro L hL
  obtain ⟨fL, tL, gL⟩ := r1.fresh hL
  -- a turn's word
  refine ⟨fun i m H' => m = xs.length - i ∧ i ≤ xs.length ∧ ∃ F' θ' acc av, Ext F1 F' ∧ Rel K F' H' θ' ∧ F'.fz L = none ∧ θ' L = none ∧ H' L = some (.lst av) ∧ RepL K F' acc av ∧ acc.length ≤ i ∧ Pv i acc θ',
    ⟨xs.length, by simp, Nat.zero_le _, F1, θ1, [], [], Ext.refl _, r1.skip hL, fL, tL, upd_same, rfl, Nat.le_refl _, p0⟩, ?_⟩
  rintro i m H' ⟨rfl, hle, F', θ', acc, av, s', r', f', t', e', ra, la, p'⟩
  by_cases hlt : i < xs.length
  · refine .inr ⟨y.go i F' H' θ' s'.1 r' hlt, fun H2 => i + 1 ≤ xs.length ∧ ∃ F2 θ2 acc av, Ext F1 F2 ∧ Rel K F2 H2 θ2 ∧ F2.fz L = none ∧ θ2 L = none ∧ H2 L = some (.lst av) ∧ RepL K F2 acc av ∧ acc.length ≤ i + 1 ∧ Pv (i + 1) acc θ2,
      fun H2 w => ⟨xs.length - (i + 1), by omega, rfl, w⟩, fun x H2 hy => ?_⟩
    -- the list is left alone while the turn runs
    have gF : F'.gr L = none := by rw [s'.2]; exact gL
    have rh := r'.hide f' t' e'
    obtain ⟨d, F2, ed, s2, r2, rv⟩ := y.yld i ⟨F'.fz, upd F'.gr L (.lst av)⟩ H' θ' x H2 s'.1 rh hlt hy
    -- behind a step of the turn
    have back : ∀ (F3 : Fz) (H3 : Hp) (θ3 : Th), Ext ⟨F'.fz, upd F'.gr L (.lst av)⟩ F3 → Rel K F3 H3 θ3 → F3.fz L = none ∧ θ3 L = none ∧ H3 L = some (.lst av) ∧ Ext F1 ⟨F3.fz, F'.gr⟩ ∧ Rel K ⟨F3.fz, F'.gr⟩ H3 θ3 := fun F3 H3 θ3 s3 r3 => by
      have g3 : F3.gr L = some (.lst av) := by rw [s3.2]; exact upd_same
      obtain ⟨q1, q2⟩ := r3.dj L _ g3
      refine ⟨q1, q2, r3.gr _ _ g3, ⟨s'.1.trans s3.1, s'.2⟩, r3.unhide ?_⟩
      rw [s3.2]; exact same_upd gF
    refine ⟨F2, wipD ρ vs, θ', d, _, ⟨r2, ((((n.sl.mono s1).mono s').wipe vs).gr (G := upd F'.gr L (.lst av))).mono s2, cx0⟩, rv, ps i d acc θ' ed p', fun σ3 H3 F3 ρ3 θ3 s3 n3 o3 q3 => ⟨o3.wipe hi, ?_⟩⟩
    refine ⟨F3, ρ3, θ3, _, n3, q3, fun b H4 F4 θ4 s4 r4 q4 => ?_⟩
    have s24 := (s2.trans s3).trans s4
    cases b with
    | true =>
      rw [if_pos rfl] at q4
      show if true = true then _ else _
      rw [if_pos rfl]
      refine ⟨F4, ρ3, θ4, _, n3.step s4 r4, q4, fun v H5 F5 θ5 d5 s5 r5 rv5 q5 => ?_⟩
      obtain ⟨b1, b2, b3, b4, b5⟩ := back F5 H5 θ5 (s24.trans s5) r5
      refine ⟨av, b3, by rw [ra.length]; omega, hlt, ⟨F5.fz, F'.gr⟩, θ5, acc ++ [d5], av ++ [v], b4, ?_, b1, b2, upd_same, ?_, by rw [List.length_append, List.length_singleton]; omega, q5⟩
      · have g5 : (⟨F5.fz, F'.gr⟩ : Fz).gr L = none := gF
        refine ⟨fun c o z => ?_, fun c o z => ?_, b5.dj, fun c o z => ?_⟩
        · have : c ≠ L := fun e => by
            have z' : F5.fz c = some o := z
            rw [e, b1] at z'; cases z'
          rw [upd_ne this]; exact b5.ex c o z
        · have : c ≠ L := fun e => by
            have z' : F'.gr c = some o := z
            rw [e, gF] at z'; cases z'
          rw [upd_ne this]; exact b5.gr c o z
        · have : c ≠ L := fun e => by rw [e, b2] at z; cases z
          obtain ⟨w1, w2⟩ := b5.cl c o z
          exact ⟨w1, w2.mono (Ext.refl _) (upd_ne this)⟩
      · have e5 : Same F'.fz F5.fz := (s24.trans s5).1
        refine RepL.append ?_ (.one rv5.gr)
        exact (ra.mono (F' := ⟨F5.fz, F'.gr⟩) ⟨e5, rfl⟩)
    | false =>
      rw [if_neg Bool.false_ne_true] at q4
      show if false = true then _ else _
      rw [if_neg Bool.false_ne_true]
      obtain ⟨b1, b2, b3, b4, b5⟩ := back F4 H4 θ4 s24 r4
      exact ⟨hlt, ⟨F4.fz, F'.gr⟩, θ4, acc, av, b4, b5, b1, b2, b3, RepL.mono (F := F') (F' := ⟨F4.fz, F'.gr⟩) ⟨s24.1, rfl⟩ ra, by omega, q4⟩
  · have e : i = xs.length := by omega
    subst e
    refine .inl ⟨y.stop _ F' H' θ' s'.1 r' (Nat.le_refl _), ?_⟩
    have q := pd acc θ' p'
    have sA := s1.trans s'
    have gF : F'.gr L = none := by rw [s'.2]; exact gL
    unfold newL at q
    cases cc with
    | true =>
      rw [if_pos rfl] at q
      refine k _ _ F' _ (.ref L) sA ?_ rfl (q L t')
      refine ⟨r'.ex, r'.gr, fun c o z => ?_, fun c o z => ?_⟩
      · have : c ≠ L := fun e => by rw [e, gF] at z; cases z
        obtain ⟨w1, w2⟩ := r'.dj c o z
        exact ⟨w1, (ups_ne this).trans w2⟩
      · by_cases hc : c = L
        · subst hc; rw [ups_same] at z; cases z; exact ⟨f', av, e', ra⟩
        · rw [ups_ne hc] at z; exact r'.cl c o z
    | false =>
      rw [if_neg Bool.false_ne_true] at q
      have sP : Ext F' (F'.put L (.lst av)) := ⟨same_upd f', rfl⟩
      refine k _ _ (F'.put L (.lst av)) θ' (.lst acc) (sA.trans sP) ?_ ⟨L, av, rfl, upd_same, ra.mono sP⟩ q
      refine ⟨fun c o z => ?_, r'.gr, fun c o z => ?_, fun c o z => ?_⟩
      · have z : upd F'.fz L (.lst av) c = some o := z
        by_cases hc : c = L
        · subst hc; rw [upd_same] at z; cases z; exact e'
        · rw [upd_ne hc] at z; exact r'.ex c o z
      · have : c ≠ L := fun e => by
          have z' : F'.gr c = some o := z
          rw [e, gF] at z'; cases z'
        obtain ⟨w1, w2⟩ := r'.dj c o z
        exact ⟨(upd_ne this).trans w1, w2⟩
      · have : c ≠ L := fun e => by rw [e, t'] at z; cases z
        obtain ⟨w1, w2⟩ := r'.cl c o z
        exact ⟨(upd_ne this).trans w1, w2.mono sP rfl⟩
theorem d_lc {elt tg iter : Expr} {ifs : List Expr} {scope : Scope} {own : List (Str × Nat)} {ti : DTI} {g : DTG} {tt : DTT} {is : List Nat} (cc : Bool) (hc : X.calm = true) (hN : X.N.Nodup) (hi : DI X Ed W tg iter ti) (ok : BlkOk X.N X.env.scope scope own)
    (hg : ∀ (s : Shared) (H : Hp) (C : Addr) (cl : List (Str × Addr)) (fp : List Addr), DG (X.blk s H scope (compEnvC scope cl C X.env) fp) Ex0 E0 is tg g) (ht : ∀ (s : Shared) (H : Hp) (C : Addr) (cl : List (Str × Addr)) (fp : List Addr), DTs (X.blk s H scope (compEnvC scope cl C X.env) fp) Ex0 E0 ifs tt)
    (he : ∀ (s : Shared) (H : Hp) (C : Addr) (cl : List (Str × Addr)) (fp : List Addr), DE (X.blk s H scope (compEnvC scope cl C X.env) fp) Ex0 E0 elt te) (hs : ∀ x, foldedSetIterable iter X.env x = pure x := by intro _; rfl) (his : ∀ i ∈ is, i ∈ own.map (·.2) := by decide) :
    DE X Ed W (.ListComp elt [⟨tg, iter, ifs, 0⟩] scope pos) (dLc cc ti g tt te (own.map (·.2))) :=
  (pe_lc hc hN hi ok hg ht he hs).imp fun σ H Q h => lc_up his h
/-- y = [..] on one line -/
theorem s_setLc {i : Nat} {y : Str} {py spos : Pos} {elt tg iter : Expr} {ifs : List Expr} {scope : Scope} {own : List (Str × Nat)} {ti : DTI} {g : DTG} {tt : DTT} {is : List Nat} (cc : Bool) (hc : X.calm = true) (hN : X.N.Nodup)
    (hi : DI X Ed W tg iter ti) (ok : BlkOk X.N X.env.scope scope own)
    (hg : ∀ (s : Shared) (H : Hp) (C : Addr) (cl : List (Str × Addr)) (fp : List Addr), DG (X.blk s H scope (compEnvC scope cl C X.env) fp) Ex0 E0 is tg g) (ht : ∀ (s : Shared) (H : Hp) (C : Addr) (cl : List (Str × Addr)) (fp : List Addr), DTs (X.blk s H scope (compEnvC scope cl C X.env) fp) Ex0 E0 ifs tt)
    (he : ∀ (s : Shared) (H : Hp) (C : Addr) (cl : List (Str × Addr)) (fp : List Addr), DE (X.blk s H scope (compEnvC scope cl C X.env) fp) Ex0 E0 elt te) (hy : X.N[i]? = some y := by rfl) (hyl : X.env.scope.names.lookup y = some .local := by rfl)
    (hsw : swapsWith (.ListComp elt [⟨tg, iter, ifs, 0⟩] scope pos) (some (.Name y py)) spos.line X.env = pure true := by exact sw_true rfl rfl rfl (by decide +kernel)) (hs : ∀ x, foldedSetIterable iter X.env x = pure x := by intro _; rfl) (his : ∀ i ∈ is, i ∈ own.map (·.2) := by decide) :
    DS X Ed W (.Assign [.Name y py] (.ListComp elt [⟨tg, iter, ifs, 0⟩] scope pos) spos) (dAsg (dLc cc ti g tt te (own.map (·.2))) (gNm i)) :=
  (ps_setLc hc hN hy hyl hsw hi ok hg ht he hs).imp fun E σ H ⟨F, ρ, θ, D, n, h, k⟩ => lc_up (K := X.K) (Ed := Ed) (W := W) his ⟨F, ρ, θ, _, n, h, fun v H1 F1 θ1 d s1 r1 rv q1 => by
    refine k.nx _ _ F1 _ _ s1 ((n.step s1 r1).slot ?_) q1
    rw [setS_eq]; exact (n.sl.mono s1).set rv i⟩
end it
end DL

set_option linter.all false
set_option maxRecDepth 100000
set_option maxHeartbeats 2000000
namespace DL
open PySem PySem.Spec PyProof.Rows L2

section m
variable {X : Cx} {Ed : DXK} {W : XK} {a b c e : Expr} {ta tb tc te : DTE} {pos : Pos} {es : List Expr} {tl : DTA}

/-! ### methods of what is built in -/
def tyD (T : String) (θ : Th) (d : D) : Prop := match d with
  | .str _ => T = "str"
  | d => T = "list" ∧ ∃ ds, asL θ d = some ds
theorem tyD_ok {K : PySem.W.Frag} {F : Fz} {H : Hp} {θ : Th} {d : D} {v : V} {T : String} (r : Rel K F H θ) (rv : Rep K F d v) (h : tyD T θ d) : tyV K T v H := by
  unfold tyD at h
  split at h
  · cases rv; exact h
  · obtain ⟨e, ds, q⟩ := h
    obtain ⟨p, vs, rfl, h3, _⟩ := asL_ok r rv q
    exact .inl ⟨e, vs, h3⟩
def dBM (T : String) (dr : DM) (ta : DTE) (tl : DTA) : DTE := fun ρ θ Q => ta ρ θ fun x θ1 => tyD T θ1 x ∧ tl ρ θ1 fun ds θ2 => dr x ds θ2 Q
theorem d_bm {T id : String} {name : Str} {dr : DM} {apos cpos : Pos} (pa : PlainAttrs T) (slot : Slot T name id) (hty : typeOf (.builtin id) = pure (.type "method_descriptor")) (hm : MtR X id (upM X.K dr)) (ho : DE X Ed W a ta) (ha : DA X Ed W (e :: es) tl)
    (hbase : attributeBase a name X.env (eval a X.env) = eval a X.env := by rfl)
    (hfew : ((backTo cpos (starEach (e :: es) X.env)).all (fun x => !x.1) && (backToKw cpos (keywordEach [] X.env)).all (fun x => x.1.isSome)
      && decide ((e :: es).length + ([] : List Keyword).length + (if ([] : List Keyword).isEmpty then 0 else 1) < 30)) = true := by rfl)
    (hline : (apos.endLine == cpos.line) = true := by rfl) (hs : starEach (e :: es) X.env = (false, eval e X.env) :: starEach es X.env := by rfl) (hplain : (backTo cpos (starEach es X.env)).any (·.1) = false := by rfl) :
    DE X Ed W (.Call (.Attribute a name apos) (e :: es) [] cpos) (dBM T dr ta tl) :=
  (pe_bm pa slot hty hm ho ha hbase hfew hline hs hplain).imp fun σ H Q ⟨F, ρ, θ, Qd, n, h, k⟩ => ⟨F, ρ, θ, _, n, h, fun v H1 F1 θ1 d s1 r1 rv q1 => ⟨tyD_ok r1 rv q1.1, F1, ρ, θ1, _, n.step s1 r1, q1.2, fun vs H2 F2 θ2 ds s2 r2 rvs q2 =>
    ⟨F2, θ2, d, ds, Qd, r2, rv.mono s2, rvs, q2, k.mono (s1.trans s2)⟩⟩⟩
theorem d_bm0 {T id : String} {name : Str} {dr : DM} {apos cpos : Pos} (pa : PlainAttrs T) (slot : Slot T name id) (hty : typeOf (.builtin id) = pure (.type "method_descriptor")) (hm : MtR X id (upM X.K dr)) (ho : DE X Ed W a ta)
    (hbase : attributeBase a name X.env (eval a X.env) = eval a X.env := by rfl) (hline : (apos.endLine == cpos.line) = true := by rfl) : DE X Ed W (.Call (.Attribute a name apos) [] [] cpos) (dBM T dr ta dNil) :=
  (pe_bm0 pa slot hty hm ho hbase hline).imp fun σ H Q ⟨F, ρ, θ, Qd, n, h, k⟩ => ⟨F, ρ, θ, _, n, h, fun v H1 F1 θ1 d s1 r1 rv q1 => ⟨tyD_ok r1 rv q1.1, F1, θ1, d, [], Qd, r1, rv, rfl, q1.2, k.mono s1⟩⟩

/-- texts among data -/
def txts : List D → Option (List Str)
  | [] => some []
  | .str x :: r => (txts r).map (x :: ·)
  | _ => none
theorem strs_ok {K : PySem.W.Frag} {F : Fz} : ∀ {ds : List D} {vs : List V} {zs : List Str}, RepL K F ds vs → txts ds = some zs → vs = zs.map V.str
  | [], _, _, r, e => by cases e; cases (show _ = [] from r); rfl
  | d :: ds, _, _, r, e => by
    obtain ⟨w, ws, rfl, r1, r2⟩ := r
    cases d <;> simp only [txts] at e <;> try cases e
    cases q : txts ds with
    | none => rw [q] at e; cases e
    | some zs =>
      rw [q] at e; cases e
      cases r1
      rw [strs_ok r2 q, List.map_cons]
theorem strs_map : ∀ zs : List Str, txts (zs.map D.str) = some zs
  | [] => rfl
  | z :: r => by rw [List.map_cons, txts, strs_map r]; rfl
theorem rep_strs {K : PySem.W.Frag} {F : Fz} : ∀ zs : List Str, RepL K F (zs.map D.str) (zs.map V.str) := RepL.map fun _ => rfl
def dSplit (cc : Bool) : DM := fun x ds θ Q => match x, ds with
  | .str z, [.str s] => (s.length == 0) = false ∧ z.length + 2 ≤ sizeLine ∧ newL cc ((Txt.split z s).map D.str) θ Q
  | _, _ => False
theorem m_split {cc : Bool} : MtR X "str.split" (upM X.K (dSplit cc)) := by
  intro pins s σ H x xs v us Qc I rx rs ⟨F, θ, dx, ds, Q, r, r1, r2, q, k⟩
  unfold dSplit at q
  split at q
  · cases r1
    obtain ⟨w, rfl, r3⟩ := repl1 r2
    cases r3
    exact mt_split pins s σ H _ _ v us Qc I rx rs ⟨_, _, rfl, rfl, q.1, q.2.1, newL_ok r (rep_strs _) q.2.2 k⟩
  · cases q
def dJoin : DM := fun x ds θ Q => match x, ds with
  | .str z, [y] => ∃ ys zs, asQ θ y = some ys ∧ txts ys = some zs ∧ (zs.map (·.length)).sum + zs.length * z.length ≤ 16777216 ∧ Q (.str (Txt.join z zs)) θ
  | _, _ => False
theorem m_join : MtR X "str.join" (upM X.K dJoin) := by
  intro pins s σ H x xs v us Qc I rx rs ⟨F, θ, dx, ds, Q, r, r1, r2, q, k⟩
  unfold dJoin at q
  split at q
  · cases r1
    obtain ⟨w, rfl, r3⟩ := repl1 r2
    obtain ⟨ys, zs, e1, e2, hz, q⟩ := q
    obtain ⟨p, vs, rfl, h3, h4⟩ := asQ_ok r r3 e1
    have ev := strs_ok h4 e2
    subst ev
    exact mt_join pins s σ H _ _ v us Qc I rx rs ⟨_, p, zs, rfl, rfl, h3, hz, k _ _ F _ (.str _) (Ext.refl F) r rfl q⟩
  · cases q
def dStr1 (g : Str → Str → D) : DM := fun x ds θ Q => match x, ds with
  | .str z, [.str s] => Q (g z s) θ
  | _, _ => False
theorem m_find : MtR X "str.find" (upM X.K (dStr1 fun a b => .int (Txt.find a b))) := by
  intro pins s σ H x xs v us Qc I rx rs ⟨F, θ, dx, ds, Q, r, r1, r2, q, k⟩
  unfold dStr1 at q
  split at q
  · cases r1
    obtain ⟨w, rfl, r3⟩ := repl1 r2
    cases r3
    exact mt_find pins s σ H _ _ v us Qc I rx rs ⟨_, _, rfl, rfl, k _ _ F _ (.int _) (Ext.refl F) r rfl q⟩
  · cases q
theorem m_endswith : MtR X "str.endswith" (upM X.K (dStr1 fun a b => .bl (Txt.endswith a b))) := by
  intro pins s σ H x xs v us Qc I rx rs ⟨F, θ, dx, ds, Q, r, r1, r2, q, k⟩
  unfold dStr1 at q
  split at q
  · cases r1
    obtain ⟨w, rfl, r3⟩ := repl1 r2
    cases r3
    exact mt_endswith pins s σ H _ _ v us Qc I rx rs ⟨_, _, rfl, rfl, k _ _ F _ (.bl _) (Ext.refl F) r rfl q⟩
  · cases q
def dPart : DM := fun x ds θ Q => match x, ds with
  | .str z, [.str s] => (s.length == 0) = false ∧ z.length ≤ sizeLine ∧ Q (.tup [.str (Txt.partition z s).1, .str (Txt.partition z s).2.1, .str (Txt.partition z s).2.2]) θ
  | _, _ => False
theorem m_partition : MtR X "str.partition" (upM X.K dPart) := by
  intro pins s σ H x xs v us Qc I rx rs ⟨F, θ, dx, ds, Q, r, r1, r2, q, k⟩
  unfold dPart at q
  split at q
  · cases r1
    obtain ⟨w, rfl, r3⟩ := repl1 r2
    cases r3
    exact mt_partition pins s σ H _ _ v us Qc I rx rs ⟨_, _, rfl, rfl, q.1, q.2.1, newT_ok r (rep_strs [(Txt.partition _ _).1, (Txt.partition _ _).2.1, (Txt.partition _ _).2.2]) q.2.2 k⟩
  · cases q
/-- xs.append(v), of a cell -/
def dAppend : DM := fun x ds θ Q => match x, ds with
  | .ref a, [y] => ∃ xs, θ a = some (.lst xs) ∧ xs.length < sizeLine ∧ Q .non (ups θ a (.lst (xs ++ [y])))
  | _, _ => False
theorem m_append : MtR X "list.append" (upM X.K dAppend) := by
  intro pins s σ H x xs v us Qc I rx rs ⟨F, θ, dx, ds, Q, r, r1, r2, q, k⟩
  unfold dAppend at q
  split at q
  · rename_i p y
    cases (show x = .ref p from r1)
    obtain ⟨w, rfl, r3⟩ := repl1 r2
    obtain ⟨ys, e, hz, q⟩ := q
    obtain ⟨f, vs, e3, t3⟩ := r.cl p _ e
    exact mt_append pins s σ H _ _ v us Qc I rx rs ⟨p, vs, w, rfl, rfl, e3, by rw [t3.length]; exact hz, k _ _ F _ .non (Ext.refl F) (r.put e (c' := .lst (ys ++ [y])) ⟨_, upd_same, t3.append (.one r3)⟩) rfl q⟩
  · cases q

/-! ### all, any, tuple -/
def bools : List D → Option (List Bool)
  | [] => some []
  | .bl x :: r => (bools r).map (x :: ·)
  | _ => none
theorem bools_ok {K : PySem.W.Frag} {F : Fz} : ∀ {ds : List D} {vs : List V} {zs : List Bool}, RepL K F ds vs → bools ds = some zs → vs = zs.map V.bl
  | [], _, _, r, e => by cases e; cases (show _ = [] from r); rfl
  | d :: ds, _, _, r, e => by
    obtain ⟨w, ws, rfl, r1, r2⟩ := r
    cases d <;> simp only [bools] at e <;> try cases e
    cases q : bools ds with
    | none => rw [q] at e; cases e
    | some zs =>
      rw [q] at e; cases e
      cases r1
      rw [bools_ok r2 q, List.map_cons]
theorem bools_map : ∀ zs : List Bool, bools (zs.map D.bl) = some zs
  | [] => rfl
  | z :: r => by rw [List.map_cons, bools, bools_map r]; rfl
def dAll : DC := fun ds θ Q => match ds with
  | [x] => ∃ xs bs, asL θ x = some xs ∧ bools xs = some bs ∧ Q (.bl (bs.all id)) θ
  | _ => False
theorem c_all (hc : X.calm = true) : CallR X (.builtin "all") (upC X.K dAll) := by
  intro pins s σ H xs us Qc I rv ⟨F, θ, ds, Q, r, r1, q, k⟩
  unfold dAll at q
  split at q
  · obtain ⟨v, rfl, r2⟩ := repl1 r1
    obtain ⟨ys, bs, e1, e2, q⟩ := q
    obtain ⟨p, vs, rfl, h3, h4⟩ := asL_ok r r2 e1
    have ev := bools_ok h4 e2
    subst ev
    exact cr_all hc pins s σ H _ us Qc I rv ⟨p, bs, rfl, h3, k _ _ F _ (.bl _) (Ext.refl F) r rfl q⟩
  · cases q
def dAny : DC := fun ds θ Q => match ds with
  | [x] => ∃ xs bs, asL θ x = some xs ∧ bools xs = some bs ∧ Q (.bl (bs.any id)) θ
  | _ => False
theorem c_any (hc : X.calm = true) : CallR X (.builtin "any") (upC X.K dAny) := by
  intro pins s σ H xs us Qc I rv ⟨F, θ, ds, Q, r, r1, q, k⟩
  unfold dAny at q
  split at q
  · obtain ⟨v, rfl, r2⟩ := repl1 r1
    obtain ⟨ys, bs, e1, e2, q⟩ := q
    obtain ⟨p, vs, rfl, h3, h4⟩ := asL_ok r r2 e1
    have ev := bools_ok h4 e2
    subst ev
    exact cr_any hc pins s σ H _ us Qc I rv ⟨p, bs, rfl, h3, k _ _ F _ (.bl _) (Ext.refl F) r rfl q⟩
  · cases q
def dTupOf : DC := fun ds θ Q => match ds with
  | [x] => ∃ xs, asQ θ x = some xs ∧ Q (.tup xs) θ
  | _ => False
theorem c_tuple : CallR X (.type "tuple") (upC X.K dTupOf) := by
  intro pins s σ H xs us Qc I rv ⟨F, θ, ds, Q, r, r1, q, k⟩
  unfold dTupOf at q
  split at q
  · obtain ⟨v, rfl, r2⟩ := repl1 r1
    obtain ⟨ys, e, q⟩ := q
    unfold asQ at e
    split at e
    · cases e
      obtain ⟨p, vs, rfl, h3, h4⟩ := tup_inv r r2
      exact call_tuple_of pins s σ H _ us Qc I rv ⟨p, vs, rfl, .inr ⟨h3, k _ _ F _ (.tup _) (Ext.refl F) r r2 q⟩⟩
    · obtain ⟨p, vs, rfl, h3, h4⟩ := asL_ok r r2 e
      exact call_tuple_of pins s σ H _ us Qc I rv ⟨p, vs, rfl, .inl ⟨h3, newT_ok r h4 q k⟩⟩
  · cases q

/-! ### isinstance of a built-in class -/
def isD (T : String) : D → Option Bool
  | .non => kitB "NoneType" T
  | .bl _ => kitB "bool" T
  | .int _ => kitB "int" T
  | .str _ => kitB "str" T
  | .tup _ => kitB "tuple" T
  | .lst _ => kitB "list" T
  | .dct _ _ => kitB "dict" T
  | _ => none
def isDθ (T : String) (θ : Th) (d : D) : Option Bool := match d with
  | .ref a => match θ a with
    | some (.lst _) => kitB "list" T
    | some (.lstP _) => kitB "list" T
    | some (.dK _ _) => kitB "dict" T
    | _ => none
  | d => isD T d
def dIsi : DC := fun ds θ Q => match ds with
  | [x, .ty T] => ∃ k, isDθ T θ x = some k ∧ Q (.bl k) θ
  | _ => False
theorem tyx_tup {K : PySem.W.Frag} {H : Hp} {p : Addr} {vs : List V} (h : SqT K H p vs) : TyX K H (.ref p) (.type "tuple") := by
  rcases h with (h | ⟨o, h⟩) | ⟨o, its, n, h1, h2, _⟩
  · exact .base (.tup h)
  · exact .fTuple h
  · exact .kTuple h1 h2
theorem isi_ok {K : PySem.W.Frag} {F : Fz} {H : Hp} {θ : Th} {d : D} {v : V} {T : String} {k : Bool} (r : Rel K F H θ) (rv : Rep K F d v) (h : isDθ T θ d = some k) : ∃ t, TyX K H v t ∧ PySem.W.kitOne K t (.type T) = some k := by
  unfold isDθ at h
  split at h
  · rename_i p
    cases (show v = .ref p from rv)
    split at h
    · rename_i e; obtain ⟨_, vs, e3, _⟩ := r.cl p _ e; exact ⟨_, .base (.lst e3), kit_ty h⟩
    · rename_i e; obtain ⟨_, _, vs, _, e3, _⟩ := r.cl p _ e; exact ⟨_, .base (.lst e3), kit_ty h⟩
    · rename_i e; obtain ⟨_, vs, e3, _⟩ := r.cl p _ e; exact ⟨_, .base (.dK e3), kit_ty h⟩
    · cases h
  · unfold isD at h
    split at h
    · cases rv; exact ⟨_, .base .non, kit_ty h⟩
    · cases rv; exact ⟨_, .base (.bl _), kit_ty h⟩
    · cases rv; exact ⟨_, .base (.int _), kit_ty h⟩
    · cases rv; exact ⟨_, .base (.str _), kit_ty h⟩
    · obtain ⟨p, vs, rfl, h1, _⟩ := tup_inv r rv; exact ⟨_, tyx_tup h1, kit_ty h⟩
    · obtain ⟨p, vs, rfl, h1, _⟩ := rv; exact ⟨_, .base (.lst (r.ex _ _ h1)), kit_ty h⟩
    · obtain ⟨p, vs, rfl, h1, _⟩ := rv; exact ⟨_, .base (.dK (r.ex _ _ h1)), kit_ty h⟩
    · cases h
theorem c_isi : CallR X (.builtin "isinstance") (upC X.K dIsi) := by
  intro pins s σ H xs us Qc I rv ⟨F, θ, ds, Q, r, r1, q, k⟩
  unfold dIsi at q
  split at q
  · obtain ⟨v, w, rfl, r2, r3⟩ := repl2 r1
    cases r3
    obtain ⟨kk, e, q⟩ := q
    obtain ⟨t, h1, h2⟩ := isi_ok r r2 e
    exact call_isi pins s σ H _ us Qc I rv ⟨v, _, t, _, kk, rfl, .ty _, h1, h2, k _ _ F _ (.bl _) (Ext.refl F) r rfl q⟩
  · cases q

/-! ### f-strings -/
def dFmt (ta : DTE) : DTE := fun ρ θ Q => ta ρ θ fun d θ1 => match d with
  | .str z => z.length ≤ sizeLine ∧ Q (.str z) θ1
  | .int i => i.natAbs.log2 < 1920 ∧ Q (.str (toString i)) θ1
  | _ => False
theorem d_fmt (ha : DE X Ed W a ta) : DE X Ed W (.FormattedValue a (-1) none pos) (dFmt ta) :=
  (pe_fmt ha).imp fun σ H Q ⟨F, ρ, θ, Qd, n, h, k⟩ => ⟨F, ρ, θ, _, n, h, fun v H1 F1 θ1 d s1 r1 rv q1 => by
    split at q1
    · cases rv; exact .inl ⟨_, rfl, q1.1, k _ _ F1 _ (.str _) s1 r1 rfl q1.2⟩
    · cases rv; exact .inr ⟨_, rfl, q1.1, k _ _ F1 _ (.str _) s1 r1 rfl q1.2⟩
    · cases q1⟩
inductive DJ (X : Cx) (Ed : DXK) (W : XK) : List Expr → List DTE → Prop where
  | nil : DJ X Ed W [] []
  | cons {e : Expr} {t : DTE} {es : List Expr} {ts : List DTE} (h : DE X Ed W e t) (r : DJ X Ed W es ts) : DJ X Ed W (e :: es) (t :: ts)
def dJs : List DTE → Str → Sl → Th → (Str → Th → Prop) → Prop
  | [], acc, _, θ, Q => Q acc θ
  | t :: ts, acc, ρ, θ, Q => t ρ θ fun d θ1 => match d with
    | .str y => (acc ++ y).length ≤ sizeLine ∧ dJs ts (acc ++ y) ρ θ1 Q
    | _ => False
theorem dj_pj : ∀ {es : List Expr} {ts : List DTE}, DJ X Ed W es ts → PJ X es (ts.map (upE X.K Ed W))
  | _, _, .nil => .nil
  | _, _, .cons h r => .cons h (dj_pj r)
theorem djs_ok {K : PySem.W.Frag} : ∀ (ts : List DTE) (acc : Str) (σ : L2.St) (H : Hp) (F : Fz) (ρ : Sl) (θ : Th) (Qd : Str → Th → Prop) (Q : Str → Hp → Prop), Nd K Ed W F H σ ρ θ → dJs ts acc ρ θ Qd → (∀ z H' F' θ', Ext F F' → Rel K F' H' θ' → Qd z θ' → Q z H') → tJs (ts.map (upE K Ed W)) acc σ H Q
  | [], acc, σ, H, F, ρ, θ, Qd, Q, n, h, k => k _ _ F _ (Ext.refl F) n.rel h
  | t :: ts, acc, σ, H, F, ρ, θ, Qd, Q, n, h, k => ⟨F, ρ, θ, _, n, h, fun v H1 F1 θ1 d s1 r1 rv q1 => by
    split at q1
    · cases rv
      exact ⟨_, rfl, q1.1, djs_ok ts _ σ H1 F1 ρ θ1 Qd Q (n.step s1 r1) q1.2 fun z H2 F2 θ2 s2 => k z H2 F2 θ2 (s1.trans s2)⟩
    · cases q1⟩
def dFs (ts : List DTE) : DTE := fun ρ θ Q => dJs ts Str.empty ρ θ fun z θ1 => Q (.str z) θ1
theorem d_fstr {v1 v2 : Expr} {rest : List Expr} {ts : List DTE} (h : DJ X Ed W (v1 :: v2 :: rest) ts) : DE X Ed W (.JoinedStr (v1 :: v2 :: rest) pos) (dFs ts) :=
  (pe_joined (dj_pj h)).imp fun σ H Q ⟨F, ρ, θ, Qd, n, h, k⟩ => djs_ok ts _ σ H F ρ θ _ _ n h fun z H' F' θ' s r q => k _ _ F' _ (.str z) s r rfl q
theorem d_fstr1 (h : DE X Ed W a ta) : DE X Ed W (.JoinedStr [a] pos) ta := pe_joined1 h
end m
end DL

set_option linter.all false
set_option maxRecDepth 100000
set_option maxHeartbeats 2000000
namespace DL
open PySem PySem.Spec PyProof.Rows L2

/-! ### a def of the text as it is called -/
structure Df (P : Program) (w : World) (K : PySem.W.Frag) (mg : Str → Option Value) (base : Heap) (x : Str) (k : Nat) (ps : List Str) (sp : DSp) : Prop where
  ex : ∃ f fd, FnD P w K mg base k f fd ps sp ∧ mg x = some (.ref f) ∧ PySem.W.keepIn K (.ref f) = true ∧ Binds K fd ps []
theorem d_callD {X : Cx} {Ed : DXK} {W : XK} {a : Expr} {es : List Expr} {tl : DTA} {pos p : Pos} {x : Str} {k j : Nat} {ps : List Str} {sp : DSp} (tk : Tk X W) (C : Df X.prog X.w X.K X.mg X.base x k ps sp) (hr : Room j X.A) (hk : k ≤ j) (ha : DA X Ed W (a :: es) tl) (hg : Gl X x := by rfl) (hdb : (x == ("__debug__" : Str)) = false := by decide)
    (he : starEach (a :: es) X.env = (false, eval a X.env) :: starEach es X.env := by rfl) (hpl : (backTo pos (starEach es X.env)).any (·.1) = false := by rfl) : DE X Ed W (.Call (.Name x p) (a :: es) [] pos) (dCall sp [] Ed tl) := by
  obtain ⟨f, fd, F, hm, kp, hb⟩ := C.ex
  exact d_call tk F (hr.mono hk) hm kp hb .nil (fun _ => rfl) ha hg hdb he hpl
theorem d_callD0 {X : Cx} {Ed : DXK} {W : XK} {pos p : Pos} {x : Str} {k j : Nat} {ps : List Str} {sp : DSp} (tk : Tk X W) (C : Df X.prog X.w X.K X.mg X.base x k ps sp) (hr : Room j X.A) (hk : k ≤ j) (hg : Gl X x := by rfl) (hdb : (x == ("__debug__" : Str)) = false := by decide) :
    DE X Ed W (.Call (.Name x p) [] [] pos) (dCall sp [] Ed dNil) := by
  obtain ⟨f, fd, F, hm, kp, hb⟩ := C.ex
  exact d_call0 tk F (hr.mono hk) hm kp hb .nil (fun _ => rfl) hg hdb
theorem bt_len : bootBuiltins "len" = some (.builtin "len") := by decide +kernel
theorem bt_abs : bootBuiltins "abs" = some (.builtin "abs") := by decide +kernel
theorem bt_max : bootBuiltins "max" = some (.builtin "max") := by decide +kernel
theorem bt_min : bootBuiltins "min" = some (.builtin "min") := by decide +kernel
theorem bt_all : bootBuiltins "all" = some (.builtin "all") := by decide +kernel
theorem bt_any : bootBuiltins "any" = some (.builtin "any") := by decide +kernel
theorem bt_isinstance : bootBuiltins "isinstance" = some (.builtin "isinstance") := by decide +kernel
theorem bt_int : bootBuiltins "int" = some (.type "int") := by decide +kernel
theorem bt_str : bootBuiltins "str" = some (.type "str") := by decide +kernel
theorem bt_bool : bootBuiltins "bool" = some (.type "bool") := by decide +kernel
theorem bt_tuple : bootBuiltins "tuple" = some (.type "tuple") := by decide +kernel
theorem bt_list : bootBuiltins "list" = some (.type "list") := by decide +kernel
/-! ### a cell of which a property is known -/
section op
variable {X : Cx} {Ed : DXK} {W : XK} {e : Expr} {te : DTE} {pos : Pos} {t : DTS} {sts : List Stmt}
def openS (i : Nat) (ρ : Sl) (θ : Th) (k : Th → Prop) : Prop := match getS ρ i with
  | some (.ref a) => ∃ P, θ a = some (.lstP P) ∧ ∀ ds, P ds → k (ups θ a (.lst ds))
  | _ => False
def dOpen (i : Nat) (t : DTS) : DTS := fun D ρ θ => openS i ρ θ fun θ' => t D ρ θ'
theorem b_open (i : Nat) (h : DSs X Ed W sts t) : DSs X Ed W sts (dOpen i t) := b_ghost h fun D ρ θ F σ H n q => by
  unfold dOpen openS at q
  split at q
  · rename_i a e
    obtain ⟨P, e2, q⟩ := q
    obtain ⟨f, ds, vs, p, e3, r3⟩ := n.rel.cl a _ e2
    exact ⟨F, ρ, _, Ext.refl F, ⟨n.rel.view e2 (c' := .lst ds) ⟨vs, e3, r3⟩, n.sl, n.cx⟩, q ds p⟩
  · cases q
def dClose (i : Nat) (P : List D → Prop) (te : DTE) : DTE := fun ρ θ Q => te ρ θ fun d θ1 => match getS ρ i with
  | some (.ref a) => ∃ ds, θ1 a = some (.lst ds) ∧ P ds ∧ Q d (ups θ1 a (.lstP P))
  | _ => False
theorem d_close (i : Nat) (P : List D → Prop) (h : DE X Ed W e te) : DE X Ed W e (dClose i P te) := h.imp fun σ H Q ⟨F, ρ, θ, Qd, n, h, k⟩ => ⟨F, ρ, θ, _, n, h, fun v H1 F1 θ1 d s1 r1 rv q => by
  split at q
  · rename_i a e
    obtain ⟨ds, e2, p, q⟩ := q
    obtain ⟨f, vs, e3, r3⟩ := r1.cl a _ e2
    exact k _ _ F1 _ d s1 (r1.view e2 (c' := .lstP P) ⟨ds, vs, p, e3, r3⟩) rv q
  · cases q⟩
/-- a new cell of which a property is kept -/
def dAsP (P : List D → Prop) (te : DTE) : DTE := fun ρ θ Q => te ρ θ fun d θ1 => match d with
  | .ref a => ∃ ds, θ1 a = some (.lst ds) ∧ P ds ∧ Q (.ref a) (ups θ1 a (.lstP P))
  | _ => False
theorem d_asP (P : List D → Prop) (h : DE X Ed W e te) : DE X Ed W e (dAsP P te) := h.imp fun σ H Q ⟨F, ρ, θ, Qd, n, h, k⟩ => ⟨F, ρ, θ, _, n, h, fun v H1 F1 θ1 d s1 r1 rv q => by
  split at q
  · rename_i a
    obtain ⟨ds, e2, p, q⟩ := q
    obtain ⟨f, vs, e3, r3⟩ := r1.cl a _ e2
    exact k _ _ F1 _ (.ref a) s1 (r1.view e2 (c' := .lstP P) ⟨ds, vs, p, e3, r3⟩) rv q
  · cases q⟩
theorem asL_ref {θ : Th} {a : Addr} {ds : List D} (h : θ a = some (.lst ds)) : asL θ (.ref a) = some ds := by simp only [asL, h]
theorem asH_ref {θ : Th} {a : Addr} {ds : List D} (h : θ a = some (.lst ds)) : asH θ (.ref a) = some ds := by simp only [asH, h]
theorem asQ_ref {θ : Th} {a : Addr} {ds : List D} (h : θ a = some (.lst ds)) : asQ θ (.ref a) = some ds := asL_ref h
/-- cells are forgotten -/
def Sub (θ θ' : Th) : Prop := ∀ a c, θ a = some c → θ' a = some c
theorem Sub.refl (θ : Th) : Sub θ θ := fun _ _ h => h
theorem Sub.trans {θ θ1 θ2 : Th} (a : Sub θ θ1) (b : Sub θ1 θ2) : Sub θ θ2 := fun x c h => b x c (a x c h)
theorem Sub.ups {θ θ' : Th} {a : Addr} {c : Cell} (s : Sub θ θ') (h : θ a = none) : Sub θ (ups θ' a c) := fun b e q => by
  rw [ups_ne (th_ne q h)]; exact s b e q
theorem Sub.free {θ θ' : Th} {a : Addr} (s : Sub θ θ') (h : θ' a = none) : θ a = none := by
  cases e : θ a with
  | none => rfl
  | some c => rw [s a c e] at h; cases h
def dFgt (te : DTE) : DTE := fun ρ θ Q => te ρ θ fun d θ1 => ∃ θ2, Sub θ2 θ1 ∧ Q d θ2
theorem d_fgt (h : DE X Ed W e te) : DE X Ed W e (dFgt te) := h.imp fun σ H Q ⟨F, ρ, θ, Qd, n, h, k⟩ => ⟨F, ρ, θ, _, n, h, fun v H1 F1 θ1 d s1 r1 rv ⟨θ2, sb, q⟩ =>
  k _ _ F1 θ2 d s1 ⟨r1.ex, r1.gr, fun a o z => ⟨(r1.dj a o z).1, sb.free (r1.dj a o z).2⟩, fun a c z => r1.cl a c (sb a c z)⟩ rv q⟩
/-! ### joining ways -/
def dCut (t : DTS) : DTS := fun D ρ θ => ∃ P : Sl → Th → Prop, t { D with nx := P } ρ θ ∧ ∀ ρ' θ', P ρ' θ' → D.nx ρ' θ'
theorem s_cut {st : Stmt} (h : DS X Ed W st t) : DS X Ed W st (dCut t) := h.imp fun E σ H ⟨F, ρ, θ, D, n, ⟨P, q, kp⟩, k⟩ =>
  ⟨F, ρ, θ, _, n, q, ⟨fun σ' H' F' ρ' θ' s' n' q' => k.nx _ _ F' _ _ s' n' (kp _ _ q'), k.rt, k.bk, k.ct⟩⟩
theorem d_test {tt : DTT} {A B : DTS} {D : DEnds} {ρ : Sl} {θ : Th} {b : Bool} (h : ∀ Q : Bool → Th → Prop, Q b θ → tt ρ θ Q) (k : if b = true then A D ρ θ else B D ρ θ) : dIf tt A B D ρ θ := h _ k
theorem an_and {tt u : DTT} {ρ : Sl} {θ : Th} {b1 b2 : Bool} (h : ∀ Q : Bool → Th → Prop, Q b1 θ → tt ρ θ Q) (h2 : b1 = true → ∀ Q : Bool → Th → Prop, Q b2 θ → u ρ θ Q) : ∀ Q : Bool → Th → Prop, Q (b1 && b2) θ → dAndT tt u ρ θ Q := fun Q q => h _ (by
  cases b1 with
  | true => rw [if_pos rfl]; exact h2 rfl Q q
  | false => rw [if_neg Bool.false_ne_true]; exact q)
theorem an_or {tt u : DTT} {ρ : Sl} {θ : Th} {b1 b2 : Bool} (h : ∀ Q : Bool → Th → Prop, Q b1 θ → tt ρ θ Q) (h2 : b1 = false → ∀ Q : Bool → Th → Prop, Q b2 θ → u ρ θ Q) : ∀ Q : Bool → Th → Prop, Q (b1 || b2) θ → dOrT tt u ρ θ Q := fun Q q => h _ (by
  cases b1 with
  | true => rw [if_pos rfl]; exact q
  | false => rw [if_neg Bool.false_ne_true]; exact h2 rfl Q q)
theorem an_not {tt : DTT} {ρ : Sl} {θ : Th} {b : Bool} (h : ∀ Q : Bool → Th → Prop, Q b θ → tt ρ θ Q) : ∀ Q : Bool → Th → Prop, Q (!b) θ → dNotT tt ρ θ Q := fun Q q => h _ q
theorem ev_and {ta tb : DTE} {ρ : Sl} {θ : Th} {b : Bool} {d : Bool → D} (h : ∀ Q : DQ, Q (.bl b) θ → ta ρ θ Q) (h2 : b = true → ∀ Q : DQ, Q (d b) θ → tb ρ θ Q) (h3 : b = false → d b = .bl false) : ∀ Q : DQ, Q (d b) θ → dAndV ta tb ρ θ Q := fun Q q => h _ (by
  cases b with
  | true => show if true = true then _ else _; rw [if_pos rfl]; exact h2 rfl Q q
  | false => show if false = true then _ else _; rw [if_neg Bool.false_ne_true]; rw [h3 rfl] at q; exact q)
/-! ### a module's constants -/
theorem d_gstr {x z : Str} (h : ∃ t, X.mg x = some (.str z t)) (hg : Gl X x := by rfl) (hd : (x == ("__debug__" : Str)) = false := by decide) : DE X Ed W (.Name x pos) (dC (.str z)) := by
  obtain ⟨t, h⟩ := h
  exact d_glob (v := .str z) h ⟨t, rfl⟩ (fun _ => rfl) hg hd
theorem d_gint {x : Str} {i : Int} (h : ∃ t, X.mg x = some (.int i t)) (hg : Gl X x := by rfl) (hd : (x == ("__debug__" : Str)) = false := by decide) : DE X Ed W (.Name x pos) (dC (.int i)) := by
  obtain ⟨t, h⟩ := h
  exact d_glob (v := .int i) h ⟨t, rfl⟩ (fun _ => rfl) hg hd
theorem d_gty {x : Str} {T : String} (hm : X.mg x = none) (hv : bootBuiltins x = some (.type T)) (hg : Gl X x := by rfl) (hn : x ≠ "__name__" := by decide) (hd : (x == ("__debug__" : Str)) = false := by decide) : DE X Ed W (.Name x pos) (dC (.ty T)) :=
  d_bltn (v := .ty T) hm hv rfl (fun _ => rfl) hg hn hd
end op
theorem snoc_int {θ : Th} {a : Addr} {cs : List Int} {n : Int} : ups θ a (.lst (cs.map D.int ++ [D.int n])) = ups θ a (.lst ((cs ++ [n]).map D.int)) := by rw [List.map_append]; rfl
/-- the store of a law: a list that is a cell, of such a shape -/
def StoreOk (ds : List D) : Prop := ∃ (cells : List Int) (i a b c t : Int), ds = [.lst (cells.map D.int), .int i, .int a, .int b, .int c, .int t] ∧ 0 ≤ i
abbrev Sto (θ : Th) (a : Addr) : Prop := θ a = some (.lstP StoreOk)
end DL

set_option linter.all false
set_option maxRecDepth 100000
set_option maxHeartbeats 2000000
namespace DL
open PySem PySem.Spec PyProof.Rows L2

/-! ### sizes of texts -/
def Tx (n : Nat) (d : D) : Prop := ∃ z : Str, d = .str z ∧ z.length ≤ n
theorem Tx.mono {n m : Nat} {d : D} (h : Tx n d) (l : n ≤ m) : Tx m d := by
  obtain ⟨z, e, q⟩ := h
  exact ⟨z, e, Nat.le_trans q l⟩
theorem sz (n : Nat) (h : n ≤ 10000000 := by omega) : n ≤ sizeLine := Nat.le_trans h (by decide)
theorem sz1 (n : Nat) (h : n ≤ 10000000 := by omega) : n < sizeLine := Nat.lt_of_le_of_lt h (by decide)
theorem slen_app (a b : Str) : (a ++ b).length = a.length + b.length := Str.length_append a b
theorem join_len (z : Str) (zs : List Str) : (Txt.join z zs).length ≤ (zs.map (·.length)).sum + zs.length * z.length := by
  rw [TL.join_eq]; exact StrLaws.join_length_le z zs
theorem fold_size (x : Array Nat) : ∀ (n : Nat) (acc : Array Nat), ((List.replicate n x).foldl (· ++ ·) acc).size = acc.size + x.size * n
  | 0, acc => by simp
  | n + 1, acc => by rw [List.replicate_succ, List.foldl_cons, fold_size x n, Array.size_append, Nat.mul_succ]; omega
theorem repS_len (z : Str) (n : Nat) : (repS z n).length = z.length * n := by
  show ((List.replicate n z.cps).foldl (· ++ ·) #[]).size = z.cps.size * n
  rw [fold_size]
  show 0 + z.cps.size * n = z.cps.size * n
  omega
theorem one_len (c : Nat) : (⟨#[c]⟩ : Str).length = 1 := rfl
theorem txts_of {n : Nat} : ∀ {ds : List D}, (∀ d ∈ ds, Tx n d) → ∃ zs, txts ds = some zs ∧ zs.length = ds.length ∧ (zs.map (·.length)).sum ≤ ds.length * n
  | [], _ => ⟨[], rfl, rfl, by simp⟩
  | d :: r, h => by
    obtain ⟨z, rfl, hz⟩ := h d (by simp)
    obtain ⟨zs, e, l, s⟩ := txts_of (ds := r) fun d hd => h d (by simp [hd])
    refine ⟨z :: zs, by rw [txts, e]; rfl, by rw [List.length_cons, List.length_cons, l], ?_⟩
    rw [List.map_cons, List.sum_cons, List.length_cons, Nat.succ_mul]
    omega
theorem cut_len (z : Str) (lo hi : Option Int) : (cutS z lo hi).length ≤ z.length := cutS_length z lo hi
theorem cut_both (z : Str) (i : Int) (h : 0 ≤ i := by omega) : (cutS z none (some i)).length + (cutS z (some i) none).length ≤ z.length := by
  have e : HT.sIx z.length 0 (some i) = min i.toNat z.length := by
    show (if i < 0 then _ else _) = _
    rw [if_neg (by omega)]
  have e2 : HT.sIx z.length z.length (some i) = min i.toNat z.length := by
    show (if i < 0 then _ else _) = _
    rw [if_neg (by omega)]
  have hz := TL.len_tl z
  unfold cutS
  rw [e, e2, HT.sIx_none, HT.sIx_none]
  show (List.toArray _).size + (List.toArray _).size ≤ _
  rw [List.size_toArray, List.size_toArray, List.length_take, List.length_take, List.length_drop, List.length_drop]
  show min _ ((TL.tl z).length - 0) + min _ ((TL.tl z).length - _) ≤ _
  omega
theorem str_len {i : Int} {k : Nat} (h0 : 0 ≤ i) (hk : 0 < k) (h : i < 10 ^ k) : (Str.ofString (toString i)).length ≤ k := toString_length_le h0 hk h
theorem log_lt {i : Int} {k : Nat} (h : i.natAbs < 2 ^ k) (hk : 0 < k) : i.natAbs.log2 < k := PySem.Flt.log2_lt_of hk h
theorem lg {i : Int} (h : i.natAbs < 1267650600228229401496703205376) : i.natAbs.log2 < 1920 := Nat.lt_trans (log_lt (k := 100) (Nat.lt_of_lt_of_le h (by decide)) (by decide)) (by decide)
theorem pow900 {n : Nat} (h : n < 2 ^ 100) : n < 2 ^ 900 := Nat.lt_trans h (Nat.pow_lt_pow_right (by decide) (by decide))
/-! ### items of any kind -/
def itemsD (θ : Th) (d : D) : Option (List D) := match d with
  | .str z => if z.length ≤ sizeLine then some (z.cps.toList.map fun c => .str ⟨#[c]⟩) else none
  | d => asQ θ d
theorem items_str {θ : Th} {z : Str} (h : z.length ≤ sizeLine) : itemsD θ (.str z) = some (z.cps.toList.map fun c => .str ⟨#[c]⟩) := by simp only [itemsD, if_pos h]
theorem atI_nat' {ds : List D} {i : Int} {d : D} (h0 : 0 ≤ i) (h : ds[i.toNat]? = some d) : atI ds i = some d := by
  have hl := (List.getElem?_eq_some_iff.mp h).1
  unfold atI ixN
  rw [if_pos h0, if_pos (by omega)]
  exact h
theorem ix_items {θ : Th} {x : D} {xs : List D} {i : Int} {Q : DQ} (h : itemsD θ x = some xs) (h0 : 0 ≤ i) (hl : i < xs.length) (q : ∀ d ∈ xs, Q d θ) : dIx x (.int i) θ Q := by
  have hn : i.toNat < xs.length := by omega
  have hd := List.getElem?_eq_getElem hn
  have hm := q _ (List.getElem_mem hn)
  unfold dIx
  cases x <;> simp only [itemsD] at h
  case str z =>
    split at h
    · rename_i hz
      cases h
      rw [List.length_map] at hn
      have e : z.cps.toList[i.toNat]? = some z.cps.toList[i.toNat] := List.getElem?_eq_getElem hn
      refine ⟨hz, z.cps.toList[i.toNat], ?_, ?_⟩
      · unfold atI ixN
        rw [if_pos h0, if_pos (by omega)]
        exact e
      · rw [List.getElem_map] at hm; exact hm
    · cases h
  all_goals exact ⟨xs, _, h, atI_nat' h0 hd, hm⟩
theorem len_items {θ : Th} {x : D} {xs : List D} {Q : DQ} (h : itemsD θ x = some xs) (q : Q (.int xs.length) θ) : dLen [x] θ Q := by
  unfold dLen
  cases x <;> simp only [itemsD] at h
  case str z =>
    split at h
    · rename_i hz
      cases h
      rw [List.length_map] at q
      exact ⟨hz, q⟩
    · cases h
  all_goals exact ⟨xs, h, q⟩
/-- a Bool that tells texts of at most n signs -/
def isTx (n : Nat) : D → Bool
  | .str z => decide (z.length ≤ n)
  | _ => false
theorem tx_of {n : Nat} {d : D} (h : isTx n d = true) : Tx n d := by
  cases d <;> simp only [isTx, Bool.false_eq_true] at h
  exact ⟨_, rfl, of_decide_eq_true h⟩
theorem all_tx {n : Nat} {ds : List D} (h : ds.all (isTx n) = true) : ∀ d ∈ ds, Tx n d := fun d hd => tx_of (List.all_eq_true.mp h d hd)
theorem str_tx {z : Str} : ∀ d ∈ z.cps.toList.map (fun c => D.str ⟨#[c]⟩), Tx 1 d := fun d hd => by
  obtain ⟨c, _, rfl⟩ := List.mem_map.mp hd
  exact ⟨_, rfl, Nat.le_refl _⟩
theorem rngD_len (lo : Int) (n : Nat) : (rngD lo n).length = n := by unfold rngD; rw [List.length_map, List.length_range]
theorem rngD_at {lo : Int} {n i : Nat} {d : D} (h : (rngD lo n)[i]? = some d) : i < n ∧ d = .int (lo + (i : Int)) := by
  have hl := (List.getElem?_eq_some_iff.mp h).1
  rw [rngD_len] at hl
  refine ⟨hl, ?_⟩
  unfold rngD at h
  rw [List.getElem?_map, List.getElem?_range hl] at h
  exact (Option.some.inj h).symm
/-- a comprehension whose items have a property, the cells as they were -/
theorem lc_draw {cc : Bool} {g : DTG} {te : DTE} {vs : List Nat} {ρ : Sl} {θ : Th} {Q : DQ} {xs : List D} (R : D → Prop) (hl : xs.length ≤ sizeLine)
    (hs : ∀ (i : Nat) x, xs[i]? = some x → ∀ k : DQ, (∀ d, R d → k d θ) → g x (wipD ρ vs) θ fun ρ3 θ3 => te ρ3 θ3 k)
    (q : ∀ acc : List D, acc.length = xs.length → (∀ d ∈ acc, R d) → newL cc acc θ Q) :
    xs.length ≤ sizeLine ∧ ∃ Pv : Nat → List D → Th → Prop, Pv 0 [] θ ∧
      (∀ i x acc θ2, xs[i]? = some x → Pv i acc θ2 → g x (wipD ρ vs) θ2 fun ρ3 θ3 => dYes ρ3 θ3 fun b θ4 => if b = true then te ρ3 θ4 fun d θ5 => Pv (i + 1) (acc ++ [d]) θ5 else Pv (i + 1) acc θ4) ∧
      ∀ acc θ2, Pv xs.length acc θ2 → newL cc acc θ2 Q := by
  refine ⟨hl, fun i acc θ2 => θ2 = θ ∧ acc.length = i ∧ ∀ d ∈ acc, R d, ⟨rfl, rfl, fun d hd => nomatch hd⟩, ?_, ?_⟩
  · rintro i x acc θ2 hx ⟨rfl, hi, ha⟩
    refine hs i x hx _ fun d hd => ⟨rfl, by rw [List.length_append, hi]; rfl, fun e he => ?_⟩
    rcases List.mem_append.mp he with he | he
    · exact ha e he
    · rw [List.mem_singleton.mp he]; exact hd
  · rintro acc θ2 ⟨rfl, hi, ha⟩
    exact q acc hi ha
/-- a comprehension of which each item is told -/
theorem lc_map {cc : Bool} {g : DTG} {te : DTE} {vs : List Nat} {ρ : Sl} {θ : Th} {Q : DQ} {xs : List D} (f : D → D) (hl : xs.length ≤ sizeLine)
    (hs : ∀ (i : Nat) x, xs[i]? = some x → ∀ k : DQ, k (f x) θ → g x (wipD ρ vs) θ fun ρ3 θ3 => te ρ3 θ3 k) (q : newL cc (xs.map f) θ Q) :
    xs.length ≤ sizeLine ∧ ∃ Pv : Nat → List D → Th → Prop, Pv 0 [] θ ∧
      (∀ i x acc θ2, xs[i]? = some x → Pv i acc θ2 → g x (wipD ρ vs) θ2 fun ρ3 θ3 => dYes ρ3 θ3 fun b θ4 => if b = true then te ρ3 θ4 fun d θ5 => Pv (i + 1) (acc ++ [d]) θ5 else Pv (i + 1) acc θ4) ∧
      ∀ acc θ2, Pv xs.length acc θ2 → newL cc acc θ2 Q := by
  refine ⟨hl, fun i acc θ2 => θ2 = θ ∧ acc = (xs.take i).map f, ⟨rfl, rfl⟩, ?_, ?_⟩
  · rintro i x acc θ2 hx ⟨rfl, rfl⟩
    refine hs i x hx _ ⟨rfl, ?_⟩
    rw [List.take_add_one, hx, List.map_append]; rfl
  · rintro acc θ2 ⟨rfl, rfl⟩
    rw [List.take_length]; exact q
/-- .. with a test -/
theorem lc_filter {cc : Bool} {g : DTG} {tt : DTT} {te : DTE} {vs : List Nat} {ρ : Sl} {θ : Th} {Q : DQ} {xs : List D} (p : D → Bool) (f : D → D) (hl : xs.length ≤ sizeLine)
    (hs : ∀ (i : Nat) x, xs[i]? = some x → ∀ (k : DQ) (k0 : Th → Prop), (p x = true → k (f x) θ) → (p x = false → k0 θ) → g x (wipD ρ vs) θ fun ρ3 θ3 => tt ρ3 θ3 fun b θ4 => if b = true then te ρ3 θ4 k else k0 θ4) (q : newL cc ((xs.filter p).map f) θ Q) :
    xs.length ≤ sizeLine ∧ ∃ Pv : Nat → List D → Th → Prop, Pv 0 [] θ ∧
      (∀ i x acc θ2, xs[i]? = some x → Pv i acc θ2 → g x (wipD ρ vs) θ2 fun ρ3 θ3 => tt ρ3 θ3 fun b θ4 => if b = true then te ρ3 θ4 fun d θ5 => Pv (i + 1) (acc ++ [d]) θ5 else Pv (i + 1) acc θ4) ∧
      ∀ acc θ2, Pv xs.length acc θ2 → newL cc acc θ2 Q := by
  refine ⟨hl, fun i acc θ2 => θ2 = θ ∧ acc = ((xs.take i).filter p).map f, ⟨rfl, rfl⟩, ?_, ?_⟩
  · rintro i x acc θ2 hx ⟨rfl, rfl⟩
    refine hs i x hx _ _ (fun e => ⟨rfl, ?_⟩) fun e => ⟨rfl, ?_⟩
    · rw [List.take_add_one, hx, List.filter_append, List.map_append]; simp [e]
    · rw [List.take_add_one, hx, List.filter_append, List.map_append]; simp [e]
  · rintro acc θ2 ⟨rfl, rfl⟩
    rw [List.take_length]; exact q
theorem chr_inj {c d : Nat} : ((⟨#[c]⟩ : Str) = ⟨#[d]⟩) ↔ c = d := by
  constructor
  · intro h
    have := congrArg (fun s : Str => s.cps.toList) h
    simpa using this
  · intro h; rw [h]
end DL

set_option linter.all false
set_option maxRecDepth 100000
set_option maxHeartbeats 2000000
namespace DL
open PySem PySem.Spec PyProof.Rows L2
theorem fn_never {P : Program} {w : World} {K : PySem.W.Frag} {mg : Str → Option Value} {base : Heap} {k : Nat} {f : Addr} {fd : FuncData} {ps : List Str} : FnD P w K mg base k f fd ps (fun _ _ _ _ => False) :=
  ⟨fun vs H Q E ⟨_, _, _, _, _, _, _, h, _⟩ => h.elim, fun A outer s H args us vs Q E hr he hb hv ⟨_, _, _, _, _, _, _, h, _⟩ => h.elim⟩
theorem law_sp {K : PySem.W.Frag} {H : Hp} {a : Addr} {ns : List Int} {sp : DSp} (hS : SqL K H a (ns.map V.int)) (h : sp [.rol (ns.map D.int)] (fun _ => none) (fun d _ => d = .bl true) Ex0) : upSp K sp [.ref a] H (fun v _ => v = .bl true) (fun _ _ _ => False) :=
  by
  have r0 : Rel K ⟨H, fun _ => none⟩ H (fun _ => none) := ⟨Same.refl H, (by intro _ _ z; cases z), (by intro _ _ z; cases z), (by intro _ _ z; cases z)⟩
  have r1 : Rep K ⟨H, fun _ => none⟩ (D.rol (ns.map D.int)) (.ref a) := by
    show ∃ b vs, _
    exact ⟨a, _, rfl, hS, RepL.map (fun _ => by show V.int _ = V.int _; rfl) ns⟩
  refine ⟨⟨H, fun _ => none⟩, fun _ => none, _, _, Ex0, r0, .one r1, h, ?_, ?_⟩
  · intro v H' F' θ' d _ _ rv e
    rw [e] at rv; exact rv
  · intro _ _ _ _ _ _ _ _ _ _ z
    exact z.elim
theorem cx_none {P : Program} {w : World} {H : Hp} {s s' : Shared} {e : Value} (h : L2.CX P w [] H s (fun _ _ _ => False) e s') : False := by
  obtain ⟨_, _, _, _, _, _, _, _, _, _, _, _, z⟩ := h
  exact z
end DL

set_option linter.all false
set_option maxRecDepth 100000
set_option maxHeartbeats 2000000
namespace DL
open PySem PySem.Spec PyProof.Rows L2
/-! ### lists and tuples alike, at any depth -/
mutual
def pdD : D → Option PyData
  | .non => some .none
  | .bl b => some (.bool b)
  | .int i => some (.int i)
  | .str z => some (.str z)
  | .tup ds => (pdL ds).map .tuple
  | .lst ds => (pdL ds).map .list
  | .rol ds => (pdL ds).map .list
  | _ => none
def pdL : List D → Option (List PyData)
  | [] => some []
  | d :: r => match pdD d, pdL r with
    | some p, some ps => some (p :: ps)
    | _, _ => none
end
mutual
theorem pd_ok {K : PySem.W.Frag} {F : Fz} {H : Hp} (s : Same F.fz H) : ∀ {d : D} {v : V} {p : PyData}, Rep K F d v → pdD d = some p → Dp K H v p
  | .non, _, _, r, e => by cases r; cases e; exact .non
  | .bl _, _, _, r, e => by cases r; cases e; exact .bl _
  | .int _, _, _, r, e => by cases r; cases e; exact .int _
  | .str _, _, _, r, e => by cases r; cases e; exact .str _
  | .tup ds, _, _, r, e => by
    obtain ⟨a, vs, rfl, h1, h2⟩ := r
    simp only [pdD, Option.map_eq_some_iff] at e
    obtain ⟨ps, e1, rfl⟩ := e
    exact .tup (same_t s h1) (pdl_ok s h2 e1)
  | .lst ds, _, _, r, e => by
    obtain ⟨a, vs, rfl, h1, h2⟩ := r
    simp only [pdD, Option.map_eq_some_iff] at e
    obtain ⟨ps, e1, rfl⟩ := e
    exact .lst (SqL.of (s _ _ h1)) (pdl_ok s h2 e1)
  | .rol ds, _, _, r, e => by
    obtain ⟨a, vs, rfl, h1, h2⟩ := r
    simp only [pdD, Option.map_eq_some_iff] at e
    obtain ⟨ps, e1, rfl⟩ := e
    exact .lst (s.seq h1) (pdl_ok s h2 e1)
  | .ty _, _, _, _, e => by cases e
  | .ref _, _, _, _, e => by cases e
  | .obj _ _ _, _, _, _, e => by cases e
  | .dct _ _, _, _, _, e => by cases e
theorem pdl_ok {K : PySem.W.Frag} {F : Fz} {H : Hp} (s : Same F.fz H) : ∀ {ds : List D} {vs : List V} {ps : List PyData}, RepL K F ds vs → pdL ds = some ps → DpAll K H vs ps
  | [], _, _, r, e => by cases (show _ = [] from r); cases e; exact .nil
  | d :: ds, _, _, r, e => by
    obtain ⟨w, ws, rfl, r1, r2⟩ := r
    simp only [pdL] at e
    split at e
    · rename_i e1 e2
      cases e
      exact .cons (pd_ok s r1 e1) (pdl_ok s r2 e2)
    · cases e
end
def pdθ (θ : Th) (d : D) : Option PyData := match d with
  | .ref a => match θ a with
    | some (.lst ds) => (pdL ds).map .list
    | _ => none
  | d => pdD d
theorem pdθ_ok {K : PySem.W.Frag} {F : Fz} {H : Hp} {θ : Th} {d : D} {v : V} {p : PyData} (r : Rel K F H θ) (rv : Rep K F d v) (e : pdθ θ d = some p) : Dp K H v p := by
  unfold pdθ at e
  split at e
  · rename_i a
    split at e
    · rename_i ds h
      cases (show v = .ref a from rv)
      obtain ⟨f, vs, e3, r3⟩ := r.cl a _ h
      simp only [Option.map_eq_some_iff] at e
      obtain ⟨ps, e1, rfl⟩ := e
      exact .lst (SqL.of e3) (pdl_ok r.ex r3 e1)
    · cases e
  · exact pd_ok r.ex rv e
def dEqD : D2 := fun x y θ Q => ∃ p q, pdθ θ x = some p ∧ pdθ θ y = some q ∧ SeqAt.shaped p = true ∧ SeqAt.shaped q = true ∧ Q (.bl (PyData.eqv p q)) θ
def dNeD : D2 := fun x y θ Q => ∃ p q, pdθ θ x = some p ∧ pdθ θ y = some q ∧ SeqAt.shaped p = true ∧ SeqAt.shaped q = true ∧ Q (.bl (!PyData.eqv p q)) θ
theorem o_eqD {X : Cx} (hu : X.A.units + 64 < cLine) : OpR X (compareOp .Eq) (up2 X.K dEqD) := by
  intro pins s σ H x y v u Qc I rx ry ⟨F, θ, dx, dy, Q, r, r1, r2, ⟨p, p', e1, e2, s1, s2, q⟩, k⟩
  exact op_eqD hu pins s σ H _ _ v u Qc I rx ry ⟨p, p', pdθ_ok r r1 e1, pdθ_ok r r2 e2, s1, s2, k _ _ F _ (.bl _) (Ext.refl F) r rfl q⟩
theorem o_neD {X : Cx} (hu : X.A.units + 64 < cLine) : OpR X (compareOp .NotEq) (up2 X.K dNeD) := by
  intro pins s σ H x y v u Qc I rx ry ⟨F, θ, dx, dy, Q, r, r1, r2, ⟨p, p', e1, e2, s1, s2, q⟩, k⟩
  exact op_neD hu pins s σ H _ _ v u Qc I rx ry ⟨p, p', pdθ_ok r r1 e1, pdθ_ok r r2 e2, s1, s2, k _ _ F _ (.bl _) (Ext.refl F) r rfl q⟩
theorem eqv_nil (ps : List PyData) : PyData.eqv (.list ps) (.list []) = ps.isEmpty := by cases ps <;> rfl
/-! ### texts of true signs -/
def Cp (z : Str) : Prop := PyData.strOk z = true
instance (z : Str) : Decidable (Cp z) := inferInstanceAs (Decidable (PyData.strOk z = true))
theorem cp_iff {z : Str} : Cp z ↔ ∀ c ∈ TL.tl z, c < 1114112 := by
  unfold Cp PyData.strOk
  rw [← Array.all_toList, List.all_eq_true]
  exact ⟨fun h c hc => of_decide_eq_true (h c hc), fun h c hc => decide_eq_true (h c hc)⟩
theorem cp_S {l : List Nat} : Cp (SX.S l) ↔ ∀ c ∈ l, c < 1114112 := by
  rw [cp_iff, show TL.tl (SX.S l) = l from TL.tl_mk l]
theorem cp_app {a b : Str} (h : Cp a) (h' : Cp b) : Cp (a ++ b) := cp_iff.mpr fun c hc => by
  rw [TL.tl_append] at hc
  rcases List.mem_append.mp hc with hc | hc
  · exact cp_iff.mp h c hc
  · exact cp_iff.mp h' c hc
theorem cp_cut {z : Str} (h : Cp z) (lo hi : Option Int) : Cp (cutS z lo hi) := cp_iff.mpr fun c hc => by
  unfold cutS at hc
  have hc := List.mem_of_mem_drop (List.mem_of_mem_take (show c ∈ List.take _ (List.drop _ (TL.tl z)) from hc))
  exact cp_iff.mp h c hc
theorem mem_joinL {c : Nat} {s : List Nat} : ∀ {ps : List (List Nat)}, c ∈ TL.joinL s ps → c ∈ s ∨ ∃ p ∈ ps, c ∈ p
  | [], h => by cases h
  | [p], h => .inr ⟨p, by simp, h⟩
  | p :: r :: t, h => by
    have h : c ∈ p ++ (s ++ TL.joinL s (r :: t)) := h
    rcases List.mem_append.mp h with h | h
    · exact .inr ⟨p, by simp, h⟩
    · rcases List.mem_append.mp h with h | h
      · exact .inl h
      · rcases mem_joinL h with h | ⟨q, hq, hc⟩
        · exact .inl h
        · exact .inr ⟨q, by simp at hq ⊢; exact .inr hq, hc⟩
theorem cp_join {z : Str} {zs : List Str} (h : Cp z) (hs : ∀ x ∈ zs, Cp x) : Cp (Txt.join z zs) := cp_iff.mpr fun c hc => by
  rw [TL.join_eq, TL.tl_join] at hc
  rcases mem_joinL hc with hc | ⟨p, hp, hc⟩
  · exact cp_iff.mp h c hc
  · obtain ⟨x, hx, rfl⟩ := List.mem_map.mp hp
    exact cp_iff.mp (hs x hx) c hc
theorem fold_appL (x : Array Nat) : ∀ (n : Nat) (acc : Array Nat), ((List.replicate n x).foldl (· ++ ·) acc).toList = acc.toList ++ (List.replicate n x.toList).flatten
  | 0, acc => by simp
  | n + 1, acc => by
    rw [List.replicate_succ, List.foldl_cons, fold_appL x n, Array.toList_append, List.replicate_succ, List.flatten_cons, List.append_assoc]
theorem cp_rep {z : Str} (h : Cp z) (n : Nat) : Cp (repS z n) := cp_iff.mpr fun c hc => by
  have hc : c ∈ ((List.replicate n z.cps).foldl (· ++ ·) #[]).toList := hc
  rw [fold_appL] at hc
  simp only [List.nil_append] at hc
  obtain ⟨l, hl, hc⟩ := List.mem_flatten.mp hc
  rw [List.eq_of_mem_replicate hl] at hc
  exact cp_iff.mp h c hc
theorem cp_chr {z : Str} (h : Cp z) {c : Nat} (hc : c ∈ z.cps.toList) : Cp ⟨#[c]⟩ := cp_iff.mpr fun d hd => by
  rw [show d = c from List.mem_singleton.mp hd]
  exact cp_iff.mp h c hc
def TxO (n : Nat) (d : D) : Prop := ∃ z : Str, d = .str z ∧ z.length ≤ n ∧ Cp z
theorem TxO.tx {n : Nat} {d : D} (h : TxO n d) : Tx n d := by
  obtain ⟨z, e, q, _⟩ := h
  exact ⟨z, e, q⟩
theorem TxO.mono {n m : Nat} {d : D} (h : TxO n d) (l : n ≤ m) : TxO m d := by
  obtain ⟨z, e, q, r⟩ := h
  exact ⟨z, e, Nat.le_trans q l, r⟩
def isTxO (n : Nat) : D → Bool
  | .str z => decide (z.length ≤ n) && PyData.strOk z
  | _ => false
theorem txo_of {n : Nat} {d : D} (h : isTxO n d = true) : TxO n d := by
  cases d <;> simp only [isTxO, Bool.false_eq_true, Bool.and_eq_true] at h
  exact ⟨_, rfl, of_decide_eq_true h.1, h.2⟩
theorem all_txo {n : Nat} {ds : List D} (h : ds.all (isTxO n) = true) : ∀ d ∈ ds, TxO n d := fun d hd => txo_of (List.all_eq_true.mp h d hd)
theorem str_txo {z : Str} (h : Cp z) : ∀ d ∈ z.cps.toList.map (fun c => D.str ⟨#[c]⟩), TxO 1 d := fun d hd => by
  obtain ⟨c, hc, rfl⟩ := List.mem_map.mp hd
  exact ⟨_, rfl, Nat.le_refl _, cp_chr h hc⟩
theorem txos_of {n : Nat} : ∀ {ds : List D}, (∀ d ∈ ds, TxO n d) → ∃ zs, txts ds = some zs ∧ zs.length = ds.length ∧ (zs.map (·.length)).sum ≤ ds.length * n ∧ ∀ z ∈ zs, Cp z
  | [], _ => ⟨[], rfl, rfl, by simp, by simp⟩
  | d :: r, h => by
    obtain ⟨z, rfl, hz, hc⟩ := h d (by simp)
    obtain ⟨zs, e, l, s, hs⟩ := txos_of (ds := r) fun d hd => h d (by simp [hd])
    refine ⟨z :: zs, by rw [txts, e]; rfl, by rw [List.length_cons, List.length_cons, l], ?_, fun x hx => ?_⟩
    · rw [List.map_cons, List.sum_cons, List.length_cons, Nat.succ_mul]
      omega
    · rcases List.mem_cons.mp hx with rfl | hx
      · exact hc
      · exact hs x hx
theorem shaped_strs {zs : List Str} (hz : ∀ z ∈ zs, Cp z) : SeqAt.shaped (.list (zs.map PyData.str)) = true := by
  have h1 : ∀ zs : List Str, PyData.depthAll (zs.map PyData.str) ≤ 2 := by
    intro zs
    induction zs with
    | nil => decide
    | cons z r ih => simp [PyData.depthAll, PyData.depth] at ih ⊢; omega
  have h2 : ∀ zs : List Str, (∀ z ∈ zs, Cp z) → PyData.canLayAll0 (zs.map PyData.str) = true := by
    intro zs
    induction zs with
    | nil => intro _; rfl
    | cons z r ih =>
      intro h
      have h1 := h z (by simp)
      have h2 := ih fun x hx => h x (by simp [hx])
      simp [PyData.canLayAll0, PyData.canLay0] at h2 ⊢
      exact ⟨h1, h2⟩
  unfold SeqAt.shaped
  rw [Bool.and_eq_true, decide_eq_true_eq]
  refine ⟨by rw [PyData.canLay0]; exact h2 zs hz, ?_⟩
  rw [PyData.depth]
  have := h1 zs
  omega
theorem pdL_strs : ∀ zs : List Str, pdL (zs.map D.str) = some (zs.map PyData.str)
  | [] => rfl
  | z :: r => by rw [List.map_cons, pdL, pdL_strs r]; rfl
theorem cut_two (z : Str) (i j : Int) (h : 0 ≤ i := by omega) (hj : i ≤ j := by omega) : (cutS z none (some i)).length + (cutS z (some j) none).length ≤ z.length := by
  have e : HT.sIx z.length 0 (some j) = min j.toNat z.length := by
    show (if j < 0 then _ else _) = _
    rw [if_neg (by omega)]
  have e2 : HT.sIx z.length z.length (some i) = min i.toNat z.length := by
    show (if i < 0 then _ else _) = _
    rw [if_neg (by omega)]
  have hz := TL.len_tl z
  unfold cutS
  rw [e, e2, HT.sIx_none, HT.sIx_none]
  show (List.toArray _).size + (List.toArray _).size ≤ _
  rw [List.size_toArray, List.size_toArray, List.length_take, List.length_take, List.length_drop, List.length_drop]
  show min _ ((TL.tl z).length - 0) + min _ ((TL.tl z).length - _) ≤ _
  omega
end DL

set_option linter.all false
set_option maxRecDepth 100000
set_option maxHeartbeats 2000000
/-! plain laws: what is alike -/
namespace MS
open PySem DL SX
open L2 (kitB)
/-! ### alike -/
mutual
def sameD : D → D → Bool
  | a, .non => isN a
  | .bl c, .bl b => c == b
  | .int j, .int i => j == i
  | .str y, .str z => y == z
  | .tup xs, .tup ys => sameL xs ys
  | .lst xs, .lst ys => sameL xs ys
  | _, _ => false
def sameL : List D → List D → Bool
  | [], [] => true
  | x :: xs, y :: ys => sameD x y && sameL xs ys
  | _, _ => false
end
mutual
/-- data without objects, of depth below n -/
def okD : Nat → D → Bool
  | _, .non => true
  | _, .bl _ => true
  | _, .int _ => true
  | _, .str _ => true
  | n + 1, .tup ds => decide (ds.length ≤ 16777216) && okL n ds
  | n + 1, .lst ds => decide (ds.length ≤ 16777216) && okL n ds
  | _, _ => false
def okL : Nat → List D → Bool
  | _, [] => true
  | n, d :: r => okD n d && okL n r
end
theorem sameL_len : ∀ {xs ys : List D}, sameL xs ys = true → xs.length = ys.length
  | [], [], _ => rfl
  | x :: xs, y :: ys, h => by
    simp only [sameL, Bool.and_eq_true] at h
    rw [List.length_cons, List.length_cons, sameL_len h.2]
  | [], _ :: _, h => by simp [sameL] at h
  | _ :: _, [], h => by simp [sameL] at h
theorem sameL_all : ∀ {xs ys : List D}, xs.length = ys.length → (∀ (i : Nat) x y, xs[i]? = some x → ys[i]? = some y → sameD x y = true) → sameL xs ys = true
  | [], [], _, _ => rfl
  | x :: xs, y :: ys, hl, h => by
    simp only [sameL, Bool.and_eq_true]
    exact ⟨h 0 x y rfl rfl, sameL_all (by simpa using hl) fun i a b e1 e2 => h (i + 1) a b (by simpa using e1) (by simpa using e2)⟩
  | [], _ :: _, hl, _ => by simp at hl
  | _ :: _, [], hl, _ => by simp at hl
theorem sameL_at : ∀ {xs ys : List D} {i : Nat} {x y : D}, sameL xs ys = true → xs[i]? = some x → ys[i]? = some y → sameD x y = true
  | x :: xs, y :: ys, 0, _, _, h, e1, e2 => by
    simp only [sameL, Bool.and_eq_true] at h
    simp at e1 e2; subst e1; subst e2; exact h.1
  | x :: xs, y :: ys, i + 1, _, _, h, e1, e2 => by
    simp only [sameL, Bool.and_eq_true] at h
    exact sameL_at (i := i) h.2 (by simpa using e1) (by simpa using e2)
  | [], _, _, _, _, _, e1, _ => by simp at e1
  | _ :: _, [], _, _, _, _, _, e2 => by simp at e2
theorem okL_at : ∀ {n : Nat} {ds : List D} {i : Nat} {d : D}, okL n ds = true → ds[i]? = some d → okD n d = true
  | _, [], _, _, _, e => by simp at e
  | n, d :: r, 0, _, h, e => by
    simp only [okL, Bool.and_eq_true] at h
    simp at e; subst e; exact h.1
  | n, d :: r, i + 1, _, h, e => by
    simp only [okL, Bool.and_eq_true] at h
    exact okL_at (i := i) h.2 (by simpa using e)
theorem okL_all : ∀ {n : Nat} {ds : List D}, (∀ d ∈ ds, okD n d = true) → okL n ds = true
  | _, [], _ => rfl
  | n, d :: r, h => by
    simp only [okL, Bool.and_eq_true]
    exact ⟨h d (by simp), okL_all fun e he => h e (by simp [he])⟩
mutual
theorem sameD_refl : ∀ (n : Nat) (d : D), okD n d = true → sameD d d = true
  | _, .non, _ => rfl
  | _, .bl b, _ => by simp [sameD]
  | _, .int b, _ => by simp [sameD]
  | _, .str b, _ => by simp [sameD]
  | n + 1, .tup ds, h => by
    simp only [okD, Bool.and_eq_true] at h
    simp only [sameD]; exact sameL_refl n ds h.2
  | n + 1, .lst ds, h => by
    simp only [okD, Bool.and_eq_true] at h
    simp only [sameD]; exact sameL_refl n ds h.2
  | 0, .tup _, h => by simp [okD] at h
  | 0, .lst _, h => by simp [okD] at h
  | _, .ty _, h => by simp [okD] at h
  | _, .ref _, h => by simp [okD] at h
  | _, .rol _, h => by simp [okD] at h
  | _, .obj _ _ _, h => by simp [okD] at h
  | _, .dct _ _, h => by simp [okD] at h
theorem sameL_refl : ∀ (n : Nat) (ds : List D), okL n ds = true → sameL ds ds = true
  | _, [], _ => rfl
  | n, d :: r, h => by
    simp only [okL, Bool.and_eq_true] at h
    simp only [sameL, Bool.and_eq_true]
    exact ⟨sameD_refl n d h.1, sameL_refl n r h.2⟩
end
/-- a cell as the list in it -/
def vw (θ : Th) (d : D) : D := match d with
  | .ref a => match θ a with
    | some (.lst ds) => .lst ds
    | _ => .ref a
  | d => d
theorem vw_ref {θ : Th} {a : Addr} {ds : List D} (h : θ a = some (.lst ds)) : vw θ (.ref a) = .lst ds := by simp only [vw, h]

/-! ### what isinstance tells of data -/
inductive Dat (θ : Th) : D → Prop where
  | non : Dat θ .non
  | bl (b : Bool) : Dat θ (.bl b)
  | int (i : Int) : Dat θ (.int i)
  | str (z : Str) : Dat θ (.str z)
  | tup (ds : List D) : Dat θ (.tup ds)
  | lst (ds : List D) : Dat θ (.lst ds)
  | cell {a : Addr} {ds : List D} (h : θ a = some (.lst ds)) : Dat θ (.ref a)
def isBl : D → Bool | .bl _ => true | _ => false
def isInB : D → Bool | .bl _ => true | .int _ => true | _ => false
def isIn : D → Bool | .int _ => true | _ => false
def isSt : D → Bool | .str _ => true | _ => false
def isTu : D → Bool | .tup _ => true | _ => false
def isLi : D → Bool | .lst _ => true | _ => false
theorem isd_bool {θ : Th} {x : D} (h : Dat θ x) : isDθ "bool" θ x = some (isBl (vw θ x)) := by
  cases h with
  | non => exact (by decide +kernel : kitB "NoneType" "bool" = some false)
  | bl b => exact (by decide +kernel : kitB "bool" "bool" = some true)
  | int i => exact (by decide +kernel : kitB "int" "bool" = some false)
  | str z => exact (by decide +kernel : kitB "str" "bool" = some false)
  | tup ds => exact (by decide +kernel : kitB "tuple" "bool" = some false)
  | lst ds => exact (by decide +kernel : kitB "list" "bool" = some false)
  | cell h => rw [vw_ref h]; simp only [isDθ, h]; exact (by decide +kernel : kitB "list" "bool" = some false)
theorem isd_int {θ : Th} {x : D} (h : Dat θ x) : isDθ "int" θ x = some (isInB (vw θ x)) := by
  cases h with
  | non => exact (by decide +kernel : kitB "NoneType" "int" = some false)
  | bl b => exact (by decide +kernel : kitB "bool" "int" = some true)
  | int i => exact (by decide +kernel : kitB "int" "int" = some true)
  | str z => exact (by decide +kernel : kitB "str" "int" = some false)
  | tup ds => exact (by decide +kernel : kitB "tuple" "int" = some false)
  | lst ds => exact (by decide +kernel : kitB "list" "int" = some false)
  | cell h => rw [vw_ref h]; simp only [isDθ, h]; exact (by decide +kernel : kitB "list" "int" = some false)
theorem isd_str {θ : Th} {x : D} (h : Dat θ x) : isDθ "str" θ x = some (isSt (vw θ x)) := by
  cases h with
  | non => exact (by decide +kernel : kitB "NoneType" "str" = some false)
  | bl b => exact (by decide +kernel : kitB "bool" "str" = some false)
  | int i => exact (by decide +kernel : kitB "int" "str" = some false)
  | str z => exact (by decide +kernel : kitB "str" "str" = some true)
  | tup ds => exact (by decide +kernel : kitB "tuple" "str" = some false)
  | lst ds => exact (by decide +kernel : kitB "list" "str" = some false)
  | cell h => rw [vw_ref h]; simp only [isDθ, h]; exact (by decide +kernel : kitB "list" "str" = some false)
theorem isd_tuple {θ : Th} {x : D} (h : Dat θ x) : isDθ "tuple" θ x = some (isTu (vw θ x)) := by
  cases h with
  | non => exact (by decide +kernel : kitB "NoneType" "tuple" = some false)
  | bl b => exact (by decide +kernel : kitB "bool" "tuple" = some false)
  | int i => exact (by decide +kernel : kitB "int" "tuple" = some false)
  | str z => exact (by decide +kernel : kitB "str" "tuple" = some false)
  | tup ds => exact (by decide +kernel : kitB "tuple" "tuple" = some true)
  | lst ds => exact (by decide +kernel : kitB "list" "tuple" = some false)
  | cell h => rw [vw_ref h]; simp only [isDθ, h]; exact (by decide +kernel : kitB "list" "tuple" = some false)
theorem isd_list {θ : Th} {x : D} (h : Dat θ x) : isDθ "list" θ x = some (isLi (vw θ x)) := by
  cases h with
  | non => exact (by decide +kernel : kitB "NoneType" "list" = some false)
  | bl b => exact (by decide +kernel : kitB "bool" "list" = some false)
  | int i => exact (by decide +kernel : kitB "int" "list" = some false)
  | str z => exact (by decide +kernel : kitB "str" "list" = some false)
  | tup ds => exact (by decide +kernel : kitB "tuple" "list" = some false)
  | lst ds => exact (by decide +kernel : kitB "list" "list" = some true)
  | cell h => rw [vw_ref h]; simp only [isDθ, h]; exact (by decide +kernel : kitB "list" "list" = some true)
/-- == of an int, a text, a bool with what has its type -/
theorem same_scal {x y : D} (h : (isBl x = true ∧ isBl y = true) ∨ (isIn x = true ∧ isIn y = true) ∨ (isSt x = true ∧ isSt y = true)) : scD x y = some (sameD x y) := by
  cases x <;> cases y <;> simp [isBl, isIn, isSt, scD, sameD] at h ⊢ <;> (rw [Bool.eq_iff_iff]; simp)
theorem okD_dat {θ : Th} {n : Nat} {d : D} (h : okD n d = true) : Dat θ d := by
  cases d <;> first
    | exact .non
    | exact .bl _
    | exact .int _
    | exact .str _
    | exact .tup _
    | exact .lst _
    | (cases n <;> simp [okD] at h)
theorem okD_vw {θ : Th} {n : Nat} {d : D} (h : okD n d = true) : vw θ d = d := by
  cases d <;> first | rfl | (cases n <;> simp [okD] at h)
theorem okD_lst {n : Nat} {ds : List D} (h : okD n (.lst ds) = true) : ds.length ≤ 16777216 ∧ ∃ m, n = m + 1 ∧ okL m ds = true := by
  cases n with
  | zero => simp [okD] at h
  | succ n => simp only [okD, Bool.and_eq_true, decide_eq_true_eq] at h; exact ⟨h.1, n, rfl, h.2⟩
theorem okD_tup {n : Nat} {ds : List D} (h : okD n (.tup ds) = true) : ds.length ≤ 16777216 ∧ ∃ m, n = m + 1 ∧ okL m ds = true := by
  cases n with
  | zero => simp [okD] at h
  | succ n => simp only [okD, Bool.and_eq_true, decide_eq_true_eq] at h; exact ⟨h.1, n, rfl, h.2⟩
/-- its list -/
def seqD : D → Option (List D)
  | .tup ds => some ds
  | .lst ds => some ds
  | _ => none
theorem seq_asQ {θ : Th} {x : D} {ds : List D} (h : seqD (vw θ x) = some ds) (hd : Dat θ x) : asQ θ x = some ds := by
  cases hd with
  | cell e => rw [vw_ref e] at h; cases h; exact asQ_ref e
  | tup ds => exact h
  | lst ds => exact h
  | _ => cases h
theorem okD_seq {n : Nat} {d : D} {ds : List D} (h : okD n d = true) (e : seqD d = some ds) : ds.length ≤ 16777216 ∧ ∃ m, n = m + 1 ∧ okL m ds = true := by
  cases d <;> cases e
  · exact okD_tup h
  · exact okD_lst h
theorem same_seq {x y : D} {xs ys : List D} (ex : seqD x = some xs) (ey : seqD y = some ys) (h : isTu x = isTu y) : sameD x y = sameL xs ys := by
  cases x <;> cases ex <;> cases y <;> cases ey <;> first | rfl | (simp [isTu] at h)
end MS

set_option linter.all false
set_option maxRecDepth 100000
set_option maxHeartbeats 2000000
/-! plain laws: words and step names -/
namespace M00
open PySem DL SX MS
/-! ### texts by their signs -/
theorem pre_one (s c : Nat) (r : List Nat) : TL.pre [s] (c :: r) = (c == s) := by
  unfold TL.pre
  simp
theorem spl_same (s : Nat) (acc r : List Nat) : TL.spl [s] 0 acc (s :: r) = acc :: TL.spl [s] 0 [] r := TL.spl_hit (by rw [pre_one]; simp)
theorem spl_other {s c : Nat} (h : c ≠ s) (acc r : List Nat) : TL.spl [s] 0 acc (c :: r) = TL.spl [s] 0 (acc ++ [c]) r := TL.spl_miss (by rw [pre_one]; simpa using h)
theorem spl_pos (s : Nat) : ∀ (r acc : List Nat), TL.spl [s] 0 acc r ≠ []
  | [], acc => by rw [TL.spl_nil]; simp
  | c :: r, acc => by
    by_cases h : c = s
    · subst h; rw [spl_same]; simp
    · rw [spl_other h]; exact spl_pos s r _
theorem spl_size (s : Nat) : ∀ (r acc : List Nat), (TL.spl [s] 0 acc r).length ≤ r.length + 1
  | [], acc => by rw [TL.spl_nil]; simp
  | c :: r, acc => by
    by_cases h : c = s
    · subst h; rw [spl_same, List.length_cons, List.length_cons]; have := spl_size c r []; omega
    · rw [spl_other h, List.length_cons]; have := spl_size s r (acc ++ [c]); omega
theorem spl_item (s : Nat) : ∀ (r acc p : List Nat), p ∈ TL.spl [s] 0 acc r → p.length ≤ acc.length + r.length
  | [], acc, p, h => by rw [TL.spl_nil] at h; rw [List.mem_singleton.mp h]; omega
  | c :: r, acc, p, h => by
    by_cases hc : c = s
    · subst hc
      rw [spl_same] at h
      rw [List.length_cons]
      rcases List.mem_cons.mp h with h | h
      · rw [h]; omega
      · have := spl_item c r [] p h; simp at this; omega
    · rw [spl_other hc] at h
      have := spl_item s r _ p h
      rw [List.length_append] at this
      simp at this ⊢; omega
theorem S_tl' (z : Str) : S (TL.tl z) = z := TL.mk_tl z
theorem tl_S (l : List Nat) : TL.tl (S l) = l := TL.tl_mk l
theorem inS_S (c : Nat) (l : List Nat) : inS (S [c]) (S l) = decide (c ∈ l) := inS_one c (S l)
theorem at_one {l : List Nat} {c i : Nat} : StrLaws.At (S l) (S [c]) (S l).length i ↔ l[i]? = some c := by
  unfold StrLaws.At
  rw [S_len, S_len]
  have e : Builtin.Str.subAt (S l) (S [c]) i = decide (l[i]? = some c) := by
    unfold Builtin.Str.subAt
    rw [S_len]
    show ((l.toArray.extract i (i + 1)) == #[c]) = _
    rw [Bool.eq_iff_iff, beq_iff_eq, decide_eq_true_eq]
    constructor
    · intro h
      have h2 := congrArg (fun x : Array Nat => x[0]?) h
      simp only [List.extract_toArray, List.getElem?_toArray] at h2
      rw [show (l.extract i (i + 1))[0]? = (if 0 < 1 then l[i]? else none) by rw [List.extract_eq_take_drop]; simp [List.getElem?_take, List.getElem?_drop]] at h2
      simpa using h2
    · intro h
      have hi := (List.getElem?_eq_some_iff.mp h).1
      apply Array.toList_inj.mp
      rw [List.extract_toArray]
      show (l.extract i (i + 1)) = [c]
      rw [List.extract_eq_take_drop, List.drop_eq_getElem_cons hi]
      have : l[i] = c := by
        have := List.getElem?_eq_getElem hi
        rw [h] at this; exact (Option.some.inj this).symm
      rw [this]
      simp
  rw [e, decide_eq_true_eq]
  constructor
  · intro h; exact h.2
  · intro h
    have hi := (List.getElem?_eq_some_iff.mp h).1
    exact ⟨by simp; omega, h⟩
theorem find_no {l : List Nat} {c : Nat} (h : c ∉ l) : Txt.find (S l) (S [c]) = -1 := by
  unfold Txt.find
  rcases StrLaws.occ_head (S l) (S [c]) 1 (Nat.le_refl _) with ⟨e, _⟩ | ⟨i, r, e, ha, _⟩
  · rw [e]
  · exact absurd (List.mem_of_getElem? (at_one.mp ha)) h
theorem find_at {p r : List Nat} {c : Nat} (h : c ∉ p) : Txt.find (S (p ++ c :: r)) (S [c]) = (p.length : Int) := by
  unfold Txt.find
  have h0 : (p ++ c :: r)[p.length]? = some c := by rw [List.getElem?_append_right (Nat.le_refl _)]; simp
  rcases StrLaws.occ_head (S (p ++ c :: r)) (S [c]) 1 (Nat.le_refl _) with ⟨e, hn⟩ | ⟨i, t, e, ha, hn⟩
  · exact absurd (at_one.mpr h0) (hn p.length)
  · rw [e]
    have hi : ¬ p.length < i := fun hlt => hn p.length hlt (at_one.mpr h0)
    have hj : ¬ i < p.length := fun hlt => by
      have := at_one.mp ha
      rw [List.getElem?_append_left hlt] at this
      exact h (List.mem_of_getElem? this)
    have : i = p.length := by omega
    rw [this]
theorem ends_one (l : List Nat) (c : Nat) : Txt.endswith (S l) (S [c]) = decide (l.getLast? = some c) := by
  unfold Txt.endswith
  rw [Bool.eq_iff_iff, Bool.and_eq_true, decide_eq_true_eq, decide_eq_true_eq, S_len, S_len]
  have hk := at_one (l := l) (c := c) (i := l.length - 1)
  unfold StrLaws.At at hk
  rw [S_len, S_len] at hk
  rw [List.getLast?_eq_getElem?, ← hk]
  constructor
  · intro h; exact ⟨by simp at h ⊢; omega, h.2⟩
  · intro h; exact ⟨by simp at h ⊢; omega, h.2⟩
theorem part_no {l : List Nat} {c : Nat} (h : c ∉ l) : Txt.partition (S l) (S [c]) = (S l, S [], S []) := SX.partition_none (by simp) (SX.par_head_none h)
theorem part_at {p r : List Nat} {c : Nat} (h : c ∉ p) : Txt.partition (S (p ++ c :: r)) (S [c]) = (S p, S [c], S r) :=
  SX.partition_some (by simp) (by
    have := SX.par_head (c := c) (sep := []) (p := p) r h
    simpa using this)
theorem split_at {l : List Nat} {c : Nat} : ∀ {l : List Nat}, c ∈ l → ∃ p r, l = p ++ c :: r ∧ c ∉ p
  | [], h => by cases h
  | d :: t, h => by
    by_cases e : c = d
    · subst e; exact ⟨[], t, rfl, by simp⟩
    · have h' : c ∈ t := by simpa [e] using h
      obtain ⟨p, r, rfl, hn⟩ := split_at (l := l) h'
      exact ⟨d :: p, r, rfl, by simp [hn, e]⟩
theorem cut_to (l : List Nat) (i : Int) (h : 0 ≤ i) : L2.cutS (S l) none (some i) = S (l.take i.toNat) := by
  unfold L2.cutS
  rw [HT.sIx_none]
  show (⟨_⟩ : Str) = _
  have e : HT.sIx (S l).length (S l).length (some i) = min i.toNat l.length := by
    rw [S_len]
    show (if i < 0 then _ else _) = _
    rw [if_neg (by omega)]
  rw [e]
  show S (List.take (min i.toNat l.length - 0) (List.drop 0 l)) = _
  rw [List.drop_zero, Nat.sub_zero]
  rw [← List.take_eq_take_min]
theorem cut_last (l : List Nat) : L2.cutS (S l) none (some (-1)) = S l.dropLast := by
  unfold L2.cutS
  rw [HT.sIx_none]
  have e : HT.sIx (S l).length (S l).length (some (-1)) = l.length - 1 := by
    rw [S_len]
    show (if (-1 : Int) < 0 then ((-1 : Int) + (l.length : Int)).toNat else min (-1 : Int).toNat l.length) = _
    rw [if_pos (show (-1 : Int) < 0 by decide)]; omega
  rw [e]
  show S (List.take (l.length - 1 - 0) (List.drop 0 l)) = _
  rw [List.drop_zero, Nat.sub_zero, List.dropLast_eq_take]
theorem cut_mid (l : List Nat) (i : Int) (h : 0 ≤ i) : L2.cutS (S l) (some i) (some (-1)) = S ((l.drop i.toNat).dropLast) := by
  unfold L2.cutS
  have e : HT.sIx (S l).length (S l).length (some (-1)) = l.length - 1 := by
    rw [S_len]
    show (if (-1 : Int) < 0 then ((-1 : Int) + (l.length : Int)).toNat else min (-1 : Int).toNat l.length) = _
    rw [if_pos (show (-1 : Int) < 0 by decide)]; omega
  have e2 : HT.sIx (S l).length 0 (some i) = min i.toNat l.length := by
    rw [S_len]
    show (if i < 0 then _ else _) = _
    rw [if_neg (by omega)]
  rw [e, e2]
  show S (List.take (l.length - 1 - min i.toNat l.length) (List.drop (min i.toNat l.length) l)) = _
  rw [List.dropLast_eq_take, List.length_drop]
  by_cases hle : i.toNat ≤ l.length
  · rw [Nat.min_eq_left hle]; congr 2; omega
  · rw [Nat.min_eq_right (by omega), List.drop_of_length_le (Nat.le_refl _), List.drop_of_length_le (by omega)]; simp
/-! ### words -/
def isLow (c : Nat) : Bool := decide (97 ≤ c ∧ c ≤ 122)
def wordB (l : List Nat) : Bool := decide (1 ≤ l.length) && (decide (l.length ≤ 10) && l.all isLow)
theorem mem_low (c : Nat) : (c ∈ (TL.tl "abcdefghijklmnopqrstuvwxyz")) ↔ isLow c = true := by
  have e : TL.tl "abcdefghijklmnopqrstuvwxyz" = [97, 98, 99, 100, 101, 102, 103, 104, 105, 106, 107, 108, 109, 110, 111, 112, 113, 114, 115, 116, 117, 118, 119, 120, 121, 122] := by decide +kernel
  rw [e]
  unfold isLow
  simp only [List.mem_cons, List.not_mem_nil, or_false, decide_eq_true_eq]
  omega
theorem word_no {l : List Nat} (h : wordB l = true) {c : Nat} (hc : isLow c = false) : c ∉ l := fun hm => by
  unfold wordB at h
  simp only [Bool.and_eq_true, decide_eq_true_eq] at h
  have := List.all_eq_true.mp h.2.2 c hm
  rw [hc] at this; cases this
/-- the name of a word and words -/
def nameL (w : List Nat) (ws : List (List Nat)) : List Nat := w ++ 40 :: (TL.joinL [44] ws ++ [41])
def joinD (w : List Nat) (ws : List (List Nat)) : D :=
  if ws.length ≤ 2 ∧ wordB w = true ∧ ws.all wordB = true then .str (S (if ws = [] then w else nameL w ws)) else .non
def pairD (w : List Nat) (ws : List (List Nat)) : D := .tup [.str (S w), .tup (ws.map fun p => .str (S p))]
/-- the pieces behind the first parenthesis -/
def restD (p r : List Nat) : D :=
  if r.getLast? = some 41 ∧ wordB p = true ∧ (TL.spl [44] 0 [] r.dropLast).length ≤ 2 ∧ (TL.spl [44] 0 [] r.dropLast).all wordB = true then pairD p (TL.spl [44] 0 [] r.dropLast) else .non
/-- the pieces of a text, told as a relation -/
inductive Pcs : List Nat → D → Prop where
  | word {l : List Nat} (h : wordB l = true) : Pcs l (pairD l [])
  | no {l : List Nat} (h : wordB l = false) (h2 : 40 ∉ l) : Pcs l .non
  | at_ {p r : List Nat} (h : 40 ∉ p) : Pcs (p ++ 40 :: r) (restD p r)
theorem pcs_ex (l : List Nat) : ∃ d, Pcs l d := by
  by_cases h : 40 ∈ l
  · obtain ⟨p, r, rfl, hn⟩ := split_at (l := []) h
    exact ⟨_, .at_ hn⟩
  · cases e : wordB l with
    | true => exact ⟨_, .word e⟩
    | false => exact ⟨_, .no e h⟩
theorem split_uni {p q r s : List Nat} {c : Nat} (h : c ∉ p) (h' : c ∉ q) (e : p ++ c :: r = q ++ c :: s) : p = q ∧ r = s := by
  induction p generalizing q with
  | nil => cases q with
    | nil => simpa using e
    | cons x t => simp at e h'; exact absurd e.1 (by simpa using fun z => h'.1 z)
  | cons y u ih => cases q with
    | nil => simp at e h; exact absurd e.1.symm (fun z => h.1 z)
    | cons x t =>
      simp at e h h'
      obtain ⟨e1, e2⟩ := ih h.2 h'.2 e.2
      exact ⟨by rw [e.1, e1], e2⟩
theorem pcs_uni {l : List Nat} {d e : D} (h : Pcs l d) (h' : Pcs l e) : d = e := by
  cases h with
  | word h => generalize hl : l = l' at h'; cases h' with
    | word _ => rfl
    | no h2 _ => subst hl; rw [h] at h2; cases h2
    | at_ h2 => subst hl; exact absurd (by simp) (word_no h (c := 40) rfl)
  | no h h2 => generalize hl : l = l' at h'; cases h' with
    | word h3 => subst hl; rw [h] at h3; cases h3
    | no _ _ => rfl
    | at_ h3 => subst hl; exact absurd (by simp) h2
  | @at_ p r h => generalize hl : p ++ 40 :: r = l' at h'; cases h' with
    | word h3 => subst hl; exact absurd (by simp) (word_no h3 (c := 40) rfl)
    | no _ h3 => subst hl; exact absurd (by simp) h3
    | at_ h3 => obtain ⟨rfl, rfl⟩ := split_uni h h3 hl; rfl
theorem restD_cases (p r : List Nat) : restD p r = .non ∨ ∃ w ws, restD p r = pairD w ws ∧ ws.length ≤ 2 ∧ wordB w = true ∧ ws.all wordB = true ∧ ws ≠ [] ∧ p ++ 40 :: r = nameL w ws := by
  by_cases h : r.getLast? = some 41 ∧ wordB p = true ∧ (TL.spl [44] 0 [] r.dropLast).length ≤ 2 ∧ (TL.spl [44] 0 [] r.dropLast).all wordB = true
  · refine .inr ⟨p, TL.spl [44] 0 [] r.dropLast, if_pos h, h.2.2.1, h.2.1, h.2.2.2, ?_, ?_⟩
    · intro z
      have hne : ∀ (s : Nat) (r acc : List Nat), TL.spl [s] 0 acc r ≠ [] := by
        intro s r
        induction r with
        | nil => intro acc; rw [TL.spl_nil]; simp
        | cons c r ih =>
          intro acc
          by_cases hc : TL.pre [s] (c :: r) = true
          · rw [TL.spl_hit hc]; simp
          · rw [TL.spl_miss (by simpa using hc)]; exact ih _
      exact hne _ _ _ z
    · unfold nameL
      have hj : TL.joinL [44] (TL.spl [44] 0 [] r.dropLast) = r.dropLast := by
        have h1 := StrLaws.join_split (S r.dropLast) (S [44])
        rw [SX.split_S (by simp) (by decide), ← TL.join_eq, SX.join_S] at h1
        exact SX.S_inj h1
      rw [hj]
      have : r = r.dropLast ++ [41] := by
        obtain ⟨t, rfl⟩ := List.getLast?_eq_some_iff.mp h.1
        simp
      rw [← this]
  · exact .inl (if_neg h)
theorem pcs_cases {l : List Nat} {d : D} (h : Pcs l d) : d = .non ∨ ∃ w ws, d = pairD w ws ∧ ws.length ≤ 2 ∧ wordB w = true ∧ ws.all wordB = true ∧ l = (if ws = [] then w else nameL w ws) := by
  cases h with
  | word h => exact .inr ⟨l, [], rfl, by simp, h, rfl, by simp⟩
  | no => exact .inl rfl
  | @at_ p r h =>
    rcases restD_cases p r with e | ⟨w, ws, e, h1, h2, h3, h4, h5⟩
    · exact .inl e
    · exact .inr ⟨w, ws, e, h1, h2, h3, by rw [if_neg h4]; exact h5⟩
theorem join_rest {p r : List Nat} (e : r.getLast? = some 41) : isN (joinD p (TL.spl [44] 0 [] r.dropLast)) = isN (restD p r) := by
  by_cases h : (TL.spl [44] 0 [] r.dropLast).length ≤ 2 ∧ wordB p = true ∧ (TL.spl [44] 0 [] r.dropLast).all wordB = true
  · have e1 : restD p r = pairD p (TL.spl [44] 0 [] r.dropLast) := if_pos ⟨e, h.2.1, h.1, h.2.2⟩
    have e2 : joinD p (TL.spl [44] 0 [] r.dropLast) = .str _ := if_pos h
    rw [e1, e2]; rfl
  · have e1 : restD p r = .non := if_neg (fun z => h ⟨z.2.2.1, z.2.1, z.2.2.2⟩)
    have e2 : joinD p (TL.spl [44] 0 [] r.dropLast) = .non := if_neg h
    rw [e1, e2]
theorem spl_words {ws : List (List Nat)} (hn : ws ≠ []) (h : ws.all wordB = true) : TL.spl [44] 0 [] (TL.joinL [44] ws) = ws :=
  SX.spl_join hn fun p hp => word_no (List.all_eq_true.mp h p hp) rfl
/-- the pieces of a name -/
theorem pcs_name {w : List Nat} {ws : List (List Nat)} (hw : wordB w = true) (h : ws.all wordB = true) (hn : ws ≠ []) (hl : ws.length ≤ 2) : Pcs (nameL w ws) (pairD w ws) := by
  have e : restD w (TL.joinL [44] ws ++ [41]) = pairD w ws := by
    unfold restD
    rw [List.dropLast_concat, spl_words hn h]
    exact if_pos ⟨by simp, hw, hl, h⟩
  rw [← e]
  exact .at_ (word_no hw rfl)
theorem pairD_ok (w : List Nat) (ws : List (List Nat)) (h : ws.length ≤ 2) : okD 3 (pairD w ws) = true := by
  have : ∀ n, okL n (ws.map fun p => D.str (S p)) = true := fun n => okL_all fun d hd => by
    obtain ⟨p, _, rfl⟩ := List.mem_map.mp hd
    cases n <;> rfl
  unfold pairD
  simp only [okD, okL, this, List.length_cons, List.length_nil, List.length_map, Bool.and_eq_true, decide_eq_true_eq, Bool.and_true, Bool.true_and]
  omega
theorem pcs_ok {l : List Nat} {d : D} (h : Pcs l d) : okD 3 d = true := by
  rcases pcs_cases h with rfl | ⟨w, ws, rfl, h1, _⟩
  · rfl
  · exact pairD_ok w ws h1
theorem joinD_cases (w : List Nat) (ws : List (List Nat)) : joinD w ws = .non ∨ ∃ z, joinD w ws = .str z := by
  unfold joinD; split
  · exact .inr ⟨_, rfl⟩
  · exact .inl rfl
theorem joinD_ok (w : List Nat) (ws : List (List Nat)) (n : Nat) : okD n (joinD w ws) = true := by
  rcases joinD_cases w ws with e | ⟨z, e⟩ <;> (rw [e]; cases n <;> rfl)
theorem last_eq {p r : List Nat} : (p ++ 40 :: r).getLast? = some 41 ↔ r.getLast? = some 41 := by
  cases r with
  | nil => simp
  | cons c t => simp [List.getLast?_append, List.getLast?_cons_cons]
theorem words_of {R : D → Prop} {f : List Nat → D} {g : List Nat → Prop} (h : ∀ d, R d → ∃ l, g l ∧ d = f l) : ∀ {ds : List D}, (∀ d ∈ ds, R d) → ∃ ws : List (List Nat), ds = ws.map f ∧ ∀ w ∈ ws, g w
  | [], _ => ⟨[], rfl, by simp⟩
  | d :: r, hd => by
    obtain ⟨l, hl, rfl⟩ := h d (hd d (by simp))
    obtain ⟨ws, e, hw⟩ := words_of h (ds := r) fun x hx => hd x (by simp [hx])
    exact ⟨l :: ws, by rw [e]; rfl, fun w hw' => by
      rcases List.mem_cons.mp hw' with rfl | h
      · exact hl
      · exact hw w h⟩
theorem wordB_len {l : List Nat} (h : wordB l = true) : 1 ≤ l.length ∧ l.length ≤ 10 := by
  unfold wordB at h
  simp only [Bool.and_eq_true, decide_eq_true_eq] at h
  exact ⟨h.1, h.2.1⟩
theorem tx_S {n : Nat} {d : D} (h : Tx n d) : ∃ l : List Nat, d = .str (S l) ∧ l.length ≤ n := by
  obtain ⟨z, rfl, hz⟩ := h
  exact ⟨TL.tl z, by rw [S_tl'], by rw [← TL.len_tl]; exact hz⟩
theorem txts_S : ∀ ws : List (List Nat), txts (ws.map fun p => D.str (S p)) = some (ws.map S)
  | [] => rfl
  | w :: r => by rw [List.map_cons, txts, txts_S r]; rfl
/-! ### texts of small letters -/
def Low1 (d : D) : Prop := ∃ c, isLow c = true ∧ d = .str ⟨#[c]⟩
theorem low_txts : ∀ {ds : List D}, (∀ d ∈ ds, Low1 d) → ∃ cs : List Nat, cs.length = ds.length ∧ cs.all isLow = true ∧ txts ds = some (cs.map fun c => S [c])
  | [], _ => ⟨[], rfl, rfl, rfl⟩
  | d :: r, h => by
    obtain ⟨c, hc, rfl⟩ := h d (by simp)
    obtain ⟨cs, e1, e2, e3⟩ := low_txts (ds := r) fun d hd => h d (by simp [hd])
    exact ⟨c :: cs, by simp [e1], by simp [hc, e2], by rw [txts, e3]; rfl⟩
theorem joinL_ones : ∀ cs : List Nat, TL.joinL [] (cs.map fun c => [c]) = cs
  | [] => rfl
  | [c] => rfl
  | c :: d :: r => by
    have := joinL_ones (d :: r)
    show [c] ++ ([] ++ TL.joinL [] ((d :: r).map fun c => [c])) = _
    rw [this]; rfl
theorem join_ones (cs : List Nat) : Txt.join (Str.ofString "") (cs.map fun c => S [c]) = S cs := by
  have e : (Str.ofString "") = S [] := by decide +kernel
  have := SX.join_S [] (cs.map fun c => [c])
  rw [List.map_map] at this
  rw [e, show (cs.map fun c => S [c]) = cs.map (S ∘ fun c => [c]) from rfl, this, joinL_ones]
theorem fold_app (x : Array Nat) : ∀ (n : Nat) (acc : Array Nat), ((List.replicate n x).foldl (· ++ ·) acc).toList = acc.toList ++ (List.replicate n x.toList).flatten
  | 0, acc => by simp
  | n + 1, acc => by
    rw [List.replicate_succ, List.foldl_cons, fold_app x n, Array.toList_append, List.replicate_succ, List.flatten_cons, List.append_assoc]
theorem repS_chr (c n : Nat) : repS ⟨#[c]⟩ n = S (List.replicate n c) := by
  show (⟨(List.replicate n #[c]).foldl (· ++ ·) #[]⟩ : Str) = ⟨_⟩
  congr 1
  apply Array.toList_inj.mp
  rw [fold_app]
  simp
theorem rep_low {c n : Nat} (h : isLow c = true) : (List.replicate n c).all isLow = true := by
  rw [List.all_eq_true]; intro d hd; rw [List.eq_of_mem_replicate hd]; exact h
end M00

set_option linter.all false
set_option maxRecDepth 100000
set_option maxHeartbeats 4000000

namespace L00
open PySem PySem.Spec PyProof.Rows L2 DL
/-! ### the text by places -/
def topS (i : Nat) : Stmt := PySem.Challenge.pw_onemaking_k00_words_and_step_names.main.body.getD i (.Pass ⟨0, 0, 0, 0⟩)
abbrev st_is_word : Stmt := topS 4
abbrev nm_is_word : List Str := ["text", "letter"]
theorem sc_is_word : FnScope nm_is_word ["text"] (defScope st_is_word) := ⟨rfl, rfl, rfl, by decide +kernel, rfl, by decide +kernel, by decide +kernel⟩
abbrev st_is_step_name : Stmt := topS 5
abbrev nm_is_step_name : List Str := ["text"]
theorem sc_is_step_name : FnScope nm_is_step_name ["text"] (defScope st_is_step_name) := ⟨rfl, rfl, rfl, by decide +kernel, rfl, by decide +kernel, by decide +kernel⟩
abbrev st_name_parts : Stmt := topS 6
abbrev nm_name_parts : List Str := ["text", "word", "between", "rest", "words"]
theorem sc_name_parts : FnScope nm_name_parts ["text"] (defScope st_name_parts) := ⟨rfl, rfl, rfl, by decide +kernel, rfl, by decide +kernel, by decide +kernel⟩
abbrev st_join_name : Stmt := topS 7
abbrev nm_join_name : List Str := ["word", "words", "part"]
theorem sc_join_name : FnScope nm_join_name ["word", "words"] (defScope st_join_name) := ⟨rfl, rfl, rfl, by decide +kernel, rfl, by decide +kernel, by decide +kernel⟩
abbrev st_law_mix : Stmt := topS 9
abbrev nm_law_mix : List Str := ["number", "turn", "one", "two"]
theorem sc_law_mix : FnScope nm_law_mix ["number", "turn"] (defScope st_law_mix) := ⟨rfl, rfl, rfl, by decide +kernel, rfl, by decide +kernel, by decide +kernel⟩
abbrev st_law_store : Stmt := topS 10
abbrev nm_law_store : List Str := ["script", "cells", "cell", "size"]
theorem sc_law_store : FnScope nm_law_store ["script"] (defScope st_law_store) := ⟨rfl, rfl, rfl, by decide +kernel, rfl, by decide +kernel, by decide +kernel⟩
abbrev st_law_take : Stmt := topS 11
abbrev nm_law_take : List Str := ["store", "many", "cell", "told"]
theorem sc_law_take : FnScope nm_law_take ["store", "many"] (defScope st_law_take) := ⟨rfl, rfl, rfl, by decide +kernel, rfl, by decide +kernel, by decide +kernel⟩
abbrev st_law_between : Stmt := topS 12
abbrev nm_law_between : List Str := ["store", "low", "high"]
theorem sc_law_between : FnScope nm_law_between ["store", "low", "high"] (defScope st_law_between) := ⟨rfl, rfl, rfl, by decide +kernel, rfl, by decide +kernel, by decide +kernel⟩
abbrev st_law_one_in : Stmt := topS 13
abbrev nm_law_one_in : List Str := ["store", "many"]
theorem sc_law_one_in : FnScope nm_law_one_in ["store", "many"] (defScope st_law_one_in) := ⟨rfl, rfl, rfl, by decide +kernel, rfl, by decide +kernel, by decide +kernel⟩
abbrev st_law_pick : Stmt := topS 14
abbrev nm_law_pick : List Str := ["store", "items"]
theorem sc_law_pick : FnScope nm_law_pick ["store", "items"] (defScope st_law_pick) := ⟨rfl, rfl, rfl, by decide +kernel, rfl, by decide +kernel, by decide +kernel⟩
abbrev st_law_word : Stmt := topS 15
abbrev nm_law_word : List Str := ["store", "form", "letters", "size", "k"]
theorem sc_law_word : FnScope nm_law_word ["store"] (defScope st_law_word) := ⟨rfl, rfl, rfl, by decide +kernel, rfl, by decide +kernel, by decide +kernel⟩
abbrev st_law_step_name : Stmt := topS 16
abbrev nm_law_step_name : List Str := ["store", "word", "form"]
theorem sc_law_step_name : FnScope nm_law_step_name ["store", "word"] (defScope st_law_step_name) := ⟨rfl, rfl, rfl, by decide +kernel, rfl, by decide +kernel, by decide +kernel⟩
abbrev st_law_no_word : Stmt := topS 17
abbrev nm_law_no_word : List Str := ["store", "form"]
theorem sc_law_no_word : FnScope nm_law_no_word ["store"] (defScope st_law_no_word) := ⟨rfl, rfl, rfl, by decide +kernel, rfl, by decide +kernel, by decide +kernel⟩
abbrev st_law_no_step_name : Stmt := topS 18
abbrev nm_law_no_step_name : List Str := ["store", "form"]
theorem sc_law_no_step_name : FnScope nm_law_no_step_name ["store"] (defScope st_law_no_step_name) := ⟨rfl, rfl, rfl, by decide +kernel, rfl, by decide +kernel, by decide +kernel⟩
abbrev st_law_bent_text : Stmt := topS 19
abbrev nm_law_bent_text : List Str := ["store", "word", "place", "sign"]
theorem sc_law_bent_text : FnScope nm_law_bent_text ["store", "word"] (defScope st_law_bent_text) := ⟨rfl, rfl, rfl, by decide +kernel, rfl, by decide +kernel, by decide +kernel⟩
abbrev st_law_any_text : Stmt := topS 20
abbrev nm_law_any_text : List Str := ["store", "most", "signs", "k"]
theorem sc_law_any_text : FnScope nm_law_any_text ["store", "most"] (defScope st_law_any_text) := ⟨rfl, rfl, rfl, by decide +kernel, rfl, by decide +kernel, by decide +kernel⟩
abbrev st_law_same : Stmt := topS 21
abbrev nm_law_same : List Str := ["actual", "due", "k"]
theorem sc_law_same : FnScope nm_law_same ["actual", "due"] (defScope st_law_same) := ⟨rfl, rfl, rfl, by decide +kernel, rfl, by decide +kernel, by decide +kernel⟩
abbrev st_law_is_integer : Stmt := topS 22
abbrev nm_law_is_integer : List Str := ["actual"]
theorem sc_law_is_integer : FnScope nm_law_is_integer ["actual"] (defScope st_law_is_integer) := ⟨rfl, rfl, rfl, by decide +kernel, rfl, by decide +kernel, by decide +kernel⟩
abbrev st_law_own_word : Stmt := topS 23
abbrev nm_law_own_word : List Str := ["text", "sign"]
theorem sc_law_own_word : FnScope nm_law_own_word ["text"] (defScope st_law_own_word) := ⟨rfl, rfl, rfl, by decide +kernel, rfl, by decide +kernel, by decide +kernel⟩
abbrev st_law_own_pieces : Stmt := topS 24
abbrev nm_law_own_pieces : List Str := ["text", "place", "items", "item"]
theorem sc_law_own_pieces : FnScope nm_law_own_pieces ["text"] (defScope st_law_own_pieces) := ⟨rfl, rfl, rfl, by decide +kernel, rfl, by decide +kernel, by decide +kernel⟩
abbrev st_law_sized : Stmt := topS 25
abbrev nm_law_sized : List Str := ["store", "low", "high", "letters", "size", "k"]
theorem sc_law_sized : FnScope nm_law_sized ["store", "low", "high"] (defScope st_law_sized) := ⟨rfl, rfl, rfl, by decide +kernel, rfl, by decide +kernel, by decide +kernel⟩
abbrev st_law_long_name : Stmt := topS 26
abbrev nm_law_long_name : List Str := ["store", "told", "form"]
theorem sc_law_long_name : FnScope nm_law_long_name ["store"] (defScope st_law_long_name) := ⟨rfl, rfl, rfl, by decide +kernel, rfl, by decide +kernel, by decide +kernel⟩
abbrev st_law_with_sign : Stmt := topS 27
abbrev nm_law_with_sign : List Str := ["store", "text", "place", "form", "sign"]
theorem sc_law_with_sign : FnScope nm_law_with_sign ["store", "text"] (defScope st_law_with_sign) := ⟨rfl, rfl, rfl, by decide +kernel, rfl, by decide +kernel, by decide +kernel⟩
abbrev st_law_drawn_text : Stmt := topS 28
abbrev nm_law_drawn_text : List Str := ["store", "form"]
theorem sc_law_drawn_text : FnScope nm_law_drawn_text ["store"] (defScope st_law_drawn_text) := ⟨rfl, rfl, rfl, by decide +kernel, rfl, by decide +kernel, by decide +kernel⟩
abbrev st_law_text_is_told : Stmt := topS 29
abbrev nm_law_text_is_told : List Str := ["text", "due", "plain", "alone", "items"]
theorem sc_law_text_is_told : FnScope nm_law_text_is_told ["text"] (defScope st_law_text_is_told) := ⟨rfl, rfl, rfl, by decide +kernel, rfl, by decide +kernel, by decide +kernel⟩
abbrev st_law_piece : Stmt := topS 30
abbrev nm_law_piece : List Str := ["store", "form"]
theorem sc_law_piece : FnScope nm_law_piece ["store"] (defScope st_law_piece) := ⟨rfl, rfl, rfl, by decide +kernel, rfl, by decide +kernel, by decide +kernel⟩
abbrev st_law_join_is_told : Stmt := topS 31
abbrev nm_law_join_is_told : List Str := ["store", "head", "items", "k", "due", "item", "handed", "told"]
theorem sc_law_join_is_told : FnScope nm_law_join_is_told ["store"] (defScope st_law_join_is_told) := ⟨rfl, rfl, rfl, by decide +kernel, rfl, by decide +kernel, by decide +kernel⟩
abbrev st_law : Stmt := topS 32
abbrev nm_law : List Str := ["script", "store", "texts", "k", "text", "words", "head", "due"]
theorem sc_law : FnScope nm_law ["script"] (defScope st_law) := ⟨rfl, rfl, rfl, by decide +kernel, rfl, by decide +kernel, by decide +kernel⟩
structure Txt (mg : Str → Option Value) : Prop where
  n_all : mg "all" = none
  v_LETTERS : ∃ t, mg "LETTERS" = some (.str "abcdefghijklmnopqrstuvwxyz" t)
  n_len : mg "len" = none
  v_LONGEST_WORD : ∃ t, mg "LONGEST_WORD" = some (.int 10 t)
  n_tuple : mg "tuple" = none
  v_MOST_NAME_WORDS : ∃ t, mg "MOST_NAME_WORDS" = some (.int 2 t)
  n_int : mg "int" = none
  n_abs : mg "abs" = none
  n_max : mg "max" = none
  n_range : mg "range" = none
  n_isinstance : mg "isinstance" = none
  n_list : mg "list" = none
  n_str : mg "str" = none
  n_bool : mg "bool" = none
open MS M00 SX
section
variable {P : Program} {w : World} {K : PySem.W.Frag} {mg : Str → Option Value} {base : Heap}
def sp_is_word : DSp := fun ds θ Q _ => ∃ l : List Nat, ds = [.str (SX.S l)] ∧ l.length ≤ 1000000 ∧ Q (.bl (wordB l)) θ
def sp_is_step_name : DSp := fun ds θ Q _ => ∃ l : List Nat, ds = [.str (SX.S l)] ∧ l.length ≤ 1000000 ∧ ∀ d, Pcs l d → Q (.bl (!isN d)) θ
def sp_name_parts : DSp := fun ds θ Q _ => ∃ l : List Nat, ds = [.str (SX.S l)] ∧ l.length ≤ 1000000 ∧ ∀ d, Pcs l d → Q d θ
def sp_join_name : DSp := fun ds θ Q _ => ∃ (w : List Nat) (x : D) (ws : List (List Nat)), ds = [.str (SX.S w), x] ∧ (x = .lst (ws.map fun p => .str (SX.S p)) ∨ x = .tup (ws.map fun p => .str (SX.S p))) ∧ w.length ≤ 1000000 ∧ ws.length ≤ 1000000 ∧ (∀ p ∈ ws, p.length ≤ 1000000) ∧ Q (joinD w ws) θ
def sp_law_mix : DSp := fun ds θ Q _ => ∃ n t : Int, ds = [.int n, .int t] ∧ ∀ r : Int, Q (.int r) θ
def sp_law_store : DSp := fun ds θ Q _ => ∃ ns : List Int, ds = [.rol (ns.map D.int)] ∧ ns.length ≤ 63 ∧ ∀ a, θ a = none → Q (.ref a) (ups θ a (.lstP StoreOk))
def sp_law_take : DSp := fun ds θ Q _ => ∃ (a : Addr) (many : Int), ds = [.ref a, .int many] ∧ Sto θ a ∧ many.natAbs < 2 ^ 900 ∧ ∀ k : Int, 0 ≤ k → k < max 1 many → Q (.int k) θ
def sp_law_between : DSp := fun ds θ Q _ => ∃ (a : Addr) (lo hi : Int), ds = [.ref a, .int lo, .int hi] ∧ Sto θ a ∧ (hi - lo + 1).natAbs < 2 ^ 900 ∧ ∀ k : Int, lo ≤ k → k ≤ max lo hi → Q (.int k) θ
def sp_law_one_in : DSp := fun ds θ Q _ => ∃ (a : Addr) (m : Int), ds = [.ref a, .int m] ∧ Sto θ a ∧ m.natAbs < 2 ^ 900 ∧ ∀ b : Bool, Q (.bl b) θ
def sp_law_pick : DSp := fun ds θ Q _ => ∃ (a : Addr) (x : D) (xs : List D), ds = [.ref a, x] ∧ Sto θ a ∧ itemsD θ x = some xs ∧ 0 < xs.length ∧ xs.length ≤ 16777216 ∧ ∀ d ∈ xs, Q d θ
def sp_law_word : DSp := fun ds θ Q _ => ∃ a : Addr, ds = [.ref a] ∧ Sto θ a ∧ ∀ d, TxO 10 d → Q d θ
def sp_law_step_name : DSp := fun ds θ Q _ => ∃ (a : Addr) (z : Str), ds = [.ref a, .str z] ∧ Sto θ a ∧ z.length ≤ 100 ∧ ∀ d, Tx (z.length + 30) d → Q d θ
def sp_law_no_word : DSp := fun ds θ Q _ => ∃ a : Addr, ds = [.ref a] ∧ Sto θ a ∧ ∀ d, TxO 20 d → Q d θ
def sp_law_no_step_name : DSp := fun ds θ Q _ => ∃ a : Addr, ds = [.ref a] ∧ Sto θ a ∧ ∀ d, Tx 40 d → Q d θ
def sp_law_bent_text : DSp := fun ds θ Q _ => ∃ (a : Addr) (z : Str), ds = [.ref a, .str z] ∧ Sto θ a ∧ z.length ≤ 1000 ∧ Cp z ∧ ∀ d, TxO (z.length + 1) d → Q d θ
def sp_law_any_text : DSp := fun ds θ Q _ => ∃ (a : Addr) (m : Int), ds = [.ref a, .int m] ∧ Sto θ a ∧ 0 ≤ m ∧ m ≤ 1000 ∧ ∀ d, Tx 1000 d → Q d θ
def sp_law_same : Nat → DSp
  | 0 => fun _ _ _ _ => False
  | n + 1 => fun ds θ Q _ => ∃ x y : D, ds = [x, y] ∧ Dat θ x ∧ okD n y = true ∧ (∃ m, okD m (vw θ x) = true) ∧ Q (.bl (sameD (vw θ x) y)) θ
def sp_law_is_integer : DSp := fun ds θ Q _ => ∃ x : D, ds = [x] ∧ Dat θ x ∧ Q (.bl (isIn (vw θ x))) θ
def sp_law_own_word : DSp := fun ds θ Q _ => ∃ l : List Nat, ds = [.str (SX.S l)] ∧ l.length ≤ 1000000 ∧ Q (.bl (wordB l)) θ
def sp_law_own_pieces : DSp := fun ds θ Q _ => ∃ l : List Nat, ds = [.str (SX.S l)] ∧ l.length ≤ 1000000 ∧ ∀ d, Pcs l d → Q d θ
def sp_law_sized : DSp := fun ds θ Q _ => ∃ (a : Addr) (lo hi : Int), ds = [.ref a, .int lo, .int hi] ∧ Sto θ a ∧ 1 ≤ lo ∧ lo ≤ hi ∧ hi ≤ 3000 ∧ ∀ l : List Nat, lo ≤ (l.length : Int) → (l.length : Int) ≤ hi → l.all isLow = true → Q (.str (SX.S l)) θ
def sp_law_long_name : DSp := fun ds θ Q _ => ∃ a : Addr, ds = [.ref a] ∧ Sto θ a ∧ ∀ d, Tx 100 d → Q d θ
def sp_law_with_sign : DSp := fun ds θ Q _ => ∃ (a : Addr) (z : Str), ds = [.ref a, .str z] ∧ Sto θ a ∧ z.length ≤ 1000 ∧ ∀ d, Tx (z.length + 1) d → Q d θ
def sp_law_drawn_text : DSp := fun ds θ Q _ => ∃ a : Addr, ds = [.ref a] ∧ Sto θ a ∧ ∀ d, Tx 5000 d → Q d θ
def sp_law_text_is_told : DSp := fun ds θ Q _ => ∃ l : List Nat, ds = [.str (SX.S l)] ∧ l.length ≤ 1000000 ∧ Q (.bl true) θ
def sp_law_piece : DSp := fun ds θ Q _ => ∃ a : Addr, ds = [.ref a] ∧ Sto θ a ∧ ∀ d, TxO 20 d → Q d θ
def sp_law_join_is_told : DSp := fun ds θ Q _ => ∃ a : Addr, ds = [.ref a] ∧ Sto θ a ∧ Q (.bl true) θ
def sp_law : DSp := fun ds θ Q _ => ∃ ns : List Int, ds = [.rol (ns.map D.int)] ∧ ns.length ≤ 63 ∧ ∀ θ', Q (.bl true) θ'
/-! #### is_word -/
theorem ok_is_word {f : Addr} {fd : FuncData} (F : Fun K "is_word" "is_word" st_is_word f fd) (T : Txt mg)  : FnD P w K mg base 1 f fd ["text"] sp_is_word := by
  refine fn_d (k := 0) F sc_is_word (fun ds θ Q E h => ?_) (fun cdv A outer s H E Ed hr => ⟨_, (b_cons (s_if (t_bool (w_or (t_cmp o_lt (d_callB c_len T.n_len bt_len (a_cons (d_var 0) a_nil)) d_int) (w_or1 (t_cmp o_gt (d_callB c_len T.n_len bt_len (a_cons (d_var 0) a_nil)) (d_gint T.v_LONGEST_WORD)))))
        (b_one (s_ret d_bl))
        b_nil)
      (b_one (s_ret (d_callB (c_all rfl) T.n_all bt_all (a_cons (d_lc (own := [("letter", 1)]) false rfl sc_is_word.nd (i_seq' (d_var 0)) (blkOk_by (N := nm_is_word) (sc := defScope st_is_word) (by decide +kernel)) (fun _ _ _ _ _ => (g_name 1 sc_is_word.nd)) (fun _ _ _ _ _ => ts_nil) (fun _ _ _ _ _ => (d_cmp o_in (d_var 1) (d_gstr T.v_LETTERS)))) a_nil))))), fun ds θ Q h => ?_⟩)
  · obtain ⟨l, rfl, _⟩ := h; rfl
  · obtain ⟨l, rfl, hz, q⟩ := h
    have hl := SX.S_len l
    refine d_test (b := decide (((SX.S l).length : Int) < 1) || decide (10 < ((SX.S l).length : Int))) (an_or (fun Q q => ⟨sz _ (by omega), q⟩) fun _ Q q => ⟨sz _ (by omega), q⟩) ?_
    refine ite2 (fun e => ?_) (fun e => ?_)
    · have : wordB l = false := by
        simp only [Bool.or_eq_true, decide_eq_true_eq] at e
        cases h : wordB l with
        | false => rfl
        | true => have := wordB_len h; omega
      rw [this] at q; exact q
    · have hb : 1 ≤ l.length ∧ l.length ≤ 10 := by
        simp only [Bool.or_eq_true, decide_eq_true_eq] at e
        omega
      have ew : wordB l = l.all isLow := by
        unfold wordB
        rw [decide_eq_true hb.1, decide_eq_true hb.2]; rfl
      rw [ew] at q
      refine ⟨_, rfl, lc_map (fun x => match x with | .str s => .bl (inS s "abcdefghijklmnopqrstuvwxyz") | _ => .non) (by rw [List.length_map]; exact sz _ (by show l.length ≤ _; omega)) (fun i x hx k hk => ?_) ?_⟩
      · have hm := List.mem_of_getElem? hx
        obtain ⟨c, _, rfl⟩ := List.mem_map.mp hm
        exact hk
      · have e1 : bools (List.map (fun x : D => match x with | .str s => .bl (inS s "abcdefghijklmnopqrstuvwxyz") | _ => .non) (l.map fun c => D.str ⟨#[c]⟩)) = some (l.map isLow) := by
          rw [List.map_map]
          have : ((fun x : D => match x with | .str s => D.bl (inS s "abcdefghijklmnopqrstuvwxyz") | _ => .non) ∘ fun c => D.str ⟨#[c]⟩) = D.bl ∘ isLow := by
            funext c
            show D.bl (inS ⟨#[c]⟩ "abcdefghijklmnopqrstuvwxyz") = D.bl (isLow c)
            rw [inS_one]
            congr 1
            rw [Bool.eq_iff_iff, decide_eq_true_eq]
            exact mem_low c
          rw [this, ← List.map_map]
          exact bools_map _
        refine ⟨_, _, rfl, e1, ?_⟩
        have e2 : (l.map isLow).all id = l.all isLow := by rw [List.all_map]; rfl
        rw [e2]
        exact q
/-! #### is_step_name -/
theorem ok_is_step_name {f : Addr} {fd : FuncData} (F : Fun K "is_step_name" "is_step_name" st_is_step_name f fd) (T : Txt mg) (C_name_parts : Df P w K mg base "name_parts" 3 ["text"] sp_name_parts) : FnD P w K mg base 4 f fd ["text"] sp_is_step_name := by
  refine fn_d (k := 3) F sc_is_step_name (fun ds θ Q E h => ?_) (fun cdv A outer s H E Ed hr => ⟨_, (b_one (s_ret (d_cmp o_isnot (d_callD tk_def C_name_parts hr (by omega) (a_cons (d_var 0) a_nil)) d_non))), fun ds θ Q h => ?_⟩)
  · obtain ⟨l, rfl, _⟩ := h; rfl
  · obtain ⟨l, rfl, hz, q⟩ := h
    exact ⟨l, rfl, hz, fun d hd => q d hd⟩
/-! #### name_parts -/
theorem ok_name_parts {f : Addr} {fd : FuncData} (F : Fun K "name_parts" "name_parts" st_name_parts f fd) (T : Txt mg) (C_join_name : Df P w K mg base "join_name" 2 ["word", "words"] sp_join_name) (C_is_word : Df P w K mg base "is_word" 1 ["text"] sp_is_word) : FnD P w K mg base 3 f fd ["text"] sp_name_parts := by
  refine fn_d (k := 2) F sc_name_parts (fun ds θ Q E h => ?_) (fun cdv A outer s H E Ed hr => ⟨_, (b_cons (s_if (t_cmp o_notin d_str (d_var 0))
        (b_cons (s_if (t_tru (d_callD tk_def C_is_word hr (by omega) (a_cons (d_var 0) a_nil)))
          (b_one (s_ret (d_tup (a_cons (d_var 0) (a_cons (d_tup a_nil) a_nil)))))
          b_nil)
        (b_one (s_ret d_non)))
        b_nil)
      (b_cons (s_if (t_not (t_tru (d_bm PySem.F.plainAttrs_str PySem.F.slot_str_endswith PySem.F.type_str_endswith m_endswith (d_var 0) (a_cons d_str a_nil))))
        (b_one (s_ret d_non))
        b_nil)
      (b_cons (s_asg (d_bm PySem.F.plainAttrs_str PySem.F.slot_str_partition PySem.F.type_str_partition m_partition (d_var 0) (a_cons d_str a_nil)) (g_tup rfl (gs_cons (g_name 1 sc_name_parts.nd) (gs_cons (g_name 2 sc_name_parts.nd) (gs_cons (g_name 3 sc_name_parts.nd) gs_nil)))))
      (b_cons (s_set (i := 4) sc_name_parts.nd (d_bm PySem.F.plainAttrs_str PySem.F.slot_str_split PySem.F.type_str_split (m_split (cc := false)) (d_slice (s_seq (cc := false)) (d_var 3) p_none (p_some (d_un o_neg d_int))) (a_cons d_str a_nil)))
      (b_cons (s_if (t_cmp o_is (d_callD tk_def C_join_name hr (by omega) (a_cons (d_var 1) (a_cons (d_var 4) a_nil))) d_non)
        (b_one (s_ret d_non))
        b_nil)
      (b_one (s_ret (d_tup (a_cons (d_var 1) (a_cons (d_callTy c_tuple T.n_tuple bt_tuple (a_cons (d_var 4) a_nil)) a_nil)))))))))), fun ds θ Q h => ?_⟩)
  · obtain ⟨l, rfl, _⟩ := h; rfl
  · obtain ⟨l, rfl, hz, q⟩ := h
    have eO : (Str.ofString "(") = SX.S [40] := by decide +kernel
    have eC : (Str.ofString ")") = SX.S [41] := by decide +kernel
    have eK : (Str.ofString ",") = SX.S [44] := by decide +kernel
    show if (!inS (Str.ofString "(") (SX.S l)) = true then _ else _
    rw [eO, inS_S]
    refine ite2 (fun e => ?_) (fun e => ?_)
    · have hn : 40 ∉ l := by simpa using e
      refine ⟨l, rfl, hz, ?_⟩
      refine ite2 (fun e => ?_) (fun e => ?_)
      · exact ⟨by show 0 ≤ sizeLine; decide, by show 2 ≤ sizeLine; decide, q _ (.word e)⟩
      · exact q _ (.no (by simpa using e) hn)
    · have hm : 40 ∈ l := by simpa using e
      obtain ⟨p, r, rfl, hn⟩ := split_at (l := []) hm
      have hp : p.length + r.length + 1 ≤ 1000000 := by simp at hz; omega
      refine ⟨rfl, ?_⟩
      show if (!Txt.endswith (SX.S (p ++ 40 :: r)) (Str.ofString ")")) = true then _ else _
      rw [eC, ends_one]
      have eL : decide ((p ++ 40 :: r).getLast? = some 41) = decide (r.getLast? = some 41) := decide_eq_decide.mpr last_eq
      rw [eL]
      refine ite2 (fun e => ?_) (fun e => ?_)
      · have e : r.getLast? ≠ some 41 := by simpa using e
        have er : restD p r = .non := if_neg fun z => e z.1
        have := q _ (.at_ (r := r) hn)
        rw [er] at this; exact this
      · have e : r.getLast? = some 41 := by simpa using e
        have hs := SX.S_len (p ++ 40 :: r)
        refine ⟨rfl, rfl, sz _ (by omega), ?_⟩
        rw [part_at hn]
        have ec : cutS (SX.S r) none (some (-1)) = SX.S r.dropLast := cut_last r
        have es : (Txt.split (SX.S r.dropLast) (SX.S [44])).map D.str = (TL.spl [44] 0 [] r.dropLast).map fun p => .str (SX.S p) := by
          rw [SX.split_S (by decide) (by decide), List.map_map]; rfl
        have hd : (SX.S r.dropLast).length + 2 ≤ sizeLine := by rw [SX.S_len, List.length_dropLast]; exact sz _ (by omega)
        have hsp := spl_size 44 r.dropLast []
        have hdl : r.dropLast.length ≤ r.length := by rw [List.length_dropLast]; omega
        refine ⟨rfl, rfl, by show (SX.S r).length ≤ _; rw [SX.S_len]; exact sz _ (by omega), rfl, rfl, ?_, ?_⟩
        · show (cutS (SX.S r) none (some (-1))).length + 2 ≤ _
          rw [ec]; exact hd
        · show newL false ((Txt.split (cutS (SX.S r) none (some (-1))) (Str.ofString ",")).map D.str) θ _
          rw [ec, eK, es]
          refine ⟨p, _, _, rfl, .inl rfl, by omega, by omega, fun x hx => ?_, ?_⟩
          · have := spl_item 44 _ _ _ hx
            simp at this; omega
          · have eJ : isN (joinD p (TL.spl [44] 0 [] r.dropLast)) = isN (restD p r) := join_rest e
            show if isN (joinD p (TL.spl [44] 0 [] r.dropLast)) = true then _ else _
            rw [eJ]
            have q := q _ (.at_ (r := r) hn)
            refine ite2 (fun e2 => ?_) (fun e2 => ?_)
            · have : restD p r = .non := by cases h : restD p r <;> rw [h] at e2 <;> first | rfl | exact absurd e2 Bool.false_ne_true
              rw [this] at q; exact q
            · refine ⟨_, rfl, by show 2 ≤ sizeLine; decide, ?_⟩
              by_cases h : r.getLast? = some 41 ∧ wordB p = true ∧ (TL.spl [44] 0 [] r.dropLast).length ≤ 2 ∧ (TL.spl [44] 0 [] r.dropLast).all wordB = true
              · have : restD p r = pairD p (TL.spl [44] 0 [] r.dropLast) := if_pos h
                rw [this] at q; exact q
              · have : restD p r = .non := if_neg h
                rw [this] at e2; exact absurd rfl e2
/-! #### join_name -/
theorem ok_join_name {f : Addr} {fd : FuncData} (F : Fun K "join_name" "join_name" st_join_name f fd) (T : Txt mg) (C_is_word : Df P w K mg base "is_word" 1 ["text"] sp_is_word) : FnD P w K mg base 2 f fd ["word", "words"] sp_join_name := by
  refine fn_d (k := 1) F sc_join_name (fun ds θ Q E h => ?_) (fun cdv A outer s H E Ed hr => ⟨_, (b_cons (s_if (t_cmp o_gt (d_callB c_len T.n_len bt_len (a_cons (d_var 1) a_nil)) (d_gint T.v_MOST_NAME_WORDS))
        (b_one (s_ret d_non))
        b_nil)
      (b_cons (s_if (t_bool (w_or (t_not (t_tru (d_callD tk_def C_is_word hr (by omega) (a_cons (d_var 0) a_nil)))) (w_or1 (t_not (t_tru (d_callB (c_all rfl) T.n_all bt_all (a_cons (d_lc (own := [("part", 2)]) false rfl sc_join_name.nd (i_seq' (d_var 1)) (blkOk_by (N := nm_join_name) (sc := defScope st_join_name) (by decide +kernel)) (fun _ _ _ _ _ => (g_name 2 sc_join_name.nd)) (fun _ _ _ _ _ => ts_nil) (fun _ _ _ _ _ => (d_callD takes0 C_is_word hr (by omega) (a_cons (d_var 2) a_nil)))) a_nil)))))))
        (b_one (s_ret d_non))
        b_nil)
      (b_cons (s_if (t_cmp o_eq (d_callB c_len T.n_len bt_len (a_cons (d_var 1) a_nil)) d_int)
        (b_one (s_ret (d_var 0)))
        b_nil)
      (b_one (s_ret (d_fstr (.cons (d_fmt (d_var 0)) (.cons d_str (.cons (d_fmt (d_bm PySem.F.plainAttrs_str PySem.F.slot_str_join PySem.F.type_str_join m_join d_str (a_cons (d_var 1) a_nil))) (.cons d_str .nil)))))))))), fun ds θ Q h => ?_⟩)
  · obtain ⟨w, x, ws, rfl, _⟩ := h; rfl
  · obtain ⟨w, x, ws, rfl, hx, hw, hn, hi, q⟩ := h
    have hW := SX.S_len w
    have eO : (Str.ofString "(") = SX.S [40] := by decide +kernel
    have eC : (Str.ofString ")") = SX.S [41] := by decide +kernel
    have eK : (Str.ofString ",") = SX.S [44] := by decide +kernel
    have hq : asQ θ x = some (ws.map fun p => .str (SX.S p)) := by rcases hx with rfl | rfl <;> rfl
    have ht : itms x = some (ws.map fun p => .str (SX.S p)) := by rcases hx with rfl | rfl <;> rfl
    have lenx : ∀ Q : DQ, Q (.int ws.length) θ → dLen [x] θ Q := fun Q q => by
      have : ((ws.map fun p => D.str (SX.S p)).length : Int) = ws.length := by rw [List.length_map]
      rw [← this] at q
      rcases hx with rfl | rfl <;> exact ⟨_, rfl, q⟩
    rw [show startD nm_join_name [D.str (SX.S w), x] = [some (D.str (SX.S w)), some x, none] from rfl]
    dsimp only [dNext, dSeq, dIf, dTst, dOp, dCB, dCons, dVar, dNil, getS]
    refine lenx _ ?_
    refine ite2 (fun e => ?_) (fun e => ?_)
    · have : joinD w ws = .non := if_neg fun z => by simp at e; omega
      rw [this] at q; exact q
    · have hl : ws.length ≤ 2 := by simp at e; omega
      have hall : ∀ Q : Bool → Th → Prop, Q (ws.all wordB) θ → dTru (dCB dAll (dCons (dLc false (dItE (dVar 1)) (gNm 2) dYes (dCall sp_is_word [] Ex0 (dCons (dVar 2) dNil)) [2]) dNil)) [some (D.str (SX.S w)), some x, none] θ Q := fun Q q => by
        refine ⟨_, ht, lc_map (fun x => match x with | .str s => .bl (wordB (TL.tl s)) | _ => .non) (by rw [List.length_map]; exact sz _ (Nat.le_trans hl (by decide))) (fun i x hx k hk => ?_) ?_⟩
        · have hm := List.mem_of_getElem? hx
          obtain ⟨p, hp, rfl⟩ := List.mem_map.mp hm
          exact ⟨p, rfl, by have := hi p hp; omega, hk⟩
        · have e1 : bools (List.map (fun x : D => match x with | .str s => .bl (wordB (TL.tl s)) | _ => .non) (ws.map fun p => D.str (SX.S p))) = some (ws.map wordB) := by
            rw [List.map_map]
            have : ((fun x : D => match x with | .str s => D.bl (wordB (TL.tl s)) | _ => .non) ∘ fun p => D.str (SX.S p)) = D.bl ∘ wordB := rfl
            rw [this, ← List.map_map]
            exact bools_map _
          refine ⟨_, _, rfl, e1, ?_⟩
          have e2 : (ws.map wordB).all id = ws.all wordB := by rw [List.all_map]; rfl
          rw [e2]
          exact q
      refine an_or (b1 := !wordB w) (b2 := !ws.all wordB) (an_not fun Q q => ⟨w, rfl, by omega, q⟩) (fun _ => an_not hall) _ ?_
      refine ite2 (fun e2 => ?_) (fun e2 => ?_)
      · have : joinD w ws = .non := if_neg fun z => by rw [z.2.1, z.2.2] at e2; exact absurd e2 (by decide)
        rw [this] at q; exact q
      · have e2 : wordB w = true ∧ ws.all wordB = true := by
          simp only [Bool.or_eq_true, Bool.not_eq_true', not_or, Bool.not_eq_false] at e2
          exact e2
        have eJ : joinD w ws = .str (SX.S (if ws = [] then w else nameL w ws)) := if_pos ⟨hl, e2.1, e2.2⟩
        rw [eJ] at q
        refine lenx _ ?_
        refine ⟨_, rfl, ?_⟩
        refine ite2 (fun e3 => ?_) (fun e3 => ?_)
        · have : ws = [] := by
            have : ws.length = 0 := by simpa using e3
            exact List.length_eq_zero_iff.mp this
          rw [if_pos this] at q; exact q
        · have hne : ws ≠ [] := by
            intro z; rw [z] at e3; exact e3 rfl
          rw [if_neg hne] at q
          have hs : (ws.map List.length).sum ≤ 20 := by
            have : ∀ l : List (List Nat), l.length ≤ 2 → l.all wordB = true → (l.map List.length).sum ≤ 10 * l.length := by
              intro l
              induction l with
              | nil => simp
              | cons a r ih =>
                intro h1 h2
                simp only [List.all_cons, Bool.and_eq_true, List.length_cons] at h1 h2
                have := ih (by omega) h2.2
                have := wordB_len h2.1
                simp; omega
            have := this ws hl e2.2
            omega
          have hjl : (TL.joinL [44] ws).length ≤ 30 := by
            have h := join_len (SX.S [44]) (ws.map SX.S)
            rw [SX.join_S, SX.S_len, SX.S_len, List.length_map, List.map_map] at h
            have e4 : (List.map ((fun x : Str => x.length) ∘ SX.S) ws) = ws.map List.length := List.map_congr_left fun p _ => SX.S_len p
            rw [e4] at h
            simp at h; omega
          have hwl := (wordB_len e2.1).2
          have e0 : Str.empty ++ SX.S w = SX.S w := by
            have : Str.empty = SX.S [] := by decide +kernel
            rw [this, SX.S_cat]; rfl
          refine ⟨sz _ (by omega), by rw [e0]; exact sz _ (by omega), ?_⟩
          rw [eO, eC, eK, e0]
          refine ⟨by rw [slen_app, SX.S_len, SX.S_len]; exact sz _ (by simp; omega), rfl, _, _, hq, txts_S ws, ?_, ?_⟩
          · rw [SX.S_len, List.map_map, List.length_map]
            have e4 : (List.map ((fun x : Str => x.length) ∘ SX.S) ws) = ws.map List.length := List.map_congr_left fun p _ => SX.S_len p
            rw [e4]
            simp; omega
          · rw [SX.join_S, SX.S_cat]
            refine ⟨by rw [SX.S_len]; exact sz _ (by omega), by rw [SX.S_cat, SX.S_len, List.length_append, List.length_append]; exact sz _ (by simp; omega), ?_⟩
            rw [SX.S_cat]
            refine ⟨by rw [SX.S_cat, SX.S_len, List.length_append, List.length_append, List.length_append]; exact sz _ (by simp; omega), ?_⟩
            rw [SX.S_cat]
            have : (w ++ [40] ++ TL.joinL [44] ws) ++ [41] = nameL w ws := by unfold nameL; simp
            rw [this]
            exact q
/-! #### law_mix -/
theorem ok_law_mix {f : Addr} {fd : FuncData} (F : Fun K "_law_mix" "_law_mix" st_law_mix f fd) (T : Txt mg)  : FnD P w K mg base 1 f fd ["number", "turn"] sp_law_mix := by
  refine fn_d (k := 0) F sc_law_mix (fun ds θ Q E h => ?_) (fun cdv A outer s H E Ed hr => ⟨_, (b_cons (s_set (i := 2) sc_law_mix.nd (d_op o_mod (d_op (o_add (c := false)) (d_op (o_add (c := false)) (d_op (o_mul (c := false)) (d_callTy c_int T.n_int bt_int (a_cons (d_var 0) a_nil)) d_int) (d_op (o_mul (c := false)) (d_var 1) d_int)) d_int) d_int))
      (b_cons (s_set (i := 3) sc_law_mix.nd (d_op o_mod (d_op (o_add (c := false)) (d_op o_fdiv (d_var 2) d_int) (d_op (o_mul (c := false)) (d_op o_mod (d_var 2) d_int) d_int)) d_int))
      (b_one (s_ret (d_op o_mod (d_op (o_add (c := false)) (d_op (o_add (c := false)) (d_op (o_mul (c := false)) (d_var 3) d_int) (d_var 1)) d_int) d_int))))), fun ds θ Q h => ?_⟩)
  · obtain ⟨n, t, rfl, _⟩ := h; rfl
  · obtain ⟨n, t, rfl, q⟩ := h
    refine ⟨.inl (.inr ⟨by decide, by decide⟩), ?_⟩
    refine ⟨.inl (.inr ⟨by decide, by decide⟩), ?_⟩
    refine ⟨by decide, ?_⟩
    refine ⟨by decide, by decide, ?_⟩
    refine ⟨by decide, ?_⟩
    refine ⟨.inl (.inr ⟨by decide, by decide⟩), ?_⟩
    refine ⟨by decide, ?_⟩
    refine ⟨.inl (.inr ⟨by decide, by decide⟩), ?_⟩
    refine ⟨by decide, ?_⟩
    exact q _
/-! #### law_store -/
theorem ok_law_store {f : Addr} {fd : FuncData} (F : Fun K "_law_store" "_law_store" st_law_store f fd) (T : Txt mg)  : FnD P w K mg base 1 f fd ["script"] sp_law_store := by
  refine fn_d (k := 0) F sc_law_store (fun ds θ Q E h => ?_) (fun cdv A outer s H E Ed hr => ⟨_, (b_cons (s_set (i := 1) sc_law_store.nd (d_lst true a_nil))
      (b_cons (s_for po_def rfl (i_seq' (d_slice (s_seq (cc := false)) (d_var 0) p_none (p_some d_int))) (g_name 2 sc_law_store.nd)
        (b_cons (s_set (i := 3) sc_law_store.nd (d_op o_mod (d_callB c_abs T.n_abs bt_abs (a_cons (d_callTy c_int T.n_int bt_int (a_cons (d_var 2) a_nil)) a_nil)) (d_op o_pow (d_op o_pow d_int d_int) d_int)))
        (b_one (s_if (t_cmp o_ge (d_var 3) (d_op o_pow d_int d_int))
          (b_one (s_expr (d_bm PySem.F.plainAttrs_list PySem.F.slot_list_append PySem.F.type_list_append m_append (d_var 1) (a_cons (d_var 3) a_nil))))
          (b_one (s_expr (d_bm PySem.F.plainAttrs_list PySem.F.slot_list_append PySem.F.type_list_append m_append (d_var 1) (a_cons (d_op o_sub (d_op o_sub (d_un o_neg d_int) (d_op (o_mul (c := false)) d_int (d_var 3))) (d_callTy c_int T.n_int bt_int (a_cons (d_cmp o_lt (d_var 2) d_int) a_nil))) a_nil))))))))
      (b_frz 1 (b_one (s_ret (d_asP StoreOk (d_lst true (a_cons (d_var 1) (a_cons d_int (a_cons d_int (a_cons d_int (a_cons d_int (a_cons d_int a_nil))))))))))))), fun ds θ Q h => ?_⟩)
  · obtain ⟨ns, rfl, _⟩ := h; rfl
  · obtain ⟨ns, rfl, hl, q⟩ := h
    refine ⟨by decide, fun a ha => ?_⟩
    refine ⟨_, rfl, _, rfl, ?_⟩
    refine ⟨fun i ρ θ' => ∃ (v2 v3 : Option D) (cs : List Int), ρ = [some (.rol (ns.map D.int)), some (.ref a), v2, v3] ∧ θ' = ups θ a (.lst (cs.map D.int)) ∧ cs.length ≤ i, ⟨none, none, [], rfl, rfl, Nat.le_refl _⟩, fun i x ρ' θ' hx hP => ?_, fun ρ' θ' hP => ?_⟩
    · obtain ⟨v2, v3, cs, rfl, rfl, hc⟩ := hP
      have hi : i < 64 := by
        have := (List.getElem?_eq_some_iff.mp hx).1
        have h2 : (DL.cutD (ns.map D.int) none (some 63)).length ≤ (ns.map D.int).length := by
          unfold DL.cutD; rw [List.length_take, List.length_drop]; omega
        rw [List.length_map] at h2
        omega
      obtain ⟨n, rfl⟩ : ∃ n, x = D.int n := by
        have hm := List.mem_of_getElem? hx
        unfold DL.cutD at hm
        have hm := List.mem_of_mem_drop (List.mem_of_mem_take hm)
        obtain ⟨n, _, e⟩ := List.mem_map.mp hm
        exact ⟨n, e.symm⟩
      have hz : (cs.map D.int).length < sizeLine := by rw [List.length_map]; exact Nat.lt_of_le_of_lt (by omega : cs.length ≤ 64) (by decide)
      refine ⟨by decide, by decide +kernel, by decide, by decide +kernel, by decide +kernel, ?_⟩
      refine ⟨by decide, by decide +kernel, ?_⟩
      refine ite2 (fun e => ?_) (fun e => ?_)
      · refine ⟨⟨rfl, _, asL_ref ups_same⟩, _, ups_same, hz, ?_⟩
        rw [ups_ups]
        exact ⟨some (.int n), _, _, rfl, snoc_int, by rw [List.length_append, List.length_singleton]; omega⟩
      · refine ⟨⟨rfl, _, asL_ref ups_same⟩, .inl (.inl ⟨by decide, by decide⟩), _, ups_same, hz, ?_⟩
        rw [ups_ups]
        exact ⟨some (.int n), _, _, rfl, snoc_int, by rw [List.length_append, List.length_singleton]; omega⟩
    · obtain ⟨v2, v3, cs, rfl, rfl, hc⟩ := hP
      refine ⟨_, ups_same, ?_⟩
      refine ⟨(by show 6 ≤ sizeLine; decide), fun b hb => ⟨_, ups_same, ⟨cs, 0, 0, 0, 7, 0, rfl, Int.le_refl _⟩, ?_⟩⟩
      rw [ers_ups ha] at hb ⊢
      rw [ups_ups]
      exact q b hb
/-! #### law_take -/
theorem ok_law_take {f : Addr} {fd : FuncData} (F : Fun K "_law_take" "_law_take" st_law_take f fd) (T : Txt mg) (C_law_mix : Df P w K mg base "_law_mix" 1 ["number", "turn"] sp_law_mix) : FnD P w K mg base 2 f fd ["store", "many"] sp_law_take := by
  refine fn_d (k := 1) F sc_law_take (fun ds θ Q E h => ?_) (fun cdv A outer s H E Ed hr => ⟨_, (b_open 0 (b_cons (s_set (i := 1) sc_law_take.nd (d_callB (c_max rfl) T.n_max bt_max (a_cons d_int (a_cons (d_callTy c_int T.n_int bt_int (a_cons (d_var 1) a_nil)) a_nil))))
      (b_cons (s_asg (d_op (o_add (c := false)) (d_ix i_seq (d_var 0) d_int) d_int) (g_sub (d_var 0) d_int o_setL))
      (b_cons (s_cut (s_if (t_bool (w_and (t_cmp o_eq (d_ix i_seq (d_var 0) d_int) d_int) (w_and (t_cmp o_eq (d_ix i_seq (d_var 0) d_int) d_int) (w_and1 (t_cmp o_lt (d_ix i_seq (d_var 0) d_int) (d_callB c_len T.n_len bt_len (a_cons (d_ix i_seq (d_var 0) d_int) a_nil)))))))
        (b_cons (s_set (i := 2) sc_law_take.nd (d_ix i_seq (d_ix i_seq (d_var 0) d_int) (d_ix i_seq (d_var 0) d_int)))
        (b_cons (s_asg (d_op (o_add (c := false)) (d_ix i_seq (d_var 0) d_int) d_int) (g_sub (d_var 0) d_int o_setL))
        (b_cons (s_asg (d_callD tk_def C_law_mix hr (by omega) (a_cons (d_op (o_add (c := false)) (d_ix i_seq (d_var 0) d_int) (d_op o_mod (d_var 2) d_int)) (a_cons (d_ix i_seq (d_var 0) d_int) a_nil))) (g_sub (d_var 0) d_int o_setL))
        (b_one (s_if (t_cmp o_ge (d_var 2) d_int)
          (b_one (s_asg (d_var 2) (g_sub (d_var 0) d_int o_setL)))
          (b_one (s_asg d_int (g_sub (d_var 0) d_int o_setL))))))))
        b_nil))
      (b_cons (s_if (t_cmp o_gt (d_ix i_seq (d_var 0) d_int) d_int)
        (b_cons (s_set (i := 3) sc_law_take.nd (d_op o_mod (d_callTy c_int T.n_int bt_int (a_cons (d_ix i_seq (d_var 0) d_int) a_nil)) (d_var 1)))
        (b_cons (s_asg (d_op o_fdiv (d_callTy c_int T.n_int bt_int (a_cons (d_ix i_seq (d_var 0) d_int) a_nil)) (d_var 1)) (g_sub (d_var 0) d_int o_setL))
        (b_one (s_ret (d_close 0 StoreOk (d_var 3))))))
        b_nil)
      (b_cons (s_cut (s_if (t_cmp o_gt (d_ix i_seq (d_var 0) d_int) d_int)
        (b_one (s_asg (d_op o_sub (d_ix i_seq (d_var 0) d_int) d_int) (g_sub (d_var 0) d_int o_setL)))
        b_nil))
      (b_cons (s_asg (d_callD tk_def C_law_mix hr (by omega) (a_cons (d_ix i_seq (d_var 0) d_int) (a_cons (d_ix i_seq (d_var 0) d_int) a_nil))) (g_sub (d_var 0) d_int o_setL))
      (b_one (s_ret (d_close 0 StoreOk (d_op o_mod (d_callTy c_int T.n_int bt_int (a_cons (d_ix i_seq (d_var 0) d_int) a_nil)) (d_var 1)))))))))))), fun ds θ Q h => ?_⟩)
  · obtain ⟨a, m, rfl, _⟩ := h; rfl
  · obtain ⟨a, m, rfl, hS, hm, q⟩ := h
    refine ⟨_, hS, fun ds hP => ?_⟩
    have fin : ∀ (n : Int) ds', StoreOk ds' → 0 < max 1 m → Q (.int (n % (if m > 1 then m else 1))) (ups (ups θ a (.lst ds')) a (.lstP StoreOk)) := fun n ds' _ _ => by
      rw [ups_ups, ups_self hS]
      have e : (if m > 1 then m else 1) = max 1 m := by
        rw [Int.max_def]; split <;> split <;> omega
      rw [e]
      exact q _ (Int.emod_nonneg _ (by omega)) (Int.emod_lt_of_pos _ (by omega))
    have hm0 : 0 < (if m > 1 then m else 1) := by split <;> omega
    have hmb : (if m > 1 then m else 1 : Int).natAbs < 2 ^ 9000 := by
      refine Nat.lt_of_le_of_lt (m := m.natAbs + 1) (by split <;> omega) ?_
      refine Nat.lt_of_le_of_lt (Nat.succ_le_of_lt hm) ?_
      exact Nat.pow_lt_pow_right (by decide) (by decide)
    obtain ⟨cells, i, x2, x3, x4, x5, rfl, hi⟩ := hP
    refine ⟨_, _, asQ_ref ups_same, rfl, _, ups_same, 5, rfl, ?_⟩
    rw [ups_ups]
    refine ⟨fun ρ θ' => ∃ (y1 y2 y3 y4 : Int) (v2 v3 : Option D), ρ = [some (.ref a), some (.int (if m > 1 then m else 1)), v2, v3] ∧ θ' = ups θ a (.lst [.lst (cells.map D.int), .int y1, .int y2, .int y3, .int y4, .int (x5 + 1)]) ∧ 0 ≤ y1, ?_, fun ρ' θ' hP => ?_⟩
    · refine d_test (b := decide (x2 = 0) && (decide (x3 = 0) && decide (i < (cells.map D.int).length))) (an_and (fun Q q => ⟨_, _, asQ_ref ups_same, rfl, _, rfl, q⟩) fun _ => an_and (fun Q q => ⟨_, _, asQ_ref ups_same, rfl, _, rfl, q⟩) fun _ Q q => ⟨_, _, asQ_ref ups_same, rfl, _, _, asQ_ref ups_same, rfl, _, rfl, q⟩) ?_
      refine ite2 (fun e => ?_) (fun e => ?_)
      · simp only [Bool.and_eq_true, decide_eq_true_eq, List.length_map] at e
        obtain ⟨n, hn⟩ : ∃ n, cells[i.toNat]? = some n := ⟨cells[i.toNat]'(by omega), List.getElem?_eq_getElem _⟩
        have ha : atI (cells.map D.int) i = some (.int n) := by
          unfold atI ixN
          rw [if_pos hi, List.length_map, if_pos e.2.2]
          show (cells.map D.int)[i.toNat]? = _
          rw [List.getElem?_map, hn]; rfl
        refine ⟨_, _, asQ_ref ups_same, rfl, _, _, asQ_ref ups_same, rfl, _, _, rfl, ha, ?_⟩
        refine ⟨_, _, asQ_ref ups_same, rfl, _, ups_same, 1, rfl, ?_⟩
        rw [ups_ups]
        refine ⟨_, _, asQ_ref ups_same, rfl, by decide, _, _, asQ_ref ups_same, rfl, _, _, rfl, fun r => ?_⟩
        refine ⟨_, ups_same, 4, rfl, ?_⟩
        rw [ups_ups]
        refine ite2 (fun e2 => ?_) (fun e2 => ?_)
        · refine ⟨_, ups_same, 2, rfl, ?_⟩
          rw [ups_ups]
          exact ⟨_, _, _, _, _, _, rfl, rfl, by omega⟩
        · refine ⟨_, ups_same, 3, rfl, ?_⟩
          rw [ups_ups]
          exact ⟨_, _, _, _, _, _, rfl, rfl, by omega⟩
      · exact ⟨_, _, _, _, _, _, rfl, rfl, hi⟩
    · obtain ⟨y1, y2, y3, y4, v2, v3, rfl, rfl, h1⟩ := hP
      refine ⟨_, _, asQ_ref ups_same, rfl, ?_⟩
      refine ite2 (fun e => ?_) (fun e => ?_)
      · refine ⟨_, _, asQ_ref ups_same, rfl, hm0, ?_⟩
        refine ⟨_, _, asQ_ref ups_same, rfl, hm0, hmb, _, ups_same, 2, rfl, ?_⟩
        rw [ups_ups]
        exact ⟨_, ups_same, ⟨_, _, _, _, _, _, rfl, h1⟩, fin _ _ ⟨_, _, _, _, _, _, rfl, h1⟩ (by omega)⟩
      · refine ⟨fun ρ θ' => ∃ (y1 y2 y3 y4 : Int), ρ = [some (.ref a), some (.int (if m > 1 then m else 1)), v2, v3] ∧ θ' = ups θ a (.lst [.lst (cells.map D.int), .int y1, .int y2, .int y3, .int y4, .int (x5 + 1)]) ∧ 0 ≤ y1, ?_, fun ρ' θ' hP => ?_⟩
        · refine ⟨_, _, asQ_ref ups_same, rfl, ?_⟩
          refine ite2 (fun e => ?_) (fun e => ?_)
          · refine ⟨_, _, asQ_ref ups_same, rfl, _, ups_same, 3, rfl, ?_⟩
            rw [ups_ups]
            exact ⟨_, _, _, _, rfl, rfl, h1⟩
          · exact ⟨_, _, _, _, rfl, rfl, h1⟩
        · obtain ⟨z1, z2, z3, z4, rfl, rfl, h1⟩ := hP
          refine ⟨_, _, asQ_ref ups_same, rfl, _, _, asQ_ref ups_same, rfl, _, _, rfl, fun r => ?_⟩
          refine ⟨_, ups_same, 4, rfl, ?_⟩
          rw [ups_ups]
          refine ⟨_, _, asQ_ref ups_same, rfl, hm0, ?_⟩
          exact ⟨_, ups_same, ⟨_, _, _, _, _, _, rfl, h1⟩, fin _ _ ⟨_, _, _, _, _, _, rfl, h1⟩ (by omega)⟩
/-! #### law_between -/
theorem ok_law_between {f : Addr} {fd : FuncData} (F : Fun K "_law_between" "_law_between" st_law_between f fd) (T : Txt mg) (C_law_take : Df P w K mg base "_law_take" 2 ["store", "many"] sp_law_take) : FnD P w K mg base 3 f fd ["store", "low", "high"] sp_law_between := by
  refine fn_d (k := 2) F sc_law_between (fun ds θ Q E h => ?_) (fun cdv A outer s H E Ed hr => ⟨_, (b_one (s_ret (d_op (o_add (c := false)) (d_var 1) (d_callD tk_def C_law_take hr (by omega) (a_cons (d_var 0) (a_cons (d_op (o_add (c := false)) (d_op o_sub (d_var 2) (d_var 1)) d_int) a_nil)))))), fun ds θ Q h => ?_⟩)
  · obtain ⟨a, lo, hi, rfl, _⟩ := h; rfl
  · obtain ⟨a, lo, hi, rfl, hS, hb, q⟩ := h
    exact ⟨a, _, rfl, hS, hb, fun k h0 h1 => q _ (by omega) (by omega)⟩
/-! #### law_one_in -/
theorem ok_law_one_in {f : Addr} {fd : FuncData} (F : Fun K "_law_one_in" "_law_one_in" st_law_one_in f fd) (T : Txt mg) (C_law_take : Df P w K mg base "_law_take" 2 ["store", "many"] sp_law_take) : FnD P w K mg base 3 f fd ["store", "many"] sp_law_one_in := by
  refine fn_d (k := 2) F sc_law_one_in (fun ds θ Q E h => ?_) (fun cdv A outer s H E Ed hr => ⟨_, (b_one (s_ret (d_cmp o_eq (d_callD tk_def C_law_take hr (by omega) (a_cons (d_var 0) (a_cons (d_var 1) a_nil))) d_int))), fun ds θ Q h => ?_⟩)
  · obtain ⟨a, m, rfl, _⟩ := h; rfl
  · obtain ⟨a, m, rfl, hS, hb, q⟩ := h
    exact ⟨a, _, rfl, hS, hb, fun k h0 h1 => ⟨_, rfl, q _⟩⟩
/-! #### law_pick -/
theorem ok_law_pick {f : Addr} {fd : FuncData} (F : Fun K "_law_pick" "_law_pick" st_law_pick f fd) (T : Txt mg) (C_law_take : Df P w K mg base "_law_take" 2 ["store", "many"] sp_law_take) : FnD P w K mg base 3 f fd ["store", "items"] sp_law_pick := by
  refine fn_d (k := 2) F sc_law_pick (fun ds θ Q E h => ?_) (fun cdv A outer s H E Ed hr => ⟨_, (b_one (s_ret (d_ix i_seq (d_var 1) (d_callD tk_def C_law_take hr (by omega) (a_cons (d_var 0) (a_cons (d_callB c_len T.n_len bt_len (a_cons (d_var 1) a_nil)) a_nil)))))), fun ds θ Q h => ?_⟩)
  · obtain ⟨a, x, xs, rfl, _⟩ := h; rfl
  · obtain ⟨a, x, xs, rfl, hS, hx, hp, hm, q⟩ := h
    refine (show dLen [x] θ (fun n θ1 => sp_law_take [.ref a, n] θ1 (fun k θ2 => dIx x k θ2 Q) Ed) from len_items hx ?_)
    refine ⟨a, _, rfl, hS, ?_, fun k h0 h1 => ix_items hx h0 (by omega) q⟩
    refine Nat.lt_of_le_of_lt (m := 16777216) (by omega) ?_
    exact Nat.lt_of_lt_of_le (by decide : 16777216 < 2 ^ 30) (Nat.pow_le_pow_right (by decide) (by decide))
/-! #### law_word -/
theorem ok_law_word {f : Addr} {fd : FuncData} (F : Fun K "_law_word" "_law_word" st_law_word f fd) (T : Txt mg) (C_law_pick : Df P w K mg base "_law_pick" 3 ["store", "items"] sp_law_pick) (C_law_one_in : Df P w K mg base "_law_one_in" 3 ["store", "many"] sp_law_one_in) (C_law_between : Df P w K mg base "_law_between" 3 ["store", "low", "high"] sp_law_between) (C_law_take : Df P w K mg base "_law_take" 2 ["store", "many"] sp_law_take) : FnD P w K mg base 4 f fd ["store"] sp_law_word := by
  refine fn_d (k := 3) F sc_law_word (fun ds θ Q E h => ?_) (fun cdv A outer s H E Ed hr => ⟨_, (b_cons (s_set (i := 1) sc_law_word.nd (d_callD tk_def C_law_take hr (by omega) (a_cons (d_var 0) (a_cons d_int a_nil))))
      (b_cons (s_if (t_cmp o_lt (d_var 1) d_int)
        (b_one (s_ret (d_callD tk_def C_law_pick hr (by omega) (a_cons (d_var 0) (a_cons (d_tup (a_cons d_str (a_cons d_str (a_cons d_str (a_cons d_str (a_cons d_str (a_cons d_str (a_cons d_str (a_cons d_str (a_cons d_str (a_cons d_str (a_cons d_str (a_cons d_str (a_cons d_str (a_cons d_str (a_cons d_str (a_cons d_str (a_cons d_str (a_cons d_str (a_cons d_str (a_cons d_str (a_cons d_str (a_cons d_str (a_cons d_str (a_cons d_str (a_cons d_str (a_cons d_str (a_cons d_str (a_cons d_str (a_cons d_str (a_cons d_str (a_cons d_str (a_cons d_str (a_cons d_str (a_cons d_str (a_cons d_str (a_cons d_str (a_cons d_str (a_cons d_str (a_cons d_str (a_cons d_str a_nil))))))))))))))))))))))))))))))))))))))))) a_nil)))))
        b_nil)
      (b_cons (s_set (i := 2) sc_law_word.nd d_str)
      (b_cons (s_set (i := 3) sc_law_word.nd (d_callD tk_def C_law_between hr (by omega) (a_cons (d_var 0) (a_cons d_int (a_cons d_int a_nil)))))
      (b_cons (s_cut (s_if (t_cmp o_eq (d_var 1) d_int)
        (b_one (s_set (i := 3) sc_law_word.nd d_int))
        b_nil))
      (b_cons (s_cut (s_if (t_cmp o_eq (d_var 1) d_int)
        (b_one (s_set (i := 3) sc_law_word.nd d_int))
        b_nil))
      (b_cons (s_if (t_tru (d_callD tk_def C_law_one_in hr (by omega) (a_cons (d_var 0) (a_cons d_int a_nil))))
        (b_one (s_ret (d_op (o_mul (c := false)) (d_callD tk_def C_law_pick hr (by omega) (a_cons (d_var 0) (a_cons (d_var 2) a_nil))) (d_var 3))))
        b_nil)
      (b_one (s_ret (d_bm PySem.F.plainAttrs_str PySem.F.slot_str_join PySem.F.type_str_join m_join d_str (a_cons (d_lc (own := [("k", 4)]) false rfl sc_law_word.nd (i_rng1 T.n_range (a_cons (d_var 3) a_nil)) (blkOk_by (N := nm_law_word) (sc := defScope st_law_word) (by decide +kernel)) (fun _ _ _ _ _ => (g_name 4 sc_law_word.nd)) (fun _ _ _ _ _ => ts_nil) (fun _ _ _ _ _ => (d_callD takes0 C_law_pick hr (by omega) (a_cons (d_var 0) (a_cons (d_var 2) a_nil))))) a_nil))))))))))), fun ds θ Q h => ?_⟩)
  · obtain ⟨a, rfl, _⟩ := h; rfl
  · obtain ⟨a, rfl, hS, q⟩ := h
    refine ⟨a, _, rfl, hS, pow900 (by decide), fun form f0 f1 => ?_⟩
    refine ite2 (fun e => ?_) (fun e => ?_)
    · refine ⟨by decide, a, _, _, rfl, hS, rfl, by decide, by decide, fun d hd => q d (all_txo (by decide +kernel) d hd)⟩
    · refine ⟨a, _, _, rfl, hS, pow900 (by decide), fun size s0 s1 => ?_⟩
      have s1 : size ≤ 10 := by omega
      refine ⟨fun ρ θ' => ∃ (y : Int) (v : Option D), ρ = [some (.ref a), some (.int form), some (.str "abcdefghijklmnopqrstuvwxyz"), some (.int y), v] ∧ θ' = θ ∧ 1 ≤ y ∧ y ≤ 10, ?_, fun ρ' θ' hP => ?_⟩
      · refine ⟨_, rfl, ite2 (fun e => ⟨10, _, rfl, rfl, by omega, by omega⟩) (fun e => ⟨size, _, rfl, rfl, by omega, by omega⟩)⟩
      · obtain ⟨y, v, rfl, rfl, y0, y1⟩ := hP
        refine ⟨fun ρ θ'' => ∃ (y : Int) (v : Option D), ρ = [some (.ref a), some (.int form), some (.str "abcdefghijklmnopqrstuvwxyz"), some (.int y), v] ∧ θ'' = θ' ∧ 1 ≤ y ∧ y ≤ 10, ?_, fun ρ' θ'' hP => ?_⟩
        · refine ⟨_, rfl, ite2 (fun e => ⟨1, _, rfl, rfl, by omega, by omega⟩) (fun e => ⟨y, _, rfl, rfl, by omega, by omega⟩)⟩
        · obtain ⟨y, v, rfl, rfl, y0, y1⟩ := hP
          have hL := items_str (θ := θ'') (z := "abcdefghijklmnopqrstuvwxyz") (by decide +kernel)
          refine ⟨a, _, rfl, hS, pow900 (by decide), fun b => ite2 (fun e => ?_) (fun e => ?_)⟩
          · refine ⟨a, _, _, rfl, hS, hL, by decide +kernel, by decide +kernel, fun d hd => ?_⟩
            obtain ⟨z, rfl, hz, hcp⟩ := str_txo (by decide +kernel) d hd
            have hk : z.length * y.toNat ≤ 10 := Nat.le_trans (Nat.mul_le_mul hz (by omega : y.toNat ≤ 10)) (by decide)
            refine ⟨by omega, by omega, sz _ (by omega), q _ ⟨_, rfl, by rw [repS_len]; exact hk, cp_rep hcp _⟩⟩
          · refine ⟨rfl, by omega, by omega, lc_draw (TxO 1) (by rw [rngD_len]; exact sz _ (by omega)) (fun i x hx k hk => ?_) (fun acc hl ha => ?_)⟩
            · exact ⟨a, _, _, rfl, hS, hL, by decide +kernel, by decide +kernel, fun d hd => hk d (str_txo (by decide +kernel) d hd)⟩
            · rw [rngD_len] at hl
              obtain ⟨zs, e1, e2, e3, e4⟩ := txos_of ha
              refine ⟨acc, zs, rfl, e1, ?_, q _ ⟨_, rfl, Nat.le_trans (join_len _ _) ?_, cp_join (by decide +kernel) e4⟩⟩
              · show _ + zs.length * 0 ≤ _; omega
              · show _ + zs.length * 0 ≤ _; omega
/-! #### law_step_name -/
theorem ok_law_step_name {f : Addr} {fd : FuncData} (F : Fun K "_law_step_name" "_law_step_name" st_law_step_name f fd) (T : Txt mg) (C_law_word : Df P w K mg base "_law_word" 4 ["store"] sp_law_word) (C_law_pick : Df P w K mg base "_law_pick" 3 ["store", "items"] sp_law_pick) (C_law_take : Df P w K mg base "_law_take" 2 ["store", "many"] sp_law_take) : FnD P w K mg base 5 f fd ["store", "word"] sp_law_step_name := by
  refine fn_d (k := 4) F sc_law_step_name (fun ds θ Q E h => ?_) (fun cdv A outer s H E Ed hr => ⟨_, (b_cons (s_set (i := 2) sc_law_step_name.nd (d_callD tk_def C_law_take hr (by omega) (a_cons (d_var 0) (a_cons d_int a_nil))))
      (b_cons (s_if (t_cmp o_lt (d_var 2) d_int)
        (b_one (s_ret (d_var 1)))
        b_nil)
      (b_cons (s_if (t_cmp o_eq (d_var 2) d_int)
        (b_one (s_ret (d_op (o_add (c := false)) (d_op (o_add (c := false)) (d_op (o_add (c := false)) (d_var 1) d_str) (d_callD tk_def C_law_word hr (by omega) (a_cons (d_var 0) a_nil))) d_str)))
        b_nil)
      (b_cons (s_if (t_cmp o_eq (d_var 2) d_int)
        (b_one (s_ret (d_op (o_add (c := false)) (d_op (o_add (c := false)) (d_op (o_add (c := false)) (d_op (o_add (c := false)) (d_op (o_add (c := false)) (d_var 1) d_str) (d_callD tk_def C_law_pick hr (by omega) (a_cons (d_var 0) (a_cons (d_tup (a_cons d_str (a_cons d_str a_nil))) a_nil)))) d_str) (d_callD tk_def C_law_pick hr (by omega) (a_cons (d_var 0) (a_cons (d_tup (a_cons d_str (a_cons d_str a_nil))) a_nil)))) d_str)))
        b_nil)
      (b_one (s_ret (d_op (o_add (c := false)) (d_op (o_add (c := false)) (d_op (o_add (c := false)) (d_op (o_add (c := false)) (d_op (o_add (c := false)) (d_var 1) d_str) (d_callD tk_def C_law_word hr (by omega) (a_cons (d_var 0) a_nil))) d_str) (d_callD tk_def C_law_word hr (by omega) (a_cons (d_var 0) a_nil))) d_str))))))), fun ds θ Q h => ?_⟩)
  · obtain ⟨a, z, rfl, _⟩ := h; rfl
  · obtain ⟨a, z, rfl, hS, hz, q⟩ := h
    have hO : (Str.ofString "(").length = 1 := by decide +kernel
    have hC : (Str.ofString ")").length = 1 := by decide +kernel
    have hK : (Str.ofString ",").length = 1 := by decide +kernel
    refine ⟨a, _, rfl, hS, pow900 (by decide), fun form f0 f1 => ?_⟩
    refine ite2 (fun e => q _ ⟨_, rfl, by omega⟩) (fun e => ?_)
    refine ⟨_, rfl, ite2 (fun e => ?_) (fun e => ?_)⟩
    · refine ⟨by rw [hO]; exact sz _ (by omega), a, rfl, hS, fun d hd => ?_⟩
      obtain ⟨y, rfl, hy, _⟩ := hd
      refine ⟨by rw [slen_app, hO]; exact sz _ (by omega), by rw [slen_app, slen_app, hO, hC]; exact sz _ (by omega), q _ ⟨_, rfl, ?_⟩⟩
      rw [slen_app, slen_app, slen_app, hO, hC]; omega
    refine ⟨_, rfl, ite2 (fun e => ?_) (fun e => ?_)⟩
    · refine ⟨by rw [hO]; exact sz _ (by omega), by decide, a, _, _, rfl, hS, rfl, by decide, by decide, fun d hd => ?_⟩
      obtain ⟨y, rfl, hy⟩ := all_tx (n := 1) (by decide +kernel) d hd
      refine ⟨by rw [slen_app, hO]; exact sz _ (by omega), by rw [slen_app, slen_app, hO, hK]; exact sz _ (by omega), by decide, a, _, _, rfl, hS, rfl, by decide, by decide, fun d hd => ?_⟩
      obtain ⟨x, rfl, hx⟩ := all_tx (n := 1) (by decide +kernel) d hd
      refine ⟨by rw [slen_app, slen_app, slen_app, hO, hK]; exact sz _ (by omega), by rw [slen_app, slen_app, slen_app, slen_app, hO, hK, hC]; exact sz _ (by omega), q _ ⟨_, rfl, ?_⟩⟩
      rw [slen_app, slen_app, slen_app, slen_app, slen_app, hO, hK, hC]; omega
    · refine ⟨by rw [hO]; exact sz _ (by omega), a, rfl, hS, fun d hd => ?_⟩
      obtain ⟨y, rfl, hy, _⟩ := hd
      refine ⟨by rw [slen_app, hO]; exact sz _ (by omega), by rw [slen_app, slen_app, hO, hK]; exact sz _ (by omega), a, rfl, hS, fun d hd => ?_⟩
      obtain ⟨x, rfl, hx, _⟩ := hd
      refine ⟨by rw [slen_app, slen_app, slen_app, hO, hK]; exact sz _ (by omega), by rw [slen_app, slen_app, slen_app, slen_app, hO, hK, hC]; exact sz _ (by omega), q _ ⟨_, rfl, ?_⟩⟩
      rw [slen_app, slen_app, slen_app, slen_app, slen_app, hO, hK, hC]; omega
/-! #### law_no_word -/
theorem ok_law_no_word {f : Addr} {fd : FuncData} (F : Fun K "_law_no_word" "_law_no_word" st_law_no_word f fd) (T : Txt mg) (C_law_pick : Df P w K mg base "_law_pick" 3 ["store", "items"] sp_law_pick) (C_law_bent_text : Df P w K mg base "_law_bent_text" 4 ["store", "word"] sp_law_bent_text) (C_law_word : Df P w K mg base "_law_word" 4 ["store"] sp_law_word) (C_law_take : Df P w K mg base "_law_take" 2 ["store", "many"] sp_law_take) : FnD P w K mg base 5 f fd ["store"] sp_law_no_word := by
  refine fn_d (k := 4) F sc_law_no_word (fun ds θ Q E h => ?_) (fun cdv A outer s H E Ed hr => ⟨_, (b_cons (s_set (i := 1) sc_law_no_word.nd (d_callD tk_def C_law_take hr (by omega) (a_cons (d_var 0) (a_cons d_int a_nil))))
      (b_cons (s_if (t_cmp o_eq (d_var 1) d_int)
        (b_one (s_ret (d_callD tk_def C_law_bent_text hr (by omega) (a_cons (d_var 0) (a_cons (d_callD tk_def C_law_word hr (by omega) (a_cons (d_var 0) a_nil)) a_nil)))))
        b_nil)
      (b_one (s_ret (d_callD tk_def C_law_pick hr (by omega) (a_cons (d_var 0) (a_cons (d_tup (a_cons d_str (a_cons d_str (a_cons d_str (a_cons d_str (a_cons d_str (a_cons d_str (a_cons d_str (a_cons d_str (a_cons d_str (a_cons d_str (a_cons d_str (a_cons d_str (a_cons d_str (a_cons d_str (a_cons d_str (a_cons d_str (a_cons d_str (a_cons d_str (a_cons d_str (a_cons d_str (a_cons d_str (a_cons d_str a_nil))))))))))))))))))))))) a_nil))))))), fun ds θ Q h => ?_⟩)
  · obtain ⟨a, rfl, _⟩ := h; rfl
  · obtain ⟨a, rfl, hS, q⟩ := h
    refine ⟨a, _, rfl, hS, pow900 (by decide), fun form f0 f1 => ?_⟩
    refine ⟨_, rfl, ite2 (fun e => ?_) (fun e => ?_)⟩
    · refine ⟨a, rfl, hS, fun d hd => ?_⟩
      obtain ⟨y, rfl, hy, hyc⟩ := hd
      exact ⟨a, _, rfl, hS, by omega, hyc, fun d hd => q d (hd.mono (by omega))⟩
    · exact ⟨by decide, a, _, _, rfl, hS, rfl, by decide, by decide, fun d hd => q d ((all_txo (n := 20) (by decide +kernel) d hd).mono (by decide))⟩
/-! #### law_no_step_name -/
theorem ok_law_no_step_name {f : Addr} {fd : FuncData} (F : Fun K "_law_no_step_name" "_law_no_step_name" st_law_no_step_name f fd) (T : Txt mg) (C_law_pick : Df P w K mg base "_law_pick" 3 ["store", "items"] sp_law_pick) (C_law_word : Df P w K mg base "_law_word" 4 ["store"] sp_law_word) (C_law_bent_text : Df P w K mg base "_law_bent_text" 4 ["store", "word"] sp_law_bent_text) (C_law_take : Df P w K mg base "_law_take" 2 ["store", "many"] sp_law_take) : FnD P w K mg base 5 f fd ["store"] sp_law_no_step_name := by
  refine fn_d (k := 4) F sc_law_no_step_name (fun ds θ Q E h => ?_) (fun cdv A outer s H E Ed hr => ⟨_, (b_cons (s_set (i := 1) sc_law_no_step_name.nd (d_callD tk_def C_law_take hr (by omega) (a_cons (d_var 0) (a_cons d_int a_nil))))
      (b_cons (s_if (t_cmp o_eq (d_var 1) d_int)
        (b_one (s_ret (d_op (o_add (c := false)) (d_callD tk_def C_law_bent_text hr (by omega) (a_cons (d_var 0) (a_cons (d_callD tk_def C_law_word hr (by omega) (a_cons (d_var 0) a_nil)) a_nil))) (d_callD tk_def C_law_pick hr (by omega) (a_cons (d_var 0) (a_cons (d_tup (a_cons d_str (a_cons d_str (a_cons d_str a_nil)))) a_nil))))))
        b_nil)
      (b_cons (s_if (t_cmp o_eq (d_var 1) d_int)
        (b_one (s_ret (d_op (o_add (c := false)) (d_callD tk_def C_law_word hr (by omega) (a_cons (d_var 0) a_nil)) (d_callD tk_def C_law_pick hr (by omega) (a_cons (d_var 0) (a_cons (d_tup (a_cons d_str (a_cons d_str (a_cons d_str (a_cons d_str (a_cons d_str (a_cons d_str (a_cons d_str (a_cons d_str (a_cons d_str (a_cons d_str (a_cons d_str (a_cons d_str a_nil))))))))))))) a_nil))))))
        b_nil)
      (b_one (s_ret (d_callD tk_def C_law_pick hr (by omega) (a_cons (d_var 0) (a_cons (d_tup (a_cons d_str (a_cons d_str (a_cons d_str (a_cons d_str (a_cons d_str (a_cons d_str (a_cons d_str (a_cons d_str (a_cons d_str (a_cons d_str (a_cons d_str (a_cons d_str (a_cons d_str (a_cons d_str (a_cons d_str (a_cons d_str (a_cons d_str (a_cons d_str (a_cons d_str (a_cons d_str (a_cons d_str (a_cons d_str (a_cons d_str (a_cons d_str (a_cons d_str (a_cons d_str (a_cons d_str a_nil)))))))))))))))))))))))))))) a_nil)))))))), fun ds θ Q h => ?_⟩)
  · obtain ⟨a, rfl, _⟩ := h; rfl
  · obtain ⟨a, rfl, hS, q⟩ := h
    refine ⟨a, _, rfl, hS, pow900 (by decide), fun form f0 f1 => ?_⟩
    refine ⟨_, rfl, ite2 (fun e => ?_) (fun e => ?_)⟩
    · refine ⟨a, rfl, hS, fun d hd => ?_⟩
      obtain ⟨y, rfl, hy, hyc⟩ := hd
      refine ⟨a, _, rfl, hS, by omega, hyc, fun d hd => ?_⟩
      obtain ⟨x, rfl, hx, _⟩ := hd
      refine ⟨by decide, a, _, _, rfl, hS, rfl, by decide, by decide, fun d hd => ?_⟩
      obtain ⟨u, rfl, hu⟩ := all_tx (n := 5) (by decide +kernel) d hd
      refine ⟨sz _ (by omega), q _ ⟨_, rfl, ?_⟩⟩
      rw [slen_app]; omega
    refine ⟨_, rfl, ite2 (fun e => ?_) (fun e => ?_)⟩
    · refine ⟨a, rfl, hS, fun d hd => ?_⟩
      obtain ⟨y, rfl, hy, _⟩ := hd
      refine ⟨by decide, a, _, _, rfl, hS, rfl, by decide, by decide, fun d hd => ?_⟩
      obtain ⟨u, rfl, hu⟩ := all_tx (n := 10) (by decide +kernel) d hd
      refine ⟨sz _ (by omega), q _ ⟨_, rfl, ?_⟩⟩
      rw [slen_app]; omega
    · exact ⟨by decide, a, _, _, rfl, hS, rfl, by decide, by decide, fun d hd => q d ((all_tx (n := 40) (by decide +kernel) d hd).mono (by decide))⟩
/-! #### law_bent_text -/
theorem ok_law_bent_text {f : Addr} {fd : FuncData} (F : Fun K "_law_bent_text" "_law_bent_text" st_law_bent_text f fd) (T : Txt mg) (C_law_one_in : Df P w K mg base "_law_one_in" 3 ["store", "many"] sp_law_one_in) (C_law_pick : Df P w K mg base "_law_pick" 3 ["store", "items"] sp_law_pick) (C_law_take : Df P w K mg base "_law_take" 2 ["store", "many"] sp_law_take) : FnD P w K mg base 4 f fd ["store", "word"] sp_law_bent_text := by
  refine fn_d (k := 3) F sc_law_bent_text (fun ds θ Q E h => ?_) (fun cdv A outer s H E Ed hr => ⟨_, (b_cons (s_set (i := 2) sc_law_bent_text.nd (d_callD tk_def C_law_take hr (by omega) (a_cons (d_var 0) (a_cons (d_op (o_add (c := false)) (d_callB c_len T.n_len bt_len (a_cons (d_var 1) a_nil)) d_int) a_nil))))
      (b_cons (s_set (i := 3) sc_law_bent_text.nd (d_callD tk_def C_law_pick hr (by omega) (a_cons (d_var 0) (a_cons d_str a_nil))))
      (b_cons (s_if (t_bool (w_and (t_cmp o_lt (d_var 2) (d_callB c_len T.n_len bt_len (a_cons (d_var 1) a_nil))) (w_and1 (t_tru (d_callD tk_def C_law_one_in hr (by omega) (a_cons (d_var 0) (a_cons d_int a_nil)))))))
        (b_one (s_ret (d_op (o_add (c := false)) (d_op (o_add (c := false)) (d_slice (s_seq (cc := false)) (d_var 1) p_none (p_some (d_var 2))) (d_var 3)) (d_slice (s_seq (cc := false)) (d_var 1) (p_some (d_op (o_add (c := false)) (d_var 2) d_int)) p_none))))
        b_nil)
      (b_one (s_ret (d_op (o_add (c := false)) (d_op (o_add (c := false)) (d_slice (s_seq (cc := false)) (d_var 1) p_none (p_some (d_var 2))) (d_var 3)) (d_slice (s_seq (cc := false)) (d_var 1) (p_some (d_var 2)) p_none))))))), fun ds θ Q h => ?_⟩)
  · obtain ⟨a, z, rfl, _⟩ := h; rfl
  · obtain ⟨a, z, rfl, hS, hz, hc, q⟩ := h
    refine ⟨sz _ (by omega), a, _, rfl, hS, pow900 (Nat.lt_of_le_of_lt (m := 2000) (by omega) (by decide)), fun p p0 p1 => ?_⟩
    refine ⟨a, _, _, rfl, hS, items_str (by decide +kernel), by decide +kernel, by decide +kernel, fun d hd => ?_⟩
    obtain ⟨y, rfl, hy, hyc⟩ := str_txo (by decide +kernel) d hd
    have h4 : (cutS z none (some p)).length + (cutS z (some p) none).length ≤ z.length := cut_both z _
    have h5 : (cutS z none (some p)).length + (cutS z (some (p + 1)) none).length ≤ z.length := cut_two z p (p + 1)
    have no : ∀ Q : DQ, (∀ d, TxO (z.length + 1) d → Q d θ) → z.length ≤ sizeLine ∧ (cutS z none (some p)).length + y.length ≤ sizeLine ∧ z.length ≤ sizeLine ∧ (cutS z none (some p) ++ y).length + (cutS z (some p) none).length ≤ sizeLine ∧ Q (.str (cutS z none (some p) ++ y ++ cutS z (some p) none)) θ := fun Q q =>
      ⟨sz _ (by omega), sz _ (by omega), sz _ (by omega), by rw [slen_app]; exact sz _ (by omega), q _ ⟨_, rfl, by rw [slen_app, slen_app]; omega, cp_app (cp_app (cp_cut hc _ _) hyc) (cp_cut hc _ _)⟩⟩
    refine ⟨sz _ (by omega), ite2 (fun e => ⟨a, _, rfl, hS, pow900 (by decide), fun b => ite2 (fun e => ?_) (fun e => no Q q)⟩) (fun e => no Q q)⟩
    exact ⟨sz _ (by omega), sz _ (by omega), sz _ (by omega), by rw [slen_app]; exact sz _ (by omega), q _ ⟨_, rfl, by rw [slen_app, slen_app]; omega, cp_app (cp_app (cp_cut hc _ _) hyc) (cp_cut hc _ _)⟩⟩
/-! #### law_any_text -/
theorem ok_law_any_text {f : Addr} {fd : FuncData} (F : Fun K "_law_any_text" "_law_any_text" st_law_any_text f fd) (T : Txt mg) (C_law_take : Df P w K mg base "_law_take" 2 ["store", "many"] sp_law_take) (C_law_pick : Df P w K mg base "_law_pick" 3 ["store", "items"] sp_law_pick) (C_law_one_in : Df P w K mg base "_law_one_in" 3 ["store", "many"] sp_law_one_in) : FnD P w K mg base 4 f fd ["store", "most"] sp_law_any_text := by
  refine fn_d (k := 3) F sc_law_any_text (fun ds θ Q E h => ?_) (fun cdv A outer s H E Ed hr => ⟨_, (b_cons (s_set (i := 2) sc_law_any_text.nd d_str)
      (b_cons (s_cut (s_if (t_tru (d_callD tk_def C_law_one_in hr (by omega) (a_cons (d_var 0) (a_cons d_int a_nil))))
        (b_one (s_set (i := 2) sc_law_any_text.nd d_str))
        b_nil))
      (b_one (s_ret (d_bm PySem.F.plainAttrs_str PySem.F.slot_str_join PySem.F.type_str_join m_join d_str (a_cons (d_lc (own := [("k", 3)]) false rfl sc_law_any_text.nd (i_rng1 T.n_range (a_cons (d_callD tk_def C_law_take hr (by omega) (a_cons (d_var 0) (a_cons (d_op (o_add (c := false)) (d_var 1) d_int) a_nil))) a_nil)) (blkOk_by (N := nm_law_any_text) (sc := defScope st_law_any_text) (by decide +kernel)) (fun _ _ _ _ _ => (g_name 3 sc_law_any_text.nd)) (fun _ _ _ _ _ => ts_nil) (fun _ _ _ _ _ => (d_callD takes0 C_law_pick hr (by omega) (a_cons (d_var 0) (a_cons (d_var 2) a_nil))))) a_nil)))))), fun ds θ Q h => ?_⟩)
  · obtain ⟨a, m, rfl, _⟩ := h; rfl
  · obtain ⟨a, m, rfl, hS, m0, m1, q⟩ := h
    refine ⟨fun ρ θ' => ∃ (z : Str) (v : Option D), ρ = [some (.ref a), some (.int m), some (.str z), v] ∧ θ' = θ ∧ 0 < z.length ∧ z.length ≤ 1000, ?_, fun ρ θ' hP => ?_⟩
    · refine ⟨a, _, rfl, hS, pow900 (by decide), fun b => ite2 (fun _ => ?_) (fun _ => ?_)⟩
      · exact ⟨_, none, rfl, rfl, by decide +kernel, by decide +kernel⟩
      · exact ⟨_, none, rfl, rfl, by decide +kernel, by decide +kernel⟩
    · obtain ⟨z, v, rfl, rfl, z0, z1⟩ := hP
      have hl := TL.len_tl z
      refine ⟨rfl, a, _, rfl, hS, pow900 (Nat.lt_of_le_of_lt (m := 10000) (by omega) (by decide)), fun k k0 k1 => ?_⟩
      refine ⟨by omega, by omega, lc_draw (Tx 1) (by rw [rngD_len]; exact sz _ (by omega)) (fun i x hx k hk => ?_) (fun acc hl ha => ?_)⟩
      · refine ⟨a, _, _, rfl, hS, items_str (sz _), ?_, ?_, fun d hd => hk d (str_tx d hd)⟩
        · rw [List.length_map]; show 0 < (TL.tl z).length; omega
        · rw [List.length_map]; show (TL.tl z).length ≤ _; omega
      · rw [rngD_len] at hl
        obtain ⟨zs, e1, e2, e3⟩ := txts_of ha
        refine ⟨acc, zs, rfl, e1, ?_, q _ ⟨_, rfl, Nat.le_trans (join_len _ _) ?_⟩⟩
        · show _ + zs.length * 0 ≤ _; omega
        · show _ + zs.length * 0 ≤ _; omega
/-! #### law_same -/
theorem ok_law_same {f : Addr} {fd : FuncData} (F : Fun K "_law_same" "_law_same" st_law_same f fd) (T : Txt mg) {k n : Nat} (hk0 : 1 ≤ k) (C_law_same : Df P w K mg base "_law_same" k ["actual", "due"] (sp_law_same n)) (C_law_is_integer : Df P w K mg base "_law_is_integer" 1 ["actual"] sp_law_is_integer) : FnD P w K mg base (k + 1) f fd ["actual", "due"] (sp_law_same (n + 1)) := by
  refine fn_d (k := k) F sc_law_same (fun ds θ Q E h => ?_) (fun cdv A outer s H E Ed hr => ⟨_, (b_cons (s_if (t_cmp o_is (d_var 1) d_non)
        (b_one (s_ret (d_cmp o_is (d_var 0) d_non)))
        b_nil)
      (b_cons (s_if (t_tru (d_callB c_isi T.n_isinstance bt_isinstance (a_cons (d_var 1) (a_cons (d_gty T.n_bool bt_bool) a_nil))))
        (b_one (s_ret (d_and (d_callB c_isi T.n_isinstance bt_isinstance (a_cons (d_var 0) (a_cons (d_gty T.n_bool bt_bool) a_nil))) (d_one (d_cmp o_eq (d_var 0) (d_var 1))))))
        b_nil)
      (b_cons (s_if (t_tru (d_callB c_isi T.n_isinstance bt_isinstance (a_cons (d_var 1) (a_cons (d_gty T.n_int bt_int) a_nil))))
        (b_one (s_ret (d_and (d_callD tk_def C_law_is_integer hr (by omega) (a_cons (d_var 0) a_nil)) (d_one (d_cmp o_eq (d_var 0) (d_var 1))))))
        b_nil)
      (b_cons (s_if (t_tru (d_callB c_isi T.n_isinstance bt_isinstance (a_cons (d_var 1) (a_cons (d_gty T.n_str bt_str) a_nil))))
        (b_one (s_ret (d_and (d_callB c_isi T.n_isinstance bt_isinstance (a_cons (d_var 0) (a_cons (d_gty T.n_str bt_str) a_nil))) (d_one (d_cmp o_eq (d_var 0) (d_var 1))))))
        b_nil)
      (b_cons (s_if (t_bool (w_and (t_tru (d_callB c_isi T.n_isinstance bt_isinstance (a_cons (d_var 1) (a_cons (d_gty T.n_tuple bt_tuple) a_nil)))) (w_and1 (t_not (t_tru (d_callB c_isi T.n_isinstance bt_isinstance (a_cons (d_var 0) (a_cons (d_gty T.n_tuple bt_tuple) a_nil))))))))
        (b_one (s_ret d_bl))
        b_nil)
      (b_cons (s_if (t_bool (w_and (t_tru (d_callB c_isi T.n_isinstance bt_isinstance (a_cons (d_var 1) (a_cons (d_gty T.n_list bt_list) a_nil)))) (w_and1 (t_not (t_tru (d_callB c_isi T.n_isinstance bt_isinstance (a_cons (d_var 0) (a_cons (d_gty T.n_list bt_list) a_nil))))))))
        (b_one (s_ret d_bl))
        b_nil)
      (b_cons (s_if (t_cmp o_ne (d_callB c_len T.n_len bt_len (a_cons (d_var 0) a_nil)) (d_callB c_len T.n_len bt_len (a_cons (d_var 1) a_nil)))
        (b_one (s_ret d_bl))
        b_nil)
      (b_cons (s_for po_def rfl (i_rng1 T.n_range (a_cons (d_callB c_len T.n_len bt_len (a_cons (d_var 1) a_nil)) a_nil)) (g_name 2 sc_law_same.nd)
        (b_one (s_if (t_not (t_tru (d_callD tk_def C_law_same hr (by omega) (a_cons (d_ix i_seq (d_var 0) (d_var 2)) (a_cons (d_ix i_seq (d_var 1) (d_var 2)) a_nil)))))
          (b_one (s_ret d_bl))
          b_nil)))
      (b_one (s_ret d_bl)))))))))), fun ds θ Q h => ?_⟩)
  · obtain ⟨x, y, rfl, _⟩ := h; rfl
  · obtain ⟨x, y, rfl, hx, hy, ⟨m, hm⟩, q⟩ := h
    have hyd : Dat θ y := okD_dat hy
    have vy : vw θ y = y := okD_vw hy
    have nx : isN x = isN (vw θ x) := by cases hx with
      | cell e => rw [vw_ref e]; rfl
      | _ => rfl
    -- due is None
    refine ite2 (fun e => ?_) (fun e => ?_)
    · have ey : y = .non := by cases y <;> first | rfl | exact absurd e Bool.false_ne_true
      subst ey
      show Q (.bl (isN x)) θ
      rw [nx]
      have : sameD (vw θ x) .non = isN (vw θ x) := by cases vw θ x <;> rfl
      rw [this] at q; exact q
    · have hn : isN y = false := by cases h : isN y; rfl; exact absurd h e
      -- a bool
      refine ⟨_, isd_bool hyd, ?_⟩
      rw [vy]
      refine ite2 (fun e => ?_) (fun e => ?_)
      · refine ⟨_, isd_bool hx, ?_⟩
        refine ite2 (fun e2 => ?_) (fun e2 => ?_)
        · cases hx with
          | bl b => exact ⟨_, same_scal (.inl ⟨rfl, e⟩), q⟩
          | cell h => rw [vw_ref h] at e2; simp [isBl] at e2
          | _ => simp [vw, isBl] at e2
        · have : sameD (vw θ x) y = false := by cases y <;> simp [isBl] at e; cases h : vw θ x <;> simp_all [sameD, isBl]
          rw [this] at q; exact q
      · have hb : isBl y = false := by cases h : isBl y; rfl; exact absurd h e
        -- an int
        refine ⟨_, isd_int hyd, ?_⟩
        rw [vy]
        refine ite2 (fun e => ?_) (fun e => ?_)
        · have ei : isIn y = true := by cases y <;> simp_all [isInB, isBl, isIn]
          refine ⟨x, rfl, hx, ?_⟩
          refine ite2 (fun e2 => ?_) (fun e2 => ?_)
          · cases hx with
            | int b => exact ⟨_, same_scal (.inr (.inl ⟨rfl, ei⟩)), q⟩
            | cell h => rw [vw_ref h] at e2; simp [isIn] at e2
            | _ => simp [vw, isIn] at e2
          · have : sameD (vw θ x) y = false := by cases y <;> simp [isIn] at ei; cases h : vw θ x <;> simp_all [sameD, isIn]
            rw [this] at q; exact q
        · have hi : isInB y = false := by cases h : isInB y; rfl; exact absurd h e
          -- a text
          refine ⟨_, isd_str hyd, ?_⟩
          rw [vy]
          refine ite2 (fun e => ?_) (fun e => ?_)
          · refine ⟨_, isd_str hx, ?_⟩
            refine ite2 (fun e2 => ?_) (fun e2 => ?_)
            · cases hx with
              | str b => exact ⟨_, same_scal (.inr (.inr ⟨rfl, e⟩)), q⟩
              | cell h => rw [vw_ref h] at e2; simp [isSt] at e2
              | _ => simp [vw, isSt] at e2
            · have : sameD (vw θ x) y = false := by cases y <;> simp [isSt] at e; cases h : vw θ x <;> simp_all [sameD, isSt]
              rw [this] at q; exact q
          · have hs : isSt y = false := by cases h : isSt y; rfl; exact absurd h e
            obtain ⟨ys, ey⟩ : ∃ ys, seqD y = some ys := by cases hyd <;> simp_all [seqD, isN, isBl, isInB, isSt, vw]
            obtain ⟨hyl, n', rfl, hyo⟩ := okD_seq hy ey
            -- a tuple
            dsimp only [dNext, dSeq]
            refine d_test (b := isTu y && !isTu (vw θ x)) (an_and (fun Q q => ⟨_, isd_tuple hyd, by rw [vy]; exact q⟩) fun _ => an_not fun Q q => ⟨_, isd_tuple hx, q⟩) ?_
            refine ite2 (fun e => ?_) (fun e => ?_)
            · have : sameD (vw θ x) y = false := by cases y <;> cases h : vw θ x <;> simp_all [sameD, isTu, seqD]
              rw [this] at q; exact q
            · -- a list
              dsimp only [dNext, dSeq]
              refine d_test (b := isLi y && !isLi (vw θ x)) (an_and (fun Q q => ⟨_, isd_list hyd, by rw [vy]; exact q⟩) fun _ => an_not fun Q q => ⟨_, isd_list hx, q⟩) ?_
              refine ite2 (fun e' => ?_) (fun e' => ?_)
              · have : sameD (vw θ x) y = false := by cases y <;> cases h : vw θ x <;> simp_all [sameD, isLi, seqD]
                rw [this] at q; exact q
              · have ht : isTu (vw θ x) = isTu y := by cases y <;> cases h : vw θ x <;> simp_all [isTu, isLi, seqD]
                obtain ⟨xs, ex⟩ : ∃ xs, seqD (vw θ x) = some xs := by cases y <;> cases h : vw θ x <;> simp_all [isTu, isLi, seqD]
                obtain ⟨hxl, m', rfl, hxo⟩ := okD_seq hm ex
                rw [same_seq ex ey ht] at q
                have ax : ∀ θ', θ' = θ → asQ θ' x = some xs := fun θ' e => e ▸ seq_asQ ex hx
                have ay : asQ θ y = some ys := seq_asQ (by rw [vy]; exact ey) hyd
                have lenx : ∀ Q : DQ, Q (.int xs.length) θ → dLen [x] θ Q := fun Q q => by
                  cases hx with
                  | str z => cases ex
                  | tup _ => exact ⟨_, ax _ rfl, q⟩
                  | lst _ => exact ⟨_, ax _ rfl, q⟩
                  | cell _ => exact ⟨_, ax _ rfl, q⟩
                  | _ => cases ex
                have leny : ∀ Q : DQ, Q (.int ys.length) θ → dLen [y] θ Q := fun Q q => by
                  cases y <;> first | exact ⟨_, ay, q⟩ | cases ey
                have ixx : ∀ (i : Int) d, atI xs i = some d → ∀ Q : DQ, Q d θ → dIx x (.int i) θ Q := fun i d hd Q q => by
                  cases hx with
                  | str z => cases ex
                  | tup _ => exact ⟨_, _, ax _ rfl, hd, q⟩
                  | lst _ => exact ⟨_, _, ax _ rfl, hd, q⟩
                  | cell _ => exact ⟨_, _, ax _ rfl, hd, q⟩
                  | _ => cases ex
                have ixy : ∀ (i : Int) d, atI ys i = some d → ∀ Q : DQ, Q d θ → dIx y (.int i) θ Q := fun i d hd Q q => by
                  cases y <;> first | exact ⟨_, _, ay, hd, q⟩ | cases ey
                rw [show startD nm_law_same [x, y] = [some x, some y, none] from rfl]
                dsimp only [dNext, dSeq, dIf, dTst, dOp, dCB, dCons, dVar, dNil, getS]
                refine lenx _ ?_
                refine leny _ ?_
                refine ⟨_, rfl, ?_⟩
                refine ite2 (fun e3 => ?_) (fun e3 => ?_)
                · have : sameL xs ys = false := by
                    cases h : sameL xs ys with
                    | false => rfl
                    | true =>
                      have := sameL_len h
                      rw [this] at e3; simp at e3
                  rw [this] at q; exact q
                · have hl : xs.length = ys.length := by
                    have e4 : (xs.length : Int) = ys.length := by simpa using e3
                    omega
                  dsimp only [dNext, dSeq, dFor, dRng1, dCB, dCons, dVar, dNil, getS]
                  refine leny _ ?_
                  refine ⟨by omega, by omega, ?_⟩
                  refine ⟨fun i ρ θ' => ∃ v, ρ = [some x, some y, v] ∧ θ' = θ ∧ ∀ (j : Nat) a b, j < i → xs[j]? = some a → ys[j]? = some b → sameD a b = true, ⟨none, rfl, rfl, fun j a b hj => absurd hj (Nat.not_lt_zero j)⟩, fun i d ρ θ' hi hP => ?_, fun ρ θ' hP => ?_⟩
                  · obtain ⟨v, rfl, rfl, hP⟩ := hP
                    obtain ⟨hi', rfl⟩ := rngD_at hi
                    have hi' : i < ys.length := by simpa using hi'
                    have e1 : ys[i]? = some ys[i] := List.getElem?_eq_getElem hi'
                    have e2 : xs[i]? = some (xs[i]'(by omega)) := List.getElem?_eq_getElem _
                    have ez : (0 : Int) + (i : Int) = (i : Int) := Int.zero_add _
                    rw [ez]
                    dsimp only [gNm, setS, dIf, dNotT, dTru, dCall, dOp, dCons, dVar, dNil, getS]
                    refine ixx _ _ (atI_nat e2) _ ?_
                    refine ixy _ _ (atI_nat e1) _ ?_
                    have oy := okL_at hyo e1
                    have ox := okL_at hxo e2
                    refine ⟨_, _, rfl, okD_dat ox, oy, ⟨m', by rw [okD_vw ox]; exact ox⟩, ?_⟩
                    rw [okD_vw ox]
                    refine ite2 (fun e4 => ?_) (fun e4 => ?_)
                    · have : sameL xs ys = false := by
                        cases h : sameL xs ys with
                        | false => rfl
                        | true => rw [sameL_at h e2 e1] at e4; simp at e4
                      rw [this] at q; exact q
                    · refine ⟨_, rfl, rfl, fun j a b hj ha hb => ?_⟩
                      by_cases hji : j = i
                      · subst hji
                        rw [e2] at ha; rw [e1] at hb; cases ha; cases hb
                        simpa using e4
                      · exact hP j a b (by omega) ha hb
                  · obtain ⟨v, rfl, rfl, hP⟩ := hP
                    have : sameL xs ys = true := sameL_all hl fun i a b ha hb => hP i a b (by
                      have := (List.getElem?_eq_some_iff.mp hb).1
                      rw [rngD_len]; simpa using this) ha hb
                    rw [this] at q; exact q
/-! #### law_is_integer -/
theorem ok_law_is_integer {f : Addr} {fd : FuncData} (F : Fun K "_law_is_integer" "_law_is_integer" st_law_is_integer f fd) (T : Txt mg)  : FnD P w K mg base 1 f fd ["actual"] sp_law_is_integer := by
  refine fn_d (k := 0) F sc_law_is_integer (fun ds θ Q E h => ?_) (fun cdv A outer s H E Ed hr => ⟨_, (b_one (s_ret (d_and (d_callB c_isi T.n_isinstance bt_isinstance (a_cons (d_var 0) (a_cons (d_gty T.n_int bt_int) a_nil))) (d_one (d_not (d_callB c_isi T.n_isinstance bt_isinstance (a_cons (d_var 0) (a_cons (d_gty T.n_bool bt_bool) a_nil)))))))), fun ds θ Q h => ?_⟩)
  · obtain ⟨x, rfl, _⟩ := h; rfl
  · obtain ⟨x, rfl, hx, q⟩ := h
    refine ⟨_, isd_int hx, ?_⟩
    have e : isIn (vw θ x) = (isInB (vw θ x) && !isBl (vw θ x)) := by cases vw θ x <;> rfl
    refine ite2 (fun e1 => ?_) (fun e1 => ?_)
    · refine ⟨_, isd_bool hx, ?_⟩
      show Q (.bl (!isBl (vw θ x))) θ
      rw [e, e1] at q
      exact q
    · have e2 : isInB (vw θ x) = false := by cases h : isInB (vw θ x) <;> simp_all
      rw [e, e2] at q
      exact q
/-! #### law_own_word -/
theorem ok_law_own_word {f : Addr} {fd : FuncData} (F : Fun K "_law_own_word" "_law_own_word" st_law_own_word f fd) (T : Txt mg)  : FnD P w K mg base 1 f fd ["text"] sp_law_own_word := by
  refine fn_d (k := 0) F sc_law_own_word (fun ds θ Q E h => ?_) (fun cdv A outer s H E Ed hr => ⟨_, (b_cons (s_if (t_not (t_chain o_le o_le d_int (d_callB c_len T.n_len bt_len (a_cons (d_var 0) a_nil)) d_int))
        (b_one (s_ret d_bl))
        b_nil)
      (b_cons (s_for po_def rfl (i_seq' (d_var 0)) (g_name 1 sc_law_own_word.nd)
        (b_one (s_if (t_cmp o_notin (d_var 1) d_str)
          (b_one (s_ret d_bl))
          b_nil)))
      (b_one (s_ret d_bl)))), fun ds θ Q h => ?_⟩)
  · obtain ⟨l, rfl, _⟩ := h; rfl
  · obtain ⟨l, rfl, hz, q⟩ := h
    have hl := SX.S_len l
    refine ⟨sz _ (by omega), ?_⟩
    refine ite2 (fun e0 => ?_) (fun e0 => ?_)
    rotate_left
    · have : wordB l = false := by
        simp only [decide_eq_true_eq] at e0
        cases h : wordB l with
        | false => rfl
        | true => have := wordB_len h; omega
      rw [this] at q; exact q
    refine ite2 (fun e => ?_) (fun e => ?_)
    · have : wordB l = false := by
        simp only [Bool.not_eq_true', decide_eq_false_iff_not] at e
        cases h : wordB l with
        | false => rfl
        | true => have := wordB_len h; omega
      rw [this] at q; exact q
    · have hb : 1 ≤ l.length ∧ l.length ≤ 10 := by
        simp at e e0
        omega
      have ew : wordB l = l.all isLow := by
        unfold wordB
        rw [decide_eq_true hb.1, decide_eq_true hb.2]; rfl
      rw [ew] at q
      refine ⟨_, rfl, fun i ρ θ' => ∃ v : Option D, ρ = [some (.str (SX.S l)), v] ∧ θ' = θ ∧ (l.take i).all isLow = true, ⟨none, rfl, rfl, rfl⟩, fun i x ρ θ' hi hP => ?_, fun ρ θ' hP => ?_⟩
      · obtain ⟨v, rfl, rfl, hP⟩ := hP
        rw [List.getElem?_map] at hi
        cases ec : l[i]? with
        | none => rw [show ((SX.S l).cps.toList[i]?) = none from ec] at hi; cases hi
        | some c =>
          rw [show ((SX.S l).cps.toList[i]?) = some c from ec] at hi
          cases hi
          show if (!inS ⟨#[c]⟩ "abcdefghijklmnopqrstuvwxyz") = true then _ else _
          rw [inS_one, show decide (c ∈ ("abcdefghijklmnopqrstuvwxyz" : Str).cps.toList) = isLow c by rw [Bool.eq_iff_iff, decide_eq_true_eq]; exact mem_low c]
          refine ite2 (fun e => ?_) (fun e => ?_)
          · have : l.all isLow = false := by
              cases h : l.all isLow with
              | false => rfl
              | true =>
                have := List.all_eq_true.mp h c (List.mem_of_getElem? ec)
                rw [this] at e; simp at e
            rw [this] at q; exact q
          · refine ⟨_, rfl, rfl, ?_⟩
            rw [List.take_add_one, ec, List.all_append, hP]
            simpa using e
      · obtain ⟨v, rfl, rfl, hP⟩ := hP
        rw [List.length_map, show (SX.S l).cps.toList = l from rfl, List.take_length] at hP
        rw [hP] at q; exact q
/-! #### law_own_pieces -/
theorem ok_law_own_pieces {f : Addr} {fd : FuncData} (F : Fun K "_law_own_pieces" "_law_own_pieces" st_law_own_pieces f fd) (T : Txt mg) (C_law_own_word : Df P w K mg base "_law_own_word" 1 ["text"] sp_law_own_word) : FnD P w K mg base 2 f fd ["text"] sp_law_own_pieces := by
  refine fn_d (k := 1) F sc_law_own_pieces (fun ds θ Q E h => ?_) (fun cdv A outer s H E Ed hr => ⟨_, (b_cons (s_if (t_tru (d_callD tk_def C_law_own_word hr (by omega) (a_cons (d_var 0) a_nil)))
        (b_one (s_ret (d_tup (a_cons (d_var 0) (a_cons (d_tup a_nil) a_nil)))))
        b_nil)
      (b_cons (s_set (i := 1) sc_law_own_pieces.nd (d_bm PySem.F.plainAttrs_str PySem.F.slot_str_find PySem.F.type_str_find m_find (d_var 0) (a_cons d_str a_nil)))
      (b_cons (s_if (t_bool (w_or (t_cmp o_lt (d_var 1) d_int) (w_or (t_cmp o_ne (d_ix i_seq (d_var 0) (d_un o_neg d_int)) d_str) (w_or1 (t_not (t_tru (d_callD tk_def C_law_own_word hr (by omega) (a_cons (d_slice (s_seq (cc := false)) (d_var 0) p_none (p_some (d_var 1))) a_nil))))))))
        (b_one (s_ret d_non))
        b_nil)
      (b_cons (s_set (i := 2) sc_law_own_pieces.nd (d_bm PySem.F.plainAttrs_str PySem.F.slot_str_split PySem.F.type_str_split (m_split (cc := false)) (d_slice (s_seq (cc := false)) (d_var 0) (p_some (d_op (o_add (c := false)) (d_var 1) d_int)) (p_some (d_un o_neg d_int))) (a_cons d_str a_nil)))
      (b_cons (s_if (t_cmp o_gt (d_callB c_len T.n_len bt_len (a_cons (d_var 2) a_nil)) d_int)
        (b_one (s_ret d_non))
        b_nil)
      (b_cons (s_for po_def rfl (i_seq' (d_var 2)) (g_name 3 sc_law_own_pieces.nd)
        (b_one (s_if (t_not (t_tru (d_callD tk_def C_law_own_word hr (by omega) (a_cons (d_var 3) a_nil))))
          (b_one (s_ret d_non))
          b_nil)))
      (b_one (s_ret (d_tup (a_cons (d_slice (s_seq (cc := false)) (d_var 0) p_none (p_some (d_var 1))) (a_cons (d_callTy c_tuple T.n_tuple bt_tuple (a_cons (d_var 2) a_nil)) a_nil))))))))))), fun ds θ Q h => ?_⟩)
  · obtain ⟨l, rfl, _⟩ := h; rfl
  · obtain ⟨l, rfl, hz, q⟩ := h
    have eO : (Str.ofString "(") = SX.S [40] := by decide +kernel
    have eC : (Str.ofString ")") = SX.S [41] := by decide +kernel
    have eK : (Str.ofString ",") = SX.S [44] := by decide +kernel
    have hs := SX.S_len l
    refine ⟨l, rfl, hz, ?_⟩
    refine ite2 (fun e => ?_) (fun e => ?_)
    · exact ⟨by show 0 ≤ sizeLine; decide, by show 2 ≤ sizeLine; decide, q _ (.word e)⟩
    have hw : wordB l = false := by simpa using e
    refine ⟨rfl, ?_⟩
    rw [eO]
    by_cases hm : 40 ∈ l
    rotate_left
    · have hf : Txt.find (SX.S l) (SX.S [40]) = -1 := find_no hm
      dsimp only [dNext, dSeq, gNm, setS, dCons, dNil, dC, dStr1]
      refine d_test (b := decide (Txt.find (SX.S l) (SX.S [40]) < 0) || true) (an_or (fun Q q => q) fun h => by rw [hf] at h; exact absurd h (by decide)) ?_
      rw [Bool.or_true]
      refine iteT ?_
      exact q _ (.no hw hm)
    · obtain ⟨p, r, rfl, hn⟩ := split_at (l := []) hm
      have hp : p.length + r.length + 1 ≤ 1000000 := by simp at hz; omega
      have hf : Txt.find (SX.S (p ++ 40 :: r)) (SX.S [40]) = (p.length : Int) := find_at hn
      obtain ⟨t, c, htc⟩ : ∃ t c, p ++ 40 :: r = t ++ [c] := ⟨(p ++ 40 :: r).dropLast, (p ++ 40 :: r).getLast (by simp), (List.dropLast_concat_getLast _).symm⟩
      have hlast : (r.getLast? = some 41) ↔ c = 41 := by rw [← last_eq (p := p), htc]; simp
      have hct : cutS (SX.S (p ++ 40 :: r)) none (some (p.length : Int)) = SX.S p := by
        rw [cut_to _ _ (by omega)]; congr 1; simp
      have hcm : cutS (SX.S (p ++ 40 :: r)) (some ((p.length : Int) + 1)) (some (-1)) = SX.S r.dropLast := by
        rw [cut_mid _ _ (by omega)]
        have e1 : ((p.length : Int) + 1).toNat = p.length + 1 := by omega
        have e2 : (p ++ 40 :: r).drop (p.length + 1) = r := by
          rw [← List.drop_drop, List.drop_left]; rfl
        rw [e1, e2]
      have es : (Txt.split (SX.S r.dropLast) (SX.S [44])).map D.str = (TL.spl [44] 0 [] r.dropLast).map fun p => .str (SX.S p) := by
        rw [SX.split_S (by decide) (by decide), List.map_map]; rfl
      have hd : (SX.S r.dropLast).length + 2 ≤ sizeLine := by rw [SX.S_len, List.length_dropLast]; exact sz _ (by omega)
      have hsp := spl_size 44 r.dropLast []
      have hdl : r.dropLast.length ≤ r.length := by rw [List.length_dropLast]; omega
      have q := q _ (.at_ (r := r) hn)
      dsimp only [dNext, dSeq, gNm, setS, dCons, dNil, dC, dStr1]
      refine d_test (b := decide (Txt.find (SX.S (p ++ 40 :: r)) (SX.S [40]) < 0) || (!decide ((⟨#[c]⟩ : Str) = SX.S [41]) || !wordB p)) (an_or (fun Q q => q) fun _ => an_or (fun Q q => ⟨sz _ (by omega), c, by show atI (p ++ 40 :: r) (-1) = _; rw [htc]; exact atI_last _ _, _, rfl, by rw [eC]; exact q⟩) fun _ => an_not fun Q q => ⟨sz _ (by omega), p, by rw [hf, hct]; rfl, by omega, q⟩) ?_
      have hb : (decide (Txt.find (SX.S (p ++ 40 :: r)) (SX.S [40]) < 0) || (!decide ((⟨#[c]⟩ : Str) = SX.S [41]) || !wordB p)) = !(decide (r.getLast? = some 41) && wordB p) := by
        rw [hf]
        have h1 : decide ((p.length : Int) < 0) = false := by simp
        have h2 : decide ((⟨#[c]⟩ : Str) = SX.S [41]) = decide (r.getLast? = some 41) := decide_eq_decide.mpr (chr_inj.trans hlast.symm)
        rw [h1, h2, Bool.false_or, Bool.not_and]
      rw [hb]
      refine ite2 (fun e => ?_) (fun e => ?_)
      · have : restD p r = .non := if_neg fun z => by rw [z.1, z.2.1] at e; exact absurd e (by decide)
        rw [this] at q; exact q
      · have e : r.getLast? = some 41 ∧ wordB p = true := by
          simpa using e
        refine ⟨sz _ (by omega), rfl, rfl, ?_⟩
        rw [hf, hcm, eK, es]
        refine ⟨hd, ?_⟩
        refine ⟨_, rfl, ?_⟩
        refine ite2 (fun e3 => ?_) (fun e3 => ?_)
        · have : restD p r = .non := if_neg fun z => by simp at e3; omega
          rw [this] at q; exact q
        · have hl2 : (TL.spl [44] 0 [] r.dropLast).length ≤ 2 := by simp at e3; omega
          refine ⟨_, rfl, fun i ρ θ' => ∃ v : Option D, ρ = [some (.str (SX.S (p ++ 40 :: r))), some (.int p.length), some (.lst ((TL.spl [44] 0 [] r.dropLast).map fun p => .str (SX.S p))), v] ∧ θ' = θ ∧ ((TL.spl [44] 0 [] r.dropLast).take i).all wordB = true, ⟨none, rfl, rfl, rfl⟩, fun i x ρ θ' hi hP => ?_, fun ρ θ' hP => ?_⟩
          · obtain ⟨v, rfl, rfl, hP⟩ := hP
            rw [List.getElem?_map] at hi
            cases ec : (TL.spl [44] 0 [] r.dropLast)[i]? with
            | none => rw [ec] at hi; cases hi
            | some u =>
              rw [ec] at hi
              cases hi
              have hm := List.mem_of_getElem? ec
              have hu := spl_item 44 _ _ _ hm
              refine ⟨u, rfl, by simp at hu; omega, ?_⟩
              refine ite2 (fun e4 => ?_) (fun e4 => ?_)
              · have : restD p r = .non := if_neg fun z => by
                  have := List.all_eq_true.mp z.2.2.2 u hm
                  rw [this] at e4; exact absurd e4 (by decide)
                rw [this] at q; exact q
              · refine ⟨_, rfl, rfl, ?_⟩
                rw [List.take_add_one, ec, List.all_append, hP]
                simpa using e4
          · obtain ⟨v, rfl, rfl, hP⟩ := hP
            rw [List.length_map, List.take_length] at hP
            refine ⟨sz _ (by omega), _, rfl, by show 2 ≤ sizeLine; decide, ?_⟩
            have : restD p r = pairD p (TL.spl [44] 0 [] r.dropLast) := if_pos ⟨e.1, e.2, hl2, hP⟩
            rw [this] at q
            rw [hct]
            exact q
/-! #### law_sized -/
theorem ok_law_sized {f : Addr} {fd : FuncData} (F : Fun K "_law_sized" "_law_sized" st_law_sized f fd) (T : Txt mg) (C_law_pick : Df P w K mg base "_law_pick" 3 ["store", "items"] sp_law_pick) (C_law_between : Df P w K mg base "_law_between" 3 ["store", "low", "high"] sp_law_between) : FnD P w K mg base 4 f fd ["store", "low", "high"] sp_law_sized := by
  refine fn_d (k := 3) F sc_law_sized (fun ds θ Q E h => ?_) (fun cdv A outer s H E Ed hr => ⟨_, (b_cons (s_set (i := 3) sc_law_sized.nd d_str)
      (b_cons (s_set (i := 4) sc_law_sized.nd (d_callD tk_def C_law_between hr (by omega) (a_cons (d_var 0) (a_cons (d_var 1) (a_cons (d_var 2) a_nil)))))
      (b_cons (s_if (t_cmp o_gt (d_var 4) d_int)
        (b_one (s_ret (d_op (o_mul (c := false)) (d_callD tk_def C_law_pick hr (by omega) (a_cons (d_var 0) (a_cons (d_var 3) a_nil))) (d_var 4))))
        b_nil)
      (b_one (s_ret (d_bm PySem.F.plainAttrs_str PySem.F.slot_str_join PySem.F.type_str_join m_join d_str (a_cons (d_lc (own := [("k", 5)]) false rfl sc_law_sized.nd (i_rng1 T.n_range (a_cons (d_var 4) a_nil)) (blkOk_by (N := nm_law_sized) (sc := defScope st_law_sized) (by decide +kernel)) (fun _ _ _ _ _ => (g_name 5 sc_law_sized.nd)) (fun _ _ _ _ _ => ts_nil) (fun _ _ _ _ _ => (d_callD takes0 C_law_pick hr (by omega) (a_cons (d_var 0) (a_cons (d_var 3) a_nil))))) a_nil))))))), fun ds θ Q h => ?_⟩)
  · obtain ⟨a, lo, hi, rfl, _⟩ := h; rfl
  · obtain ⟨a, lo, hi, rfl, hS, h0, h1, h2, q⟩ := h
    refine ⟨a, _, _, rfl, hS, pow900 (Nat.lt_of_le_of_lt (m := 5000) (by omega) (by decide)), fun n n0 n1 => ?_⟩
    have n1 : n ≤ hi := by omega
    have hL := items_str (θ := θ) (z := "abcdefghijklmnopqrstuvwxyz") (by decide +kernel)
    have low : ∀ d ∈ ("abcdefghijklmnopqrstuvwxyz" : Str).cps.toList.map (fun c => D.str ⟨#[c]⟩), Low1 d := fun d hd => by
      obtain ⟨c, hc, rfl⟩ := List.mem_map.mp hd
      exact ⟨c, (mem_low c).mp hc, rfl⟩
    refine ite2 (fun e => ?_) (fun e => ?_)
    · refine ⟨a, _, _, rfl, hS, hL, by decide +kernel, by decide +kernel, fun d hd => ?_⟩
      obtain ⟨c, hc, rfl⟩ := low d hd
      refine ⟨by omega, by omega, ?_, ?_⟩
      · show 1 * n.toNat ≤ _; exact sz _ (by omega)
      · rw [repS_chr]
        refine q _ ?_ ?_ (rep_low hc) <;> rw [List.length_replicate] <;> omega
    · refine ⟨rfl, by omega, by omega, lc_draw Low1 (by rw [rngD_len]; exact sz _ (by omega)) (fun i x hx k hk => ?_) (fun acc hl ha => ?_)⟩
      · exact ⟨a, _, _, rfl, hS, hL, by decide +kernel, by decide +kernel, fun d hd => hk d (low d hd)⟩
      · rw [rngD_len] at hl
        obtain ⟨cs, e1, e2, e3⟩ := low_txts ha
        refine ⟨acc, _, rfl, e3, ?_, ?_⟩
        · have : ((cs.map fun c => SX.S [c]).map (·.length)).sum = cs.length := by
            rw [List.map_map]
            have : ∀ l : List Nat, (l.map ((fun x : Str => x.length) ∘ fun c => SX.S [c])).sum = l.length := by
              intro l
              induction l with
              | nil => rfl
              | cons c r ih => rw [List.map_cons, List.sum_cons, ih]; show 1 + _ = _; simp; omega
            exact this cs
          rw [this]
          show _ + _ * 0 ≤ _
          omega
        · rw [M00.join_ones]
          exact q _ (by omega) (by omega) e2
/-! #### law_long_name -/
theorem ok_law_long_name {f : Addr} {fd : FuncData} (F : Fun K "_law_long_name" "_law_long_name" st_law_long_name f fd) (T : Txt mg) (C_law_sized : Df P w K mg base "_law_sized" 4 ["store", "low", "high"] sp_law_sized) (C_law_take : Df P w K mg base "_law_take" 2 ["store", "many"] sp_law_take) : FnD P w K mg base 5 f fd ["store"] sp_law_long_name := by
  refine fn_d (k := 4) F sc_law_long_name (fun ds θ Q E h => ?_) (fun cdv A outer s H E Ed hr => ⟨_, (b_cons (s_set (i := 1) sc_law_long_name.nd (d_callD tk_def C_law_sized hr (by omega) (a_cons (d_var 0) (a_cons d_int (a_cons d_int a_nil)))))
      (b_cons (s_set (i := 2) sc_law_long_name.nd (d_callD tk_def C_law_take hr (by omega) (a_cons (d_var 0) (a_cons d_int a_nil))))
      (b_cons (s_if (t_cmp o_eq (d_var 2) d_int)
        (b_one (s_ret (d_var 1)))
        b_nil)
      (b_cons (s_if (t_cmp o_eq (d_var 2) d_int)
        (b_one (s_ret (d_op (o_add (c := false)) (d_op (o_add (c := false)) (d_op (o_add (c := false)) (d_var 1) d_str) (d_callD tk_def C_law_sized hr (by omega) (a_cons (d_var 0) (a_cons d_int (a_cons d_int a_nil))))) d_str)))
        b_nil)
      (b_cons (s_if (t_cmp o_eq (d_var 2) d_int)
        (b_one (s_ret (d_op (o_add (c := false)) (d_op (o_add (c := false)) (d_op (o_add (c := false)) (d_op (o_add (c := false)) (d_op (o_add (c := false)) (d_callD tk_def C_law_sized hr (by omega) (a_cons (d_var 0) (a_cons d_int (a_cons d_int a_nil)))) d_str) (d_callD tk_def C_law_sized hr (by omega) (a_cons (d_var 0) (a_cons d_int (a_cons d_int a_nil))))) d_str) (d_callD tk_def C_law_sized hr (by omega) (a_cons (d_var 0) (a_cons d_int (a_cons d_int a_nil))))) d_str)))
        b_nil)
      (b_one (s_ret (d_op (o_add (c := false)) (d_op (o_add (c := false)) (d_op (o_add (c := false)) (d_op (o_add (c := false)) (d_op (o_add (c := false)) (d_var 1) d_str) (d_callD tk_def C_law_sized hr (by omega) (a_cons (d_var 0) (a_cons d_int (a_cons d_int a_nil))))) d_str) (d_callD tk_def C_law_sized hr (by omega) (a_cons (d_var 0) (a_cons d_int (a_cons d_int a_nil))))) d_str)))))))), fun ds θ Q h => ?_⟩)
  · obtain ⟨a, rfl, _⟩ := h; rfl
  · obtain ⟨a, rfl, hS, q⟩ := h
    have hO : (Str.ofString "(").length = 1 := by decide +kernel
    have hC : (Str.ofString ")").length = 1 := by decide +kernel
    have hK : (Str.ofString ",").length = 1 := by decide +kernel
    refine ⟨a, _, _, rfl, hS, by decide, by decide, by decide, fun u u0 u1 ul => ?_⟩
    refine ⟨a, _, rfl, hS, pow900 (by decide), fun form f0 f1 => ?_⟩
    have hu := SX.S_len u
    refine ⟨_, rfl, ite2 (fun e => q _ ⟨_, rfl, by omega⟩) (fun e => ?_)⟩
    refine ⟨_, rfl, ite2 (fun e => ?_) (fun e => ?_)⟩
    · refine ⟨by rw [hO]; exact sz _ (by omega), a, _, _, rfl, hS, by decide, by decide, by decide, fun v v0 v1 vl => ?_⟩
      have hv := SX.S_len v
      refine ⟨by rw [slen_app, hO]; exact sz _ (by omega), by rw [slen_app, slen_app, hO, hC]; exact sz _ (by omega), q _ ⟨_, rfl, ?_⟩⟩
      rw [slen_app, slen_app, slen_app, hO, hC]; omega
    refine ⟨_, rfl, ite2 (fun e => ?_) (fun e => ?_)⟩
    · refine ⟨a, _, _, rfl, hS, by decide, by decide, by decide, fun v v0 v1 vl => ?_⟩
      have hv := SX.S_len v
      refine ⟨by rw [hO]; exact sz _ (by omega), a, _, _, rfl, hS, by decide, by decide, by decide, fun w w0 w1 wl => ?_⟩
      have hw := SX.S_len w
      refine ⟨by rw [slen_app, hO]; exact sz _ (by omega), by rw [slen_app, slen_app, hO, hK]; exact sz _ (by omega), a, _, _, rfl, hS, by decide, by decide, by decide, fun x x0 x1 xl => ?_⟩
      have hx := SX.S_len x
      refine ⟨by rw [slen_app, slen_app, slen_app, hO, hK]; exact sz _ (by omega), by rw [slen_app, slen_app, slen_app, slen_app, hO, hK, hC]; exact sz _ (by omega), q _ ⟨_, rfl, ?_⟩⟩
      rw [slen_app, slen_app, slen_app, slen_app, slen_app, hO, hK, hC]; omega
    · refine ⟨by rw [hO]; exact sz _ (by omega), a, _, _, rfl, hS, by decide, by decide, by decide, fun w w0 w1 wl => ?_⟩
      have hw := SX.S_len w
      refine ⟨by rw [slen_app, hO]; exact sz _ (by omega), by rw [slen_app, slen_app, hO, hK]; exact sz _ (by omega), a, _, _, rfl, hS, by decide, by decide, by decide, fun x x0 x1 xl => ?_⟩
      have hx := SX.S_len x
      refine ⟨by rw [slen_app, slen_app, slen_app, hO, hK]; exact sz _ (by omega), by rw [slen_app, slen_app, slen_app, slen_app, hO, hK, hC]; exact sz _ (by omega), q _ ⟨_, rfl, ?_⟩⟩
      rw [slen_app, slen_app, slen_app, slen_app, slen_app, hO, hK, hC]; omega
/-! #### law_with_sign -/
theorem ok_law_with_sign {f : Addr} {fd : FuncData} (F : Fun K "_law_with_sign" "_law_with_sign" st_law_with_sign f fd) (T : Txt mg) (C_law_pick : Df P w K mg base "_law_pick" 3 ["store", "items"] sp_law_pick) (C_law_take : Df P w K mg base "_law_take" 2 ["store", "many"] sp_law_take) : FnD P w K mg base 4 f fd ["store", "text"] sp_law_with_sign := by
  refine fn_d (k := 3) F sc_law_with_sign (fun ds θ Q E h => ?_) (fun cdv A outer s H E Ed hr => ⟨_, (b_cons (s_set (i := 2) sc_law_with_sign.nd (d_callD tk_def C_law_take hr (by omega) (a_cons (d_var 0) (a_cons (d_op (o_add (c := false)) (d_callB c_len T.n_len bt_len (a_cons (d_var 1) a_nil)) d_int) a_nil))))
      (b_cons (s_set (i := 3) sc_law_with_sign.nd (d_callD tk_def C_law_take hr (by omega) (a_cons (d_var 0) (a_cons d_int a_nil))))
      (b_cons (s_if (t_cmp o_eq (d_var 3) d_int)
        (b_one (s_ret (d_op (o_add (c := false)) (d_slice (s_seq (cc := false)) (d_var 1) p_none (p_some (d_var 2))) (d_slice (s_seq (cc := false)) (d_var 1) (p_some (d_op (o_add (c := false)) (d_var 2) d_int)) p_none))))
        b_nil)
      (b_cons (s_set (i := 4) sc_law_with_sign.nd (d_callD tk_def C_law_pick hr (by omega) (a_cons (d_var 0) (a_cons d_str a_nil))))
      (b_cons (s_if (t_cmp o_eq (d_var 3) d_int)
        (b_one (s_ret (d_op (o_add (c := false)) (d_op (o_add (c := false)) (d_slice (s_seq (cc := false)) (d_var 1) p_none (p_some (d_var 2))) (d_var 4)) (d_slice (s_seq (cc := false)) (d_var 1) (p_some (d_var 2)) p_none))))
        b_nil)
      (b_one (s_ret (d_op (o_add (c := false)) (d_op (o_add (c := false)) (d_slice (s_seq (cc := false)) (d_var 1) p_none (p_some (d_var 2))) (d_var 4)) (d_slice (s_seq (cc := false)) (d_var 1) (p_some (d_op (o_add (c := false)) (d_var 2) d_int)) p_none))))))))), fun ds θ Q h => ?_⟩)
  · obtain ⟨a, z, rfl, _⟩ := h; rfl
  · obtain ⟨a, z, rfl, hS, hz, q⟩ := h
    refine ⟨sz _ (by omega), a, _, rfl, hS, pow900 (Nat.lt_of_le_of_lt (m := 2000) (by omega) (by decide)), fun p p0 p1 => ?_⟩
    refine ⟨a, _, rfl, hS, pow900 (by decide), fun form f0 f1 => ?_⟩
    have h4 : (cutS z none (some p)).length + (cutS z (some p) none).length ≤ z.length := cut_both z _
    have h5 : (cutS z none (some p)).length + (cutS z (some (p + 1)) none).length ≤ z.length := cut_two z p (p + 1)
    refine ⟨_, rfl, ite2 (fun e => ?_) (fun e => ?_)⟩
    · exact ⟨sz _ (by omega), sz _ (by omega), sz _ (by omega), q _ ⟨_, rfl, by rw [slen_app]; omega⟩⟩
    refine ⟨a, _, _, rfl, hS, items_str (by decide +kernel), by decide +kernel, by decide +kernel, fun d hd => ?_⟩
    obtain ⟨y, rfl, hy⟩ := str_tx d hd
    refine ⟨_, rfl, ite2 (fun e => ?_) (fun e => ?_)⟩
    · exact ⟨sz _ (by omega), sz _ (by omega), sz _ (by omega), by rw [slen_app]; exact sz _ (by omega), q _ ⟨_, rfl, by rw [slen_app, slen_app]; omega⟩⟩
    · exact ⟨sz _ (by omega), sz _ (by omega), sz _ (by omega), by rw [slen_app]; exact sz _ (by omega), q _ ⟨_, rfl, by rw [slen_app, slen_app]; omega⟩⟩
/-! #### law_drawn_text -/
theorem ok_law_drawn_text {f : Addr} {fd : FuncData} (F : Fun K "_law_drawn_text" "_law_drawn_text" st_law_drawn_text f fd) (T : Txt mg) (C_law_sized : Df P w K mg base "_law_sized" 4 ["store", "low", "high"] sp_law_sized) (C_law_with_sign : Df P w K mg base "_law_with_sign" 4 ["store", "text"] sp_law_with_sign) (C_law_step_name : Df P w K mg base "_law_step_name" 5 ["store", "word"] sp_law_step_name) (C_law_word : Df P w K mg base "_law_word" 4 ["store"] sp_law_word) (C_law_long_name : Df P w K mg base "_law_long_name" 5 ["store"] sp_law_long_name) (C_law_any_text : Df P w K mg base "_law_any_text" 4 ["store", "most"] sp_law_any_text) (C_law_no_step_name : Df P w K mg base "_law_no_step_name" 5 ["store"] sp_law_no_step_name) (C_law_no_word : Df P w K mg base "_law_no_word" 5 ["store"] sp_law_no_word) (C_law_take : Df P w K mg base "_law_take" 2 ["store", "many"] sp_law_take) : FnD P w K mg base 6 f fd ["store"] sp_law_drawn_text := by
  refine fn_d (k := 5) F sc_law_drawn_text (fun ds θ Q E h => ?_) (fun cdv A outer s H E Ed hr => ⟨_, (b_cons (s_set (i := 1) sc_law_drawn_text.nd (d_callD tk_def C_law_take hr (by omega) (a_cons (d_var 0) (a_cons d_int a_nil))))
      (b_cons (s_if (t_cmp o_eq (d_var 1) d_int)
        (b_one (s_ret (d_callD tk_def C_law_step_name hr (by omega) (a_cons (d_var 0) (a_cons (d_callD tk_def C_law_word hr (by omega) (a_cons (d_var 0) a_nil)) a_nil)))))
        b_nil)
      (b_cons (s_if (t_cmp o_eq (d_var 1) d_int)
        (b_one (s_ret (d_callD tk_def C_law_no_word hr (by omega) (a_cons (d_var 0) a_nil))))
        b_nil)
      (b_cons (s_if (t_cmp o_eq (d_var 1) d_int)
        (b_one (s_ret (d_callD tk_def C_law_no_step_name hr (by omega) (a_cons (d_var 0) a_nil))))
        b_nil)
      (b_cons (s_if (t_cmp o_eq (d_var 1) d_int)
        (b_one (s_ret (d_callD tk_def C_law_any_text hr (by omega) (a_cons (d_var 0) (a_cons d_int a_nil)))))
        b_nil)
      (b_cons (s_if (t_cmp o_lt (d_var 1) d_int)
        (b_one (s_ret (d_callD tk_def C_law_long_name hr (by omega) (a_cons (d_var 0) a_nil))))
        b_nil)
      (b_cons (s_if (t_cmp o_eq (d_var 1) d_int)
        (b_one (s_ret (d_callD tk_def C_law_with_sign hr (by omega) (a_cons (d_var 0) (a_cons (d_callD tk_def C_law_long_name hr (by omega) (a_cons (d_var 0) a_nil)) a_nil)))))
        b_nil)
      (b_cons (s_if (t_cmp o_eq (d_var 1) d_int)
        (b_one (s_ret (d_callD tk_def C_law_with_sign hr (by omega) (a_cons (d_var 0) (a_cons (d_callD tk_def C_law_step_name hr (by omega) (a_cons (d_var 0) (a_cons (d_callD tk_def C_law_word hr (by omega) (a_cons (d_var 0) a_nil)) a_nil))) a_nil)))))
        b_nil)
      (b_one (s_ret (d_callD tk_def C_law_sized hr (by omega) (a_cons (d_var 0) (a_cons d_int (a_cons d_int a_nil)))))))))))))), fun ds θ Q h => ?_⟩)
  · obtain ⟨a, rfl, _⟩ := h; rfl
  · obtain ⟨a, rfl, hS, q⟩ := h
    have qm : ∀ n, n ≤ 5000 → ∀ d, Tx n d → Q d θ := fun n h d hd => q d (hd.mono h)
    refine ⟨a, _, rfl, hS, pow900 (by decide), fun form f0 f1 => ?_⟩
    refine ⟨_, rfl, ite2 (fun e => ?_) (fun e => ?_)⟩
    · refine ⟨a, rfl, hS, fun d hd => ?_⟩
      obtain ⟨y, rfl, hy, _⟩ := hd
      exact ⟨a, _, rfl, hS, by omega, qm _ (by omega)⟩
    refine ⟨_, rfl, ite2 (fun e => ⟨a, rfl, hS, fun d hd => qm 20 (by decide) d hd.tx⟩) (fun e => ?_)⟩
    refine ⟨_, rfl, ite2 (fun e => ⟨a, rfl, hS, qm _ (by omega)⟩) (fun e => ?_)⟩
    refine ⟨_, rfl, ite2 (fun e => ⟨a, _, rfl, hS, by decide, by decide, qm _ (by omega)⟩) (fun e => ?_)⟩
    refine ite2 (fun e => ⟨a, rfl, hS, qm _ (by omega)⟩) (fun e => ?_)
    refine ⟨_, rfl, ite2 (fun e => ?_) (fun e => ?_)⟩
    · refine ⟨a, rfl, hS, fun d hd => ?_⟩
      obtain ⟨y, rfl, hy⟩ := hd
      exact ⟨a, _, rfl, hS, by omega, qm _ (by omega)⟩
    refine ⟨_, rfl, ite2 (fun e => ?_) (fun e => ?_)⟩
    · refine ⟨a, rfl, hS, fun d hd => ?_⟩
      obtain ⟨y, rfl, hy, _⟩ := hd
      refine ⟨a, _, rfl, hS, by omega, fun d hd => ?_⟩
      obtain ⟨x, rfl, hx⟩ := hd
      exact ⟨a, _, rfl, hS, by omega, qm _ (by omega)⟩
    · refine ⟨a, _, _, rfl, hS, by decide, by decide, by decide, fun l l0 l1 hl => qm _ (Nat.le_refl _) _ ⟨_, rfl, ?_⟩⟩
      rw [SX.S_len]; omega
/-! #### law_text_is_told -/
theorem ok_law_text_is_told {f : Addr} {fd : FuncData} (F : Fun K "_law_text_is_told" "_law_text_is_told" st_law_text_is_told f fd) (T : Txt mg) (C_law_same : Df P w K mg base "_law_same" 5 ["actual", "due"] (sp_law_same 4)) (C_join_name : Df P w K mg base "join_name" 2 ["word", "words"] sp_join_name) (C_name_parts : Df P w K mg base "name_parts" 3 ["text"] sp_name_parts) (C_is_step_name : Df P w K mg base "is_step_name" 4 ["text"] sp_is_step_name) (C_is_word : Df P w K mg base "is_word" 1 ["text"] sp_is_word) (C_law_own_word : Df P w K mg base "_law_own_word" 1 ["text"] sp_law_own_word) (C_law_own_pieces : Df P w K mg base "_law_own_pieces" 2 ["text"] sp_law_own_pieces) : FnD P w K mg base 6 f fd ["text"] sp_law_text_is_told := by
  refine fn_d (k := 5) F sc_law_text_is_told (fun ds θ Q E h => ?_) (fun cdv A outer s H E Ed hr => ⟨_, (b_cons (s_set (i := 1) sc_law_text_is_told.nd (d_callD tk_def C_law_own_pieces hr (by omega) (a_cons (d_var 0) a_nil)))
      (b_cons (s_set (i := 2) sc_law_text_is_told.nd (d_callD tk_def C_law_own_word hr (by omega) (a_cons (d_var 0) a_nil)))
      (b_cons (s_if (t_bool (w_or (t_not (t_tru (d_callD tk_def C_law_same hr (by omega) (a_cons (d_callD tk_def C_is_word hr (by omega) (a_cons (d_var 0) a_nil)) (a_cons (d_var 2) a_nil))))) (w_or1 (t_not (t_tru (d_callD tk_def C_law_same hr (by omega) (a_cons (d_callD tk_def C_is_step_name hr (by omega) (a_cons (d_var 0) a_nil)) (a_cons (d_cmp o_isnot (d_var 1) d_non) a_nil))))))))
        (b_one (s_ret d_bl))
        b_nil)
      (b_cons (s_if (t_not (t_tru (d_callD tk_def C_law_same hr (by omega) (a_cons (d_callD tk_def C_name_parts hr (by omega) (a_cons (d_var 0) a_nil)) (a_cons (d_var 1) a_nil)))))
        (b_one (s_ret d_bl))
        b_nil)
      (b_cons (s_set (i := 3) sc_law_text_is_told.nd d_non)
      (b_cons (s_cut (s_if (t_tru (d_var 2))
        (b_one (s_set (i := 3) sc_law_text_is_told.nd (d_var 0)))
        b_nil))
      (b_cons (s_if (t_bool (w_or (t_not (t_tru (d_callD tk_def C_law_same hr (by omega) (a_cons (d_callD tk_def C_join_name hr (by omega) (a_cons (d_var 0) (a_cons (d_lst false a_nil) a_nil))) (a_cons (d_var 3) a_nil))))) (w_or1 (t_not (t_tru (d_callD tk_def C_law_same hr (by omega) (a_cons (d_callD tk_def C_join_name hr (by omega) (a_cons (d_var 0) (a_cons (d_tup a_nil) a_nil))) (a_cons (d_var 3) a_nil))))))))
        (b_one (s_ret d_bl))
        b_nil)
      (b_cons (s_if (t_cmp o_is (d_var 1) d_non)
        (b_one (s_ret d_bl))
        b_nil)
      (b_cons (s_set (i := 4) sc_law_text_is_told.nd (d_callTy (c_list (cc := false)) T.n_list bt_list (a_cons (d_ix i_seq (d_var 1) d_int) a_nil)))
      (b_one (s_ret (d_and (d_callD tk_def C_law_same hr (by omega) (a_cons (d_callD tk_def C_join_name hr (by omega) (a_cons (d_ix i_seq (d_var 1) d_int) (a_cons (d_var 4) a_nil))) (a_cons (d_var 0) a_nil))) (d_one (d_callD tk_def C_law_same hr (by omega) (a_cons (d_var 4) (a_cons (d_callTy (c_list (cc := false)) T.n_list bt_list (a_cons (d_ix i_seq (d_var 1) d_int) a_nil)) a_nil)))))))))))))))), fun ds θ Q h => ?_⟩)
  · obtain ⟨l, rfl, _⟩ := h; rfl
  · obtain ⟨l, rfl, hz, q⟩ := h
    refine ⟨l, rfl, hz, fun due hd => ?_⟩
    have hok := pcs_ok hd
    refine ⟨l, rfl, hz, ?_⟩
    have sb : ∀ b : Bool, sameD (.bl b) (.bl b) = true := fun b => by simp [sameD]
    dsimp only [dNext, dSeq]
    refine d_test (b := !true || !true) (an_or (an_not fun Q q => ⟨l, rfl, hz, _, _, rfl, .bl _, rfl, ⟨3, rfl⟩, by rw [show vw θ (.bl (wordB l)) = .bl (wordB l) from rfl, sb]; exact q⟩) fun _ => an_not fun Q q => ⟨l, rfl, hz, fun d hd' => ?_⟩) ?_
    · rw [pcs_uni hd' hd]
      exact ⟨_, _, rfl, .bl _, rfl, ⟨3, rfl⟩, by rw [show vw θ (.bl (!isN due)) = .bl (!isN due) from rfl, sb]; exact q⟩
    refine iteF ?_
    refine ⟨l, rfl, hz, fun d hd' => ?_⟩
    rw [pcs_uni hd' hd]
    refine ⟨_, _, rfl, okD_dat hok, hok, ⟨3, by rw [okD_vw hok]; exact hok⟩, ?_⟩
    rw [okD_vw hok, sameD_refl 3 _ hok]
    refine iteF ?_
    have jok := joinD_ok l [] 3
    have eA : joinD l [] = if wordB l = true then .str (SX.S l) else .non := by
      unfold joinD
      cases h : wordB l <;> simp
    refine ⟨fun ρ θ' => ρ = [some (.str (SX.S l)), some due, some (.bl (wordB l)), some (joinD l []), none] ∧ θ' = θ, ?_, fun ρ θ' hP => ?_⟩
    · refine ite2 (fun e => ⟨?_, rfl⟩) (fun e => ⟨?_, rfl⟩)
      · rw [eA, if_pos e]; rfl
      · rw [eA, if_neg e]; rfl
    obtain ⟨rfl, rfl⟩ := hP
    dsimp only [dNext, dSeq]
    refine d_test (b := !true || !true) (an_or (an_not fun Q q => ⟨by show 0 ≤ sizeLine; decide, l, _, [], rfl, .inl rfl, hz, by decide, (fun p hp => nomatch hp), _, _, rfl, okD_dat jok, jok, ⟨3, by rw [okD_vw jok]; exact jok⟩, by rw [okD_vw jok, sameD_refl 3 _ jok]; exact q⟩) fun _ => an_not fun Q q => ⟨by show 0 ≤ sizeLine; decide, l, _, [], rfl, .inr rfl, hz, by decide, (fun p hp => nomatch hp), _, _, rfl, okD_dat jok, jok, ⟨3, by rw [okD_vw jok]; exact jok⟩, by rw [okD_vw jok, sameD_refl 3 _ jok]; exact q⟩) ?_
    refine iteF ?_
    show if isN due = true then _ else _
    rcases pcs_cases hd with rfl | ⟨w, ws, rfl, h1, h2, h3, h4⟩
    · refine iteT ?_
      exact q
    · refine iteF ?_
      have wsz : ∀ p ∈ ws, p.length ≤ 1000000 := fun p hp => by
        have := wordB_len (List.all_eq_true.mp h3 p hp)
        omega
      have wl := wordB_len h2
      have eJ : joinD w ws = .str (SX.S l) := by
        have : joinD w ws = .str _ := if_pos ⟨h1, h2, h3⟩
        rw [this, h4]
      have tok : okD 3 (.lst (ws.map fun p => D.str (SX.S p))) = true := by
        simp only [okD, Bool.and_eq_true, decide_eq_true_eq]
        refine ⟨by rw [List.length_map]; omega, okL_all fun d hd => ?_⟩
        obtain ⟨p, _, rfl⟩ := List.mem_map.mp hd
        rfl
      refine ⟨_, _, rfl, atI_nat (j := 1) rfl, _, rfl, ?_⟩
      unfold newL
      rw [if_neg Bool.false_ne_true]
      dsimp only [gNm, dRet]
      refine ev_and (b := true) (d := fun _ => .bl true) (fun Q q => ⟨_, _, rfl, atI_nat (j := 0) rfl, w, _, ws, rfl, .inl rfl, by omega, by omega, wsz, _, _, rfl, by rw [eJ]; exact .str _, rfl, ⟨3, by rw [eJ]; rfl⟩, ?_⟩) (fun _ Q q => ?_) (fun h => by cases h) _ q
      · refine ⟨_, _, rfl, atI_nat (j := 1) rfl, _, rfl, _, _, rfl, .lst _, tok, ⟨3, tok⟩, ?_⟩
        rw [show vw θ' (.lst (ws.map fun p => D.str (SX.S p))) = .lst (ws.map fun p => D.str (SX.S p)) from rfl, sameD_refl 3 _ tok]
        exact q
      · rw [eJ, show sameD (vw θ' (.str (SX.S l))) (.str (SX.S l)) = true from by simp [vw, sameD]]
        exact q
/-! #### law_piece -/
theorem ok_law_piece {f : Addr} {fd : FuncData} (F : Fun K "_law_piece" "_law_piece" st_law_piece f fd) (T : Txt mg) (C_law_pick : Df P w K mg base "_law_pick" 3 ["store", "items"] sp_law_pick) (C_law_no_word : Df P w K mg base "_law_no_word" 5 ["store"] sp_law_no_word) (C_law_word : Df P w K mg base "_law_word" 4 ["store"] sp_law_word) (C_law_take : Df P w K mg base "_law_take" 2 ["store", "many"] sp_law_take) : FnD P w K mg base 6 f fd ["store"] sp_law_piece := by
  refine fn_d (k := 5) F sc_law_piece (fun ds θ Q E h => ?_) (fun cdv A outer s H E Ed hr => ⟨_, (b_cons (s_set (i := 1) sc_law_piece.nd (d_callD tk_def C_law_take hr (by omega) (a_cons (d_var 0) (a_cons d_int a_nil))))
      (b_cons (s_if (t_cmp o_lt (d_var 1) d_int)
        (b_one (s_ret (d_callD tk_def C_law_word hr (by omega) (a_cons (d_var 0) a_nil))))
        b_nil)
      (b_cons (s_if (t_cmp o_eq (d_var 1) d_int)
        (b_one (s_ret (d_callD tk_def C_law_no_word hr (by omega) (a_cons (d_var 0) a_nil))))
        b_nil)
      (b_one (s_ret (d_callD tk_def C_law_pick hr (by omega) (a_cons (d_var 0) (a_cons (d_tup (a_cons d_str (a_cons d_str (a_cons d_str (a_cons d_str (a_cons d_str (a_cons d_str (a_cons d_str (a_cons d_str (a_cons d_str (a_cons d_str (a_cons d_str a_nil)))))))))))) a_nil)))))))), fun ds θ Q h => ?_⟩)
  · obtain ⟨a, rfl, _⟩ := h; rfl
  · obtain ⟨a, rfl, hS, q⟩ := h
    refine ⟨a, _, rfl, hS, pow900 (by decide), fun form f0 f1 => ?_⟩
    refine ite2 (fun e => ⟨a, rfl, hS, fun d hd => q d (hd.mono (by decide))⟩) (fun e => ?_)
    refine ⟨_, rfl, ite2 (fun e => ⟨a, rfl, hS, fun d hd => q d (hd.mono (by decide))⟩) (fun e => ?_)⟩
    exact ⟨by decide, a, _, _, rfl, hS, rfl, by decide, by decide, fun d hd => q d ((all_txo (n := 20) (by decide +kernel) d hd).mono (by decide))⟩
/-! #### law_join_is_told -/
theorem ok_law_join_is_told {f : Addr} {fd : FuncData} (F : Fun K "_law_join_is_told" "_law_join_is_told" st_law_join_is_told f fd) (T : Txt mg) (C_law_same : Df P w K mg base "_law_same" 5 ["actual", "due"] (sp_law_same 4)) (C_join_name : Df P w K mg base "join_name" 2 ["word", "words"] sp_join_name) (C_law_one_in : Df P w K mg base "_law_one_in" 3 ["store", "many"] sp_law_one_in) (C_law_own_word : Df P w K mg base "_law_own_word" 1 ["text"] sp_law_own_word) (C_law_take : Df P w K mg base "_law_take" 2 ["store", "many"] sp_law_take) (C_law_pick : Df P w K mg base "_law_pick" 3 ["store", "items"] sp_law_pick) (C_law_piece : Df P w K mg base "_law_piece" 6 ["store"] sp_law_piece) : FnD P w K mg base 7 f fd ["store"] sp_law_join_is_told := by
  refine fn_d (k := 6) F sc_law_join_is_told (fun ds θ Q E h => ?_) (fun cdv A outer s H E Ed hr => ⟨_, (b_cons (s_set (i := 1) sc_law_join_is_told.nd (d_callD tk_def C_law_piece hr (by omega) (a_cons (d_var 0) a_nil)))
      (b_cons (s_setLc (own := [("k", 3)]) (i := 2) true rfl sc_law_join_is_told.nd (i_rng1 T.n_range (a_cons (d_callD tk_def C_law_pick hr (by omega) (a_cons (d_var 0) (a_cons (d_tup (a_cons d_int (a_cons d_int (a_cons d_int (a_cons d_int (a_cons d_int (a_cons d_int (a_cons d_int (a_cons d_int (a_cons d_int a_nil)))))))))) a_nil))) a_nil)) (blkOk_by (N := nm_law_join_is_told) (sc := defScope st_law_join_is_told) (by decide +kernel)) (fun _ _ _ _ _ => (g_name 3 sc_law_join_is_told.nd)) (fun _ _ _ _ _ => ts_nil) (fun _ _ _ _ _ => (d_callD takes0 C_law_piece hr (by omega) (a_cons (d_var 0) a_nil))))
      (b_cons (s_cut (s_if (t_bool (w_and (t_cmp o_gt (d_callB c_len T.n_len bt_len (a_cons (d_var 2) a_nil)) d_int) (w_and1 (t_tru (d_callD tk_def C_law_one_in hr (by omega) (a_cons (d_var 0) (a_cons d_int a_nil)))))))
        (b_one (s_asg (d_ix i_seq (d_var 2) d_int) (g_sub (d_var 2) (d_un o_neg d_int) o_setL)))
        b_nil))
      (b_frz 2 (b_cons (s_cut (s_if (t_tru (d_callD tk_def C_law_one_in hr (by omega) (a_cons (d_var 0) (a_cons d_int a_nil))))
        (b_one (s_set (i := 2) sc_law_join_is_told.nd (d_op (o_add (c := false)) (d_var 2) (d_op (o_mul (c := false)) (d_lst false (a_cons d_str a_nil)) (d_op (o_add (c := false)) d_int (d_callD tk_def C_law_take hr (by omega) (a_cons (d_var 0) (a_cons d_int a_nil))))))))
        b_nil))
      (b_cons (s_set (i := 4) sc_law_join_is_told.nd d_non)
      (b_cons (s_cut (s_if (t_bool (w_and (t_tru (d_callD tk_def C_law_own_word hr (by omega) (a_cons (d_var 1) a_nil))) (w_and (t_cmp o_le (d_callB c_len T.n_len bt_len (a_cons (d_var 2) a_nil)) d_int) (w_and1 (t_cmp (o_eqD hr.units) (d_lc (own := [("item", 5)]) false rfl sc_law_join_is_told.nd (i_seq' (d_var 2)) (blkOk_by (N := nm_law_join_is_told) (sc := defScope st_law_join_is_told) (by decide +kernel)) (fun _ _ _ _ _ => (g_name 5 sc_law_join_is_told.nd)) (fun _ _ _ _ _ => (ts_one (t_not (t_tru (d_callD takes0 C_law_own_word hr (by omega) (a_cons (d_var 5) a_nil)))))) (fun _ _ _ _ _ => (d_var 5))) (d_lst false a_nil))))))
        (b_cons (s_set (i := 4) sc_law_join_is_told.nd (d_var 1))
        (b_one (s_if (t_cmp o_gt (d_callB c_len T.n_len bt_len (a_cons (d_var 2) a_nil)) d_int)
          (b_one (s_set (i := 4) sc_law_join_is_told.nd (d_op (o_add (c := false)) (d_op (o_add (c := false)) (d_op (o_add (c := false)) (d_var 1) d_str) (d_bm PySem.F.plainAttrs_str PySem.F.slot_str_join PySem.F.type_str_join m_join d_str (a_cons (d_var 2) a_nil))) d_str)))
          b_nil)))
        b_nil))
      (b_cons (s_if (t_tru (d_callD tk_def C_law_one_in hr (by omega) (a_cons (d_var 0) (a_cons d_int a_nil))))
        (b_one (s_ret (d_callD tk_def C_law_same hr (by omega) (a_cons (d_callD tk_def C_join_name hr (by omega) (a_cons (d_var 1) (a_cons (d_callTy c_tuple T.n_tuple bt_tuple (a_cons (d_var 2) a_nil)) a_nil))) (a_cons (d_var 4) a_nil)))))
        b_nil)
      (b_cons (s_set (i := 6) sc_law_join_is_told.nd (d_callTy (c_list (cc := false)) T.n_list bt_list (a_cons (d_var 2) a_nil)))
      (b_cons (s_set (i := 7) sc_law_join_is_told.nd (d_callD tk_def C_join_name hr (by omega) (a_cons (d_var 1) (a_cons (d_var 6) a_nil))))
      (b_one (s_ret (d_and (d_callD tk_def C_law_same hr (by omega) (a_cons (d_var 7) (a_cons (d_var 4) a_nil))) (d_one (d_callD tk_def C_law_same hr (by omega) (a_cons (d_var 6) (a_cons (d_var 2) a_nil))))))))))))))))), fun ds θ Q h => ?_⟩)
  · obtain ⟨a, rfl, _⟩ := h; rfl
  · obtain ⟨a, rfl, hS, q⟩ := h
    refine ⟨a, rfl, hS, fun d hd => ?_⟩
    obtain ⟨w, rfl, hw⟩ := tx_S hd.tx
    refine ⟨by decide, a, _, _, rfl, hS, rfl, by decide, by decide, fun e he => ?_⟩
    obtain ⟨m, rfl, hm⟩ : ∃ m : Int, e = .int m ∧ (0 ≤ m ∧ m ≤ 4) := by
      simp only [List.mem_cons, List.not_mem_nil, or_false] at he
      rcases he with rfl | rfl | rfl | rfl | rfl | rfl | rfl | rfl | rfl <;> exact ⟨_, rfl, by omega⟩
    refine ⟨by omega, by omega, lc_draw (TxO 20) (by rw [rngD_len]; exact sz _ (by omega)) (fun i x hx k hk => ?_) (fun acc hl hacc => ?_)⟩
    · exact ⟨a, rfl, hS, hk⟩
    rw [rngD_len] at hl
    obtain ⟨ws, rfl, hws⟩ := words_of (f := fun p => D.str (SX.S p)) (g := fun l => l.length ≤ 20 ∧ Cp (SX.S l)) (fun d hd => by
      obtain ⟨z, rfl, h1, h2⟩ := hd
      exact ⟨TL.tl z, ⟨by rw [← TL.len_tl]; exact h1, by rw [S_tl']; exact h2⟩, by rw [S_tl']⟩) hacc
    have eA : (Str.ofString "a") = SX.S [97] := by decide +kernel
    have eO : (Str.ofString "(") = SX.S [40] := by decide +kernel
    have eC : (Str.ofString ")") = SX.S [41] := by decide +kernel
    have eK : (Str.ofString ",") = SX.S [44] := by decide +kernel
    have hW := SX.S_len w
    rw [List.length_map] at hl
    refine fun b hb => ?_
    have nab : a ≠ b := th_ne hS hb
    have hS' : ∀ xs, Sto (ups θ b (.lst xs)) a := fun xs => (ups_ne nab).trans hS
    refine ⟨fun ρ θ' => ∃ us : List (List Nat), ρ = [some (.ref a), some (.str (SX.S w)), some (.ref b), none, none, none, none, none] ∧ θ' = ups θ b (.lst (us.map fun p => .str (SX.S p))) ∧ us.length ≤ 4 ∧ ∀ p ∈ us, p.length ≤ 20 ∧ Cp (SX.S p), ?_, fun ρ θ' hP => ?_⟩
    · have skip : ∃ us : List (List Nat), ([some (.ref a), some (.str (SX.S w)), some (.ref b), none, none, none, none, none] : Sl) = [some (.ref a), some (.str (SX.S w)), some (.ref b), none, none, none, none, none] ∧ ups θ b (.lst (ws.map fun p => D.str (SX.S p))) = ups θ b (.lst (us.map fun p => .str (SX.S p))) ∧ us.length ≤ 4 ∧ ∀ p ∈ us, p.length ≤ 20 ∧ Cp (SX.S p) := ⟨ws, rfl, rfl, by omega, hws⟩
      refine ⟨_, asQ_ref ups_same, ?_⟩
      refine ite2 (fun e => ⟨a, _, rfl, hS' _, pow900 (by decide), fun b => ite2 (fun _ => ?_) (fun _ => skip)⟩) (fun e => skip)
      obtain ⟨p0, pr, rfl⟩ : ∃ p0 pr, ws = p0 :: pr := by
        cases ws with
        | nil => simp at e
        | cons p r => exact ⟨p, r, rfl⟩
      refine ⟨_, _, asQ_ref ups_same, atI_nat (j := 0) rfl, ?_⟩
      refine ⟨_, ups_same, pr.length, ?_, ?_⟩
      · unfold L2.ixN; simp; omega
      · rw [ups_ups]
        refine ⟨(p0 :: pr).set pr.length p0, rfl, ?_, by simp at hl ⊢; omega, fun p hp => ?_⟩
        · rw [List.map_set]
        · rcases List.mem_or_eq_of_mem_set hp with h | rfl
          · exact hws _ h
          · exact hws _ (by simp)
    obtain ⟨us, rfl, rfl, hul, hus⟩ := hP
    refine ⟨_, ups_same, ?_⟩
    rw [ers_ups hb]
    refine ⟨fun ρ θ' => ∃ us : List (List Nat), ρ = [some (.ref a), some (.str (SX.S w)), some (.lst (us.map fun p => .str (SX.S p))), none, none, none, none, none] ∧ θ' = θ ∧ us.length ≤ 100 ∧ ∀ p ∈ us, p.length ≤ 20 ∧ Cp (SX.S p), ?_, fun ρ θ' hP => ?_⟩
    · refine ⟨a, _, rfl, hS, pow900 (by decide), fun b => ite2 (fun _ => ?_) (fun _ => ⟨us, rfl, rfl, by omega, hus⟩)⟩
      refine ⟨by show 1 ≤ sizeLine; decide, a, _, rfl, hS, pow900 (by decide), fun k k0 k1 => ?_⟩
      refine ⟨_, rfl, by omega, by omega, ?_, ?_⟩
      · show 1 * _ ≤ _; exact sz _ (by omega)
      · rw [List.flatten_replicate_singleton, eA]
        refine ⟨_, _, rfl, rfl, ?_, ?_⟩
        · rw [List.length_map, List.length_replicate]; exact sz _ (by omega)
        · refine ⟨us ++ List.replicate (1 + k).toNat [97], ?_, rfl, by rw [List.length_append, List.length_replicate]; omega, fun p hp => ?_⟩
          · rw [List.map_append, List.map_replicate]; rfl
          · rcases List.mem_append.mp hp with h | h
            · exact hus _ h
            · rw [List.eq_of_mem_replicate h]; exact ⟨by decide, by decide +kernel⟩
    obtain ⟨us, rfl, rfl, hul, hus⟩ := hP
    have jok := joinD_ok w us 3
    have hq2 : ∀ p ∈ us, p.length ≤ 1000000 := fun p hp => by have := (hus p hp).1; omega
    refine ⟨fun ρ θ3 => ρ = [some (.ref a), some (.str (SX.S w)), some (.lst (us.map fun p => .str (SX.S p))), none, some (joinD w us), none, none, none] ∧ θ3 = θ', ?_, fun ρ θ2 hP => ?_⟩
    · dsimp only [dNext, dSeq]
      refine d_test (b := wordB w && (decide (us.length ≤ 2) && us.all wordB)) (an_and (fun Q q => ⟨w, rfl, by omega, q⟩) fun _ => an_and (fun Q q => ⟨_, rfl, by show Q (decide (((us.map fun p => D.str (SX.S p)).length : Int) ≤ 2)) θ'; rw [List.length_map]; exact (show (decide ((us.length : Int) ≤ 2)) = decide (us.length ≤ 2) from decide_eq_decide.mpr (by omega)) ▸ q⟩) fun _ Q q => ?_) ?_
      · refine ⟨_, rfl, lc_filter (fun x => match x with | .str s => !wordB (TL.tl s) | _ => false) id (by rw [List.length_map]; exact sz _ (by omega)) (fun i x hx k k0 h1 h2 => ?_) ?_⟩
        · obtain ⟨p, hp, rfl⟩ := List.mem_map.mp (List.mem_of_getElem? hx)
          refine ⟨p, rfl, hq2 p hp, ?_⟩
          exact ite2 (fun e => h1 e) (fun e => h2 (by simpa using e))
        · have ef : ((us.map fun p => D.str (SX.S p)).filter (fun x => match x with | .str s => !wordB (TL.tl s) | _ => false)).map id = ((us.filter fun p => !wordB p).map SX.S).map D.str := by
            rw [List.map_id, List.filter_map, List.map_map]
            rfl
          rw [ef]
          have hcp : ∀ z ∈ (us.filter fun p => !wordB p).map SX.S, Cp z := fun z hz => by
            obtain ⟨p, hp, rfl⟩ := List.mem_map.mp hz
            exact (hus p (List.mem_filter.mp hp).1).2
          refine ⟨by show 0 ≤ sizeLine; decide, _, _, (by show (pdL _).map PyData.list = _; rw [pdL_strs]; rfl), rfl, shaped_strs hcp, by decide +kernel, ?_⟩
          rw [eqv_nil]
          have : (List.map PyData.str ((us.filter fun p => !wordB p).map SX.S)).isEmpty = us.all wordB := by
            rw [List.isEmpty_map, List.isEmpty_map, Bool.eq_iff_iff, List.isEmpty_iff, List.filter_eq_nil_iff, List.all_eq_true]
            simp
          rw [this]; exact q
      · refine ite2 (fun e => ?_) (fun e => ?_)
        · simp only [Bool.and_eq_true, decide_eq_true_eq] at e
          have eJ : joinD w us = .str (SX.S (if us = [] then w else nameL w us)) := if_pos ⟨e.2.1, e.1, e.2.2⟩
          refine ⟨_, rfl, ?_⟩
          rw [List.length_map, eJ]
          refine ite2 (fun e3 => ?_) (fun e3 => ?_)
          · have hne : us ≠ [] := by
              intro z; rw [z] at e3; simp at e3
            rw [if_neg hne]
            have hs : (us.map List.length).sum ≤ 20 := by
              have : ∀ l : List (List Nat), l.length ≤ 2 → l.all wordB = true → (l.map List.length).sum ≤ 10 * l.length := by
                intro l
                induction l with
                | nil => simp
                | cons a r ih =>
                  intro h1 h2
                  simp only [List.all_cons, Bool.and_eq_true, List.length_cons] at h1 h2
                  have := ih (by omega) h2.2
                  have := wordB_len h2.1
                  simp; omega
              have := this us e.2.1 e.2.2
              omega
            have e4 : ∀ l : List (List Nat), (List.map ((fun x : Str => x.length) ∘ SX.S) l) = l.map List.length := fun l => List.map_congr_left fun p _ => SX.S_len p
            have hjl : (TL.joinL [44] us).length ≤ 30 := by
              have h := join_len (SX.S [44]) (us.map SX.S)
              rw [SX.join_S, SX.S_len, SX.S_len, List.length_map, List.map_map, e4] at h
              simp at h; omega
            have hwl := (wordB_len e.1).2
            rw [eO, eC, eK]
            refine ⟨by rw [SX.S_len, SX.S_len]; exact sz _ (by simp; omega), rfl, _, _, rfl, txts_S us, ?_, ?_⟩
            · rw [SX.S_len, List.map_map, List.length_map, e4]
              simp; omega
            · rw [SX.join_S, SX.S_cat]
              refine ⟨by rw [SX.S_len, SX.S_len]; exact sz _ (by simp; omega), ?_⟩
              rw [SX.S_cat]
              refine ⟨by rw [SX.S_len, SX.S_len]; exact sz _ (by simp; omega), ?_⟩
              rw [SX.S_cat]
              have : (w ++ [40] ++ TL.joinL [44] us) ++ [41] = nameL w us := by unfold nameL; simp
              rw [this]
              exact ⟨rfl, rfl⟩
          · have hne : us = [] := by
              cases us with
              | nil => rfl
              | cons a r => simp at e3
            rw [if_pos hne]
            exact ⟨rfl, rfl⟩
        · have eJ : joinD w us = .non := if_neg fun z => e (by rw [z.2.1, z.2.2, decide_eq_true z.1]; rfl)
          rw [eJ]
          exact ⟨rfl, rfl⟩
    obtain ⟨rfl, rfl⟩ := hP
    have tok : okD 3 (.lst (us.map fun p => D.str (SX.S p))) = true := by
      simp only [okD, Bool.and_eq_true, decide_eq_true_eq]
      refine ⟨by rw [List.length_map]; omega, okL_all fun d hd => ?_⟩
      obtain ⟨p, _, rfl⟩ := List.mem_map.mp hd
      rfl
    have js : ∀ Q : DQ, Q (.bl true) θ2 → sp_law_same 4 [joinD w us, joinD w us] θ2 Q Ed := fun Q q =>
      ⟨_, _, rfl, okD_dat jok, jok, ⟨3, by rw [okD_vw jok]; exact jok⟩, by rw [okD_vw jok, sameD_refl 3 _ jok]; exact q⟩
    refine ⟨a, _, rfl, hS, pow900 (by decide), fun b => ite2 (fun _ => ?_) (fun _ => ?_)⟩
    · exact ⟨_, rfl, w, _, us, rfl, .inr rfl, by omega, by omega, hq2, js _ q⟩
    · refine ⟨_, rfl, ?_⟩
      refine ⟨w, _, us, rfl, .inl rfl, by omega, by omega, hq2, ?_⟩
      dsimp only [gNm, dRet]
      refine ev_and (b := true) (d := fun _ => .bl true) (fun Q q => js Q q) (fun _ Q q => ?_) (fun h => by cases h) _ q
      refine ⟨_, _, rfl, .lst _, tok, ⟨3, tok⟩, ?_⟩
      rw [show vw θ2 (.lst (us.map fun p => D.str (SX.S p))) = .lst (us.map fun p => D.str (SX.S p)) from rfl, sameD_refl 3 _ tok]
      exact q
/-! #### law -/
theorem ok_law {f : Addr} {fd : FuncData} (F : Fun K "law" "law" st_law f fd) (T : Txt mg) (C_law_same : Df P w K mg base "_law_same" 5 ["actual", "due"] (sp_law_same 4)) (C_name_parts : Df P w K mg base "name_parts" 3 ["text"] sp_name_parts) (C_join_name : Df P w K mg base "join_name" 2 ["word", "words"] sp_join_name) (C_law_sized : Df P w K mg base "_law_sized" 4 ["store", "low", "high"] sp_law_sized) (C_law_take : Df P w K mg base "_law_take" 2 ["store", "many"] sp_law_take) (C_law_join_is_told : Df P w K mg base "_law_join_is_told" 7 ["store"] sp_law_join_is_told) (C_law_text_is_told : Df P w K mg base "_law_text_is_told" 6 ["text"] sp_law_text_is_told) (C_law_drawn_text : Df P w K mg base "_law_drawn_text" 6 ["store"] sp_law_drawn_text) (C_law_bent_text : Df P w K mg base "_law_bent_text" 4 ["store", "word"] sp_law_bent_text) (C_law_word : Df P w K mg base "_law_word" 4 ["store"] sp_law_word) (C_law_step_name : Df P w K mg base "_law_step_name" 5 ["store", "word"] sp_law_step_name) (C_law_store : Df P w K mg base "_law_store" 1 ["script"] sp_law_store) : FnD P w K mg base 8 f fd ["script"] sp_law := by
  refine fn_d (k := 7) F sc_law (fun ds θ Q E h => ?_) (fun cdv A outer s H E Ed hr => ⟨_, (b_cons (s_set (i := 1) sc_law.nd (d_callD tk_def C_law_store hr (by omega) (a_cons (d_var 0) a_nil)))
      (b_cons (s_set (i := 2) sc_law.nd (d_lst true (a_cons (d_callD tk_def C_law_step_name hr (by omega) (a_cons (d_var 1) (a_cons (d_callD tk_def C_law_word hr (by omega) (a_cons (d_var 1) a_nil)) a_nil))) (a_cons (d_callD tk_def C_law_bent_text hr (by omega) (a_cons (d_var 1) (a_cons (d_callD tk_def C_law_word hr (by omega) (a_cons (d_var 1) a_nil)) a_nil))) a_nil))))
      (b_cons (s_for po_def rfl (i_rng1 T.n_range (a_cons d_int a_nil)) (g_name 3 sc_law.nd)
        (b_one (s_expr (d_bm PySem.F.plainAttrs_list PySem.F.slot_list_append PySem.F.type_list_append m_append (d_var 2) (a_cons (d_callD tk_def C_law_drawn_text hr (by omega) (a_cons (d_var 1) a_nil)) a_nil)))))
      (b_cons (s_expr (d_bm PySem.F.plainAttrs_list PySem.F.slot_list_append PySem.F.type_list_append m_append (d_var 2) (a_cons (d_ix i_seq (d_var 2) d_int) a_nil)))
      (b_frz 2 (b_cons (s_for po_def rfl (i_seq' (d_var 2)) (g_name 4 sc_law.nd)
        (b_one (s_if (t_not (t_tru (d_callD tk_def C_law_text_is_told hr (by omega) (a_cons (d_var 4) a_nil))))
          (b_one (s_ret d_bl))
          b_nil)))
      (b_cons (s_for po_def rfl (i_rng1 T.n_range (a_cons d_int a_nil)) (g_name 3 sc_law.nd)
        (b_one (s_if (t_not (t_tru (d_callD tk_def C_law_join_is_told hr (by omega) (a_cons (d_var 1) a_nil))))
          (b_one (s_ret d_bl))
          b_nil)))
      (b_cons (s_setLc (own := [("k", 3)]) (i := 5) false rfl sc_law.nd (i_rng1 T.n_range (a_cons (d_op (o_add (c := false)) d_int (d_callD tk_def C_law_take hr (by omega) (a_cons (d_var 1) (a_cons d_int a_nil)))) a_nil)) (blkOk_by (N := nm_law) (sc := defScope st_law) (by decide +kernel)) (fun _ _ _ _ _ => (g_name 3 sc_law.nd)) (fun _ _ _ _ _ => ts_nil) (fun _ _ _ _ _ => (d_callD takes0 C_law_sized hr (by omega) (a_cons (d_var 1) (a_cons d_int (a_cons d_int a_nil))))))
      (b_cons (s_set (i := 6) sc_law.nd (d_callD tk_def C_law_sized hr (by omega) (a_cons (d_var 1) (a_cons d_int (a_cons d_int a_nil)))))
      (b_cons (s_set (i := 7) sc_law.nd (d_op (o_add (c := false)) (d_op (o_add (c := false)) (d_op (o_add (c := false)) (d_var 6) d_str) (d_bm PySem.F.plainAttrs_str PySem.F.slot_str_join PySem.F.type_str_join m_join d_str (a_cons (d_var 5) a_nil))) d_str))
      (b_one (s_ret (d_and (d_callD tk_def C_law_same hr (by omega) (a_cons (d_callD tk_def C_join_name hr (by omega) (a_cons (d_var 6) (a_cons (d_var 5) a_nil))) (a_cons (d_var 7) a_nil))) (d_one (d_callD tk_def C_law_same hr (by omega) (a_cons (d_callD tk_def C_name_parts hr (by omega) (a_cons (d_var 7) a_nil)) (a_cons (d_tup (a_cons (d_var 6) (a_cons (d_callTy c_tuple T.n_tuple bt_tuple (a_cons (d_var 5) a_nil)) a_nil))) a_nil))))))))))))))))), fun ds θ Q h => ?_⟩)
  · obtain ⟨ns, rfl, _⟩ := h; rfl
  · obtain ⟨ns, rfl, hns, q⟩ := h
    refine ⟨ns, rfl, hns, fun a ha => ?_⟩
    have hS : Sto (ups θ a (.lstP StoreOk)) a := ups_same
    refine ⟨a, rfl, hS, fun d hd => ?_⟩
    obtain ⟨z0, rfl, hz0, _⟩ := hd
    refine ⟨a, _, rfl, hS, by omega, fun d0 hd0 => ?_⟩
    refine ⟨a, rfl, hS, fun d hd => ?_⟩
    obtain ⟨z1, rfl, hz1, hc1⟩ := hd
    refine ⟨a, _, rfl, hS, by omega, hc1, fun d1 hd1 => ?_⟩
    refine ⟨by show 2 ≤ sizeLine; decide, fun b hb => ?_⟩
    have nab : a ≠ b := th_ne hS hb
    have hS' : ∀ xs, Sto (ups (ups θ a (.lstP StoreOk)) b (.lst xs)) a := fun xs => (ups_ne nab).trans hS
    refine ⟨by decide, by decide, fun i ρ θ' => ∃ (v : Option D) (xs : List D), ρ = [some (.rol (ns.map D.int)), some (.ref a), some (.ref b), v, none, none, none, none] ∧ θ' = ups (ups θ a (.lstP StoreOk)) b (.lst (d0 :: xs)) ∧ xs.length = i + 1 ∧ ∀ d ∈ xs, Tx 5000 d, ⟨none, _, rfl, rfl, rfl, fun d' hd' => ?_⟩, fun i x ρ θ' hi hP => ?_, fun ρ θ' hP => ?_⟩
    · rw [List.mem_singleton.mp hd']
      exact hd1.tx.mono (by omega)
    · obtain ⟨v, xs, rfl, rfl, hl, hx⟩ := hP
      obtain ⟨hi2, rfl⟩ := rngD_at hi
      have hi3 : i < 6 := hi2
      refine ⟨⟨rfl, _, asL_ref ups_same⟩, a, rfl, hS' _, fun d hd => ?_⟩
      refine ⟨_, ups_same, by rw [List.length_cons]; exact sz1 _ (by omega), ?_⟩
      rw [ups_ups]
      refine ⟨_, xs ++ [d], rfl, rfl, by simp [hl], fun e he => ?_⟩
      rcases List.mem_append.mp he with he | he
      · exact hx e he
      · rw [List.mem_singleton.mp he]; exact hd
    obtain ⟨v, xs, rfl, rfl, hl, hx⟩ := hP
    have hl : xs.length = 7 := hl
    have hd0' : Tx 5000 d0 := hd0.mono (by omega)
    refine ⟨⟨rfl, _, asL_ref ups_same⟩, _, _, asQ_ref ups_same, atI_nat (j := 0) rfl, _, ups_same, by rw [List.length_cons]; exact sz1 _ (by omega), ?_⟩
    rw [ups_ups]
    refine ⟨_, ups_same, ?_⟩
    rw [ers_ups hb]
    have hx2 : ∀ d ∈ (d0 :: xs) ++ [d0], Tx 5000 d := fun e he => by
      rcases List.mem_append.mp he with he | he
      · rcases List.mem_cons.mp he with rfl | he
        · exact hd0'
        · exact hx e he
      · rw [List.mem_singleton.mp he]; exact hd0'
    refine ⟨_, rfl, fun i ρ θ' => ∃ v4 : Option D, ρ = [some (.rol (ns.map D.int)), some (.ref a), some (.lst ((d0 :: xs) ++ [d0])), v, v4, none, none, none] ∧ θ' = ups θ a (.lstP StoreOk), ⟨none, rfl, rfl⟩, fun i x ρ θ' hi hP => ?_, fun ρ θ' hP => ?_⟩
    · obtain ⟨v4, rfl, rfl⟩ := hP
      obtain ⟨l, rfl, hz⟩ := tx_S (hx2 x (List.mem_of_getElem? hi))
      refine ⟨l, rfl, by omega, ?_⟩
      exact ⟨_, rfl, rfl⟩
    obtain ⟨v4, rfl, rfl⟩ := hP
    refine ⟨by decide, by decide, fun i ρ θ' => ∃ v : Option D, ρ = [some (.rol (ns.map D.int)), some (.ref a), some (.lst ((d0 :: xs) ++ [d0])), v, v4, none, none, none] ∧ θ' = ups θ a (.lstP StoreOk), ⟨v, rfl, rfl⟩, fun i x ρ θ' hi hP => ?_, fun ρ θ' hP => ?_⟩
    · obtain ⟨v, rfl, rfl⟩ := hP
      refine ⟨a, rfl, hS, ?_⟩
      exact ⟨_, rfl, rfl⟩
    obtain ⟨v, rfl, rfl⟩ := hP
    have isw : ∀ l : List Nat, 1 ≤ (l.length : Int) → (l.length : Int) ≤ 10 → l.all isLow = true → wordB l = true := fun l h0 h1 h2 => by
      unfold wordB
      rw [decide_eq_true (by omega : 1 ≤ l.length), decide_eq_true (by omega : l.length ≤ 10), h2]; rfl
    refine ⟨a, _, rfl, hS, pow900 (by decide), fun n n0 n1 => ?_⟩
    refine ⟨by omega, by omega, lc_draw (fun d => ∃ l, wordB l = true ∧ d = .str (SX.S l)) (by rw [rngD_len]; exact sz _ (by omega)) (fun i x hx k hk => ?_) (fun acc hl hacc => ?_)⟩
    · exact ⟨a, _, _, rfl, hS, by decide, by decide, by decide, fun l h0 h1 h2 => hk _ ⟨l, isw l h0 h1 h2, rfl⟩⟩
    rw [rngD_len] at hl
    obtain ⟨ws, rfl, hws⟩ := words_of (f := fun p => D.str (SX.S p)) (g := fun l => wordB l = true) (fun d hd => hd) hacc
    rw [List.length_map] at hl
    have hall : ws.all wordB = true := List.all_eq_true.mpr hws
    have hne : ws ≠ [] := by intro z; rw [z] at hl; simp at hl; omega
    have hl2 : ws.length ≤ 2 := by omega
    refine ⟨a, _, _, rfl, hS, by decide, by decide, by decide, fun w h0 h1 h2 => ?_⟩
    have hw := isw w h0 h1 h2
    have eO : (Str.ofString "(") = SX.S [40] := by decide +kernel
    have eC : (Str.ofString ")") = SX.S [41] := by decide +kernel
    have eK : (Str.ofString ",") = SX.S [44] := by decide +kernel
    have hs : (ws.map List.length).sum ≤ 20 := by
      have : ∀ l : List (List Nat), l.length ≤ 2 → l.all wordB = true → (l.map List.length).sum ≤ 10 * l.length := by
        intro l
        induction l with
        | nil => simp
        | cons a r ih =>
          intro h1 h2
          simp only [List.all_cons, Bool.and_eq_true, List.length_cons] at h1 h2
          have := ih (by omega) h2.2
          have := wordB_len h2.1
          simp; omega
      have := this ws hl2 hall
      omega
    have e4 : ∀ l : List (List Nat), (List.map ((fun x : Str => x.length) ∘ SX.S) l) = l.map List.length := fun l => List.map_congr_left fun p _ => SX.S_len p
    have hjl : (TL.joinL [44] ws).length ≤ 30 := by
      have h := join_len (SX.S [44]) (ws.map SX.S)
      rw [SX.join_S, SX.S_len, SX.S_len, List.length_map, List.map_map, e4] at h
      simp at h; omega
    have hwl := (wordB_len hw).2
    have hnl : (nameL w ws).length ≤ 100 := by unfold nameL; simp; omega
    have hpl : ∀ p ∈ ws, p.length ≤ 1000000 := fun p hp => by have := (wordB_len (hws p hp)).2; omega
    rw [eO, eC, eK]
    refine ⟨by rw [SX.S_len, SX.S_len]; exact sz _ (by simp; omega), rfl, _, _, rfl, txts_S ws, ?_, ?_⟩
    · rw [SX.S_len, List.map_map, List.length_map, e4]
      simp; omega
    rw [SX.join_S, SX.S_cat]
    refine ⟨by rw [SX.S_len, SX.S_len]; exact sz _ (by simp; omega), ?_⟩
    rw [SX.S_cat]
    refine ⟨by rw [SX.S_len, SX.S_len]; exact sz _ (by simp; omega), ?_⟩
    rw [SX.S_cat]
    rw [show (w ++ [40] ++ TL.joinL [44] ws) ++ [41] = nameL w ws by unfold nameL; simp]
    have eJ : joinD w ws = .str (SX.S (nameL w ws)) := by
      have : joinD w ws = .str (SX.S (if ws = [] then w else nameL w ws)) := if_pos ⟨hl2, hw, hall⟩
      rw [this, if_neg hne]
    have pok : okD 3 (pairD w ws) = true := pairD_ok w ws hl2
    dsimp only [gNm, dRet]
    refine ev_and (b := true) (d := fun _ => .bl true) (fun Q q => ⟨w, _, ws, rfl, .inl rfl, by omega, by omega, hpl, _, _, rfl, by rw [eJ]; exact .str _, rfl, ⟨3, by rw [eJ]; rfl⟩, ?_⟩) (fun _ Q q => ⟨nameL w ws, rfl, by omega, fun d hd => ⟨_, rfl, by show 2 ≤ sizeLine; decide, ?_⟩⟩) (fun h => by cases h) _ (q _)
    · rw [eJ]
      have : sameD (vw (ups θ a (.lstP StoreOk)) (.str (SX.S (nameL w ws)))) (.str (SX.S (nameL w ws))) = true := by simp [vw, sameD]
      rw [this]
      exact q
    · rw [pcs_uni hd (pcs_name hw hall hne hl2)]
      refine ⟨_, _, rfl, okD_dat pok, pok, ⟨3, by rw [okD_vw pok]; exact pok⟩, ?_⟩
      rw [okD_vw pok]
      have := sameD_refl 3 _ pok
      rw [show sameD (pairD w ws) (.tup [.str (SX.S w), .tup (ws.map fun p => D.str (SX.S p))]) = true from this]
      exact q
end
end L00

set_option linter.all false
set_option maxRecDepth 100000
set_option maxHeartbeats 4000000
namespace L00
open PySem PySem.Spec PyProof.Rows L2 DL
theorem all_mk {l : PySem.W.OpenLaw} {w : World} {K : PySem.W.Frag} {h : Heap} {mg : Str → Option Value} {fa : Addr} (X : K.In h) (G : h.Ns mainGlobals mg) (hfa : mg "law" = some (.ref fa))
    {f0 : Addr} {od0 an0 : Option Addr} {sl0 : Array (Option Value)} {oc0 kV0 dc0 pm0 cd0 ct0 : Value}
    {f1 : Addr} {od1 an1 : Option Addr} {sl1 : Array (Option Value)} {oc1 kV1 dc1 pm1 cd1 ct1 : Value}
    {f2 : Addr} {od2 an2 : Option Addr} {sl2 : Array (Option Value)} {oc2 kV2 dc2 pm2 cd2 ct2 : Value}
    {f3 : Addr} {od3 an3 : Option Addr} {sl3 : Array (Option Value)} {oc3 kV3 dc3 pm3 cd3 ct3 : Value}
    {f4 : Addr} {od4 an4 : Option Addr} {sl4 : Array (Option Value)} {oc4 kV4 dc4 pm4 cd4 ct4 : Value}
    {f5 : Addr} {od5 an5 : Option Addr} {sl5 : Array (Option Value)} {oc5 kV5 dc5 pm5 cd5 ct5 : Value}
    {f6 : Addr} {od6 an6 : Option Addr} {sl6 : Array (Option Value)} {oc6 kV6 dc6 pm6 cd6 ct6 : Value}
    {f7 : Addr} {od7 an7 : Option Addr} {sl7 : Array (Option Value)} {oc7 kV7 dc7 pm7 cd7 ct7 : Value}
    {f8 : Addr} {od8 an8 : Option Addr} {sl8 : Array (Option Value)} {oc8 kV8 dc8 pm8 cd8 ct8 : Value}
    {f9 : Addr} {od9 an9 : Option Addr} {sl9 : Array (Option Value)} {oc9 kV9 dc9 pm9 cd9 ct9 : Value}
    {f10 : Addr} {od10 an10 : Option Addr} {sl10 : Array (Option Value)} {oc10 kV10 dc10 pm10 cd10 ct10 : Value}
    {f11 : Addr} {od11 an11 : Option Addr} {sl11 : Array (Option Value)} {oc11 kV11 dc11 pm11 cd11 ct11 : Value}
    {f12 : Addr} {od12 an12 : Option Addr} {sl12 : Array (Option Value)} {oc12 kV12 dc12 pm12 cd12 ct12 : Value}
    {f13 : Addr} {od13 an13 : Option Addr} {sl13 : Array (Option Value)} {oc13 kV13 dc13 pm13 cd13 ct13 : Value}
    {f14 : Addr} {od14 an14 : Option Addr} {sl14 : Array (Option Value)} {oc14 kV14 dc14 pm14 cd14 ct14 : Value}
    {f15 : Addr} {od15 an15 : Option Addr} {sl15 : Array (Option Value)} {oc15 kV15 dc15 pm15 cd15 ct15 : Value}
    {f16 : Addr} {od16 an16 : Option Addr} {sl16 : Array (Option Value)} {oc16 kV16 dc16 pm16 cd16 ct16 : Value}
    {f17 : Addr} {od17 an17 : Option Addr} {sl17 : Array (Option Value)} {oc17 kV17 dc17 pm17 cd17 ct17 : Value}
    {f18 : Addr} {od18 an18 : Option Addr} {sl18 : Array (Option Value)} {oc18 kV18 dc18 pm18 cd18 ct18 : Value}
    {f19 : Addr} {od19 an19 : Option Addr} {sl19 : Array (Option Value)} {oc19 kV19 dc19 pm19 cd19 ct19 : Value}
    {f20 : Addr} {od20 an20 : Option Addr} {sl20 : Array (Option Value)} {oc20 kV20 dc20 pm20 cd20 ct20 : Value}
    {f21 : Addr} {od21 an21 : Option Addr} {sl21 : Array (Option Value)} {oc21 kV21 dc21 pm21 cd21 ct21 : Value}
    {f22 : Addr} {od22 an22 : Option Addr} {sl22 : Array (Option Value)} {oc22 kV22 dc22 pm22 cd22 ct22 : Value}
    {f23 : Addr} {od23 an23 : Option Addr} {sl23 : Array (Option Value)} {oc23 kV23 dc23 pm23 cd23 ct23 : Value}
    {f24 : Addr} {od24 an24 : Option Addr} {sl24 : Array (Option Value)} {oc24 kV24 dc24 pm24 cd24 ct24 : Value}
    {f25 : Addr} {od25 an25 : Option Addr} {sl25 : Array (Option Value)} {oc25 kV25 dc25 pm25 cd25 ct25 : Value}
    {f26 : Addr} {od26 an26 : Option Addr} {sl26 : Array (Option Value)} {oc26 kV26 dc26 pm26 cd26 ct26 : Value}
    {f27 : Addr} {od27 an27 : Option Addr} {sl27 : Array (Option Value)} {oc27 kV27 dc27 pm27 cd27 ct27 : Value}
    {t1 : Tok}
    {t3 : Tok}
    {t5 : Tok}
    (a0 : PySem.W.nsIn K mainGlobals "is_word" = some (some (.ref f0))) (l0 : K.lookup f0 = some ⟨oc0, od0, .func (PySem.W.fnOf "is_word" "is_word" (defArgs st_is_word) (defBody st_is_word) (defScope st_is_word) .none kV0 dc0 pm0 an0 cd0 ct0), sl0⟩) (c0 : PySem.W.codeIn K cd0 "is_word" = true) (k0 : PySem.W.keepIn K (.ref f0) = true)
    (a1 : PySem.W.nsIn K mainGlobals "is_step_name" = some (some (.ref f1))) (l1 : K.lookup f1 = some ⟨oc1, od1, .func (PySem.W.fnOf "is_step_name" "is_step_name" (defArgs st_is_step_name) (defBody st_is_step_name) (defScope st_is_step_name) .none kV1 dc1 pm1 an1 cd1 ct1), sl1⟩) (c1 : PySem.W.codeIn K cd1 "is_step_name" = true) (k1 : PySem.W.keepIn K (.ref f1) = true)
    (a2 : PySem.W.nsIn K mainGlobals "name_parts" = some (some (.ref f2))) (l2 : K.lookup f2 = some ⟨oc2, od2, .func (PySem.W.fnOf "name_parts" "name_parts" (defArgs st_name_parts) (defBody st_name_parts) (defScope st_name_parts) .none kV2 dc2 pm2 an2 cd2 ct2), sl2⟩) (c2 : PySem.W.codeIn K cd2 "name_parts" = true) (k2 : PySem.W.keepIn K (.ref f2) = true)
    (a3 : PySem.W.nsIn K mainGlobals "join_name" = some (some (.ref f3))) (l3 : K.lookup f3 = some ⟨oc3, od3, .func (PySem.W.fnOf "join_name" "join_name" (defArgs st_join_name) (defBody st_join_name) (defScope st_join_name) .none kV3 dc3 pm3 an3 cd3 ct3), sl3⟩) (c3 : PySem.W.codeIn K cd3 "join_name" = true) (k3 : PySem.W.keepIn K (.ref f3) = true)
    (a4 : PySem.W.nsIn K mainGlobals "_law_mix" = some (some (.ref f4))) (l4 : K.lookup f4 = some ⟨oc4, od4, .func (PySem.W.fnOf "_law_mix" "_law_mix" (defArgs st_law_mix) (defBody st_law_mix) (defScope st_law_mix) .none kV4 dc4 pm4 an4 cd4 ct4), sl4⟩) (c4 : PySem.W.codeIn K cd4 "_law_mix" = true) (k4 : PySem.W.keepIn K (.ref f4) = true)
    (a5 : PySem.W.nsIn K mainGlobals "_law_store" = some (some (.ref f5))) (l5 : K.lookup f5 = some ⟨oc5, od5, .func (PySem.W.fnOf "_law_store" "_law_store" (defArgs st_law_store) (defBody st_law_store) (defScope st_law_store) .none kV5 dc5 pm5 an5 cd5 ct5), sl5⟩) (c5 : PySem.W.codeIn K cd5 "_law_store" = true) (k5 : PySem.W.keepIn K (.ref f5) = true)
    (a6 : PySem.W.nsIn K mainGlobals "_law_take" = some (some (.ref f6))) (l6 : K.lookup f6 = some ⟨oc6, od6, .func (PySem.W.fnOf "_law_take" "_law_take" (defArgs st_law_take) (defBody st_law_take) (defScope st_law_take) .none kV6 dc6 pm6 an6 cd6 ct6), sl6⟩) (c6 : PySem.W.codeIn K cd6 "_law_take" = true) (k6 : PySem.W.keepIn K (.ref f6) = true)
    (a7 : PySem.W.nsIn K mainGlobals "_law_between" = some (some (.ref f7))) (l7 : K.lookup f7 = some ⟨oc7, od7, .func (PySem.W.fnOf "_law_between" "_law_between" (defArgs st_law_between) (defBody st_law_between) (defScope st_law_between) .none kV7 dc7 pm7 an7 cd7 ct7), sl7⟩) (c7 : PySem.W.codeIn K cd7 "_law_between" = true) (k7 : PySem.W.keepIn K (.ref f7) = true)
    (a8 : PySem.W.nsIn K mainGlobals "_law_one_in" = some (some (.ref f8))) (l8 : K.lookup f8 = some ⟨oc8, od8, .func (PySem.W.fnOf "_law_one_in" "_law_one_in" (defArgs st_law_one_in) (defBody st_law_one_in) (defScope st_law_one_in) .none kV8 dc8 pm8 an8 cd8 ct8), sl8⟩) (c8 : PySem.W.codeIn K cd8 "_law_one_in" = true) (k8 : PySem.W.keepIn K (.ref f8) = true)
    (a9 : PySem.W.nsIn K mainGlobals "_law_pick" = some (some (.ref f9))) (l9 : K.lookup f9 = some ⟨oc9, od9, .func (PySem.W.fnOf "_law_pick" "_law_pick" (defArgs st_law_pick) (defBody st_law_pick) (defScope st_law_pick) .none kV9 dc9 pm9 an9 cd9 ct9), sl9⟩) (c9 : PySem.W.codeIn K cd9 "_law_pick" = true) (k9 : PySem.W.keepIn K (.ref f9) = true)
    (a10 : PySem.W.nsIn K mainGlobals "_law_word" = some (some (.ref f10))) (l10 : K.lookup f10 = some ⟨oc10, od10, .func (PySem.W.fnOf "_law_word" "_law_word" (defArgs st_law_word) (defBody st_law_word) (defScope st_law_word) .none kV10 dc10 pm10 an10 cd10 ct10), sl10⟩) (c10 : PySem.W.codeIn K cd10 "_law_word" = true) (k10 : PySem.W.keepIn K (.ref f10) = true)
    (a11 : PySem.W.nsIn K mainGlobals "_law_step_name" = some (some (.ref f11))) (l11 : K.lookup f11 = some ⟨oc11, od11, .func (PySem.W.fnOf "_law_step_name" "_law_step_name" (defArgs st_law_step_name) (defBody st_law_step_name) (defScope st_law_step_name) .none kV11 dc11 pm11 an11 cd11 ct11), sl11⟩) (c11 : PySem.W.codeIn K cd11 "_law_step_name" = true) (k11 : PySem.W.keepIn K (.ref f11) = true)
    (a12 : PySem.W.nsIn K mainGlobals "_law_no_word" = some (some (.ref f12))) (l12 : K.lookup f12 = some ⟨oc12, od12, .func (PySem.W.fnOf "_law_no_word" "_law_no_word" (defArgs st_law_no_word) (defBody st_law_no_word) (defScope st_law_no_word) .none kV12 dc12 pm12 an12 cd12 ct12), sl12⟩) (c12 : PySem.W.codeIn K cd12 "_law_no_word" = true) (k12 : PySem.W.keepIn K (.ref f12) = true)
    (a13 : PySem.W.nsIn K mainGlobals "_law_no_step_name" = some (some (.ref f13))) (l13 : K.lookup f13 = some ⟨oc13, od13, .func (PySem.W.fnOf "_law_no_step_name" "_law_no_step_name" (defArgs st_law_no_step_name) (defBody st_law_no_step_name) (defScope st_law_no_step_name) .none kV13 dc13 pm13 an13 cd13 ct13), sl13⟩) (c13 : PySem.W.codeIn K cd13 "_law_no_step_name" = true) (k13 : PySem.W.keepIn K (.ref f13) = true)
    (a14 : PySem.W.nsIn K mainGlobals "_law_bent_text" = some (some (.ref f14))) (l14 : K.lookup f14 = some ⟨oc14, od14, .func (PySem.W.fnOf "_law_bent_text" "_law_bent_text" (defArgs st_law_bent_text) (defBody st_law_bent_text) (defScope st_law_bent_text) .none kV14 dc14 pm14 an14 cd14 ct14), sl14⟩) (c14 : PySem.W.codeIn K cd14 "_law_bent_text" = true) (k14 : PySem.W.keepIn K (.ref f14) = true)
    (a15 : PySem.W.nsIn K mainGlobals "_law_any_text" = some (some (.ref f15))) (l15 : K.lookup f15 = some ⟨oc15, od15, .func (PySem.W.fnOf "_law_any_text" "_law_any_text" (defArgs st_law_any_text) (defBody st_law_any_text) (defScope st_law_any_text) .none kV15 dc15 pm15 an15 cd15 ct15), sl15⟩) (c15 : PySem.W.codeIn K cd15 "_law_any_text" = true) (k15 : PySem.W.keepIn K (.ref f15) = true)
    (a16 : PySem.W.nsIn K mainGlobals "_law_same" = some (some (.ref f16))) (l16 : K.lookup f16 = some ⟨oc16, od16, .func (PySem.W.fnOf "_law_same" "_law_same" (defArgs st_law_same) (defBody st_law_same) (defScope st_law_same) .none kV16 dc16 pm16 an16 cd16 ct16), sl16⟩) (c16 : PySem.W.codeIn K cd16 "_law_same" = true) (k16 : PySem.W.keepIn K (.ref f16) = true)
    (a17 : PySem.W.nsIn K mainGlobals "_law_is_integer" = some (some (.ref f17))) (l17 : K.lookup f17 = some ⟨oc17, od17, .func (PySem.W.fnOf "_law_is_integer" "_law_is_integer" (defArgs st_law_is_integer) (defBody st_law_is_integer) (defScope st_law_is_integer) .none kV17 dc17 pm17 an17 cd17 ct17), sl17⟩) (c17 : PySem.W.codeIn K cd17 "_law_is_integer" = true) (k17 : PySem.W.keepIn K (.ref f17) = true)
    (a18 : PySem.W.nsIn K mainGlobals "_law_own_word" = some (some (.ref f18))) (l18 : K.lookup f18 = some ⟨oc18, od18, .func (PySem.W.fnOf "_law_own_word" "_law_own_word" (defArgs st_law_own_word) (defBody st_law_own_word) (defScope st_law_own_word) .none kV18 dc18 pm18 an18 cd18 ct18), sl18⟩) (c18 : PySem.W.codeIn K cd18 "_law_own_word" = true) (k18 : PySem.W.keepIn K (.ref f18) = true)
    (a19 : PySem.W.nsIn K mainGlobals "_law_own_pieces" = some (some (.ref f19))) (l19 : K.lookup f19 = some ⟨oc19, od19, .func (PySem.W.fnOf "_law_own_pieces" "_law_own_pieces" (defArgs st_law_own_pieces) (defBody st_law_own_pieces) (defScope st_law_own_pieces) .none kV19 dc19 pm19 an19 cd19 ct19), sl19⟩) (c19 : PySem.W.codeIn K cd19 "_law_own_pieces" = true) (k19 : PySem.W.keepIn K (.ref f19) = true)
    (a20 : PySem.W.nsIn K mainGlobals "_law_sized" = some (some (.ref f20))) (l20 : K.lookup f20 = some ⟨oc20, od20, .func (PySem.W.fnOf "_law_sized" "_law_sized" (defArgs st_law_sized) (defBody st_law_sized) (defScope st_law_sized) .none kV20 dc20 pm20 an20 cd20 ct20), sl20⟩) (c20 : PySem.W.codeIn K cd20 "_law_sized" = true) (k20 : PySem.W.keepIn K (.ref f20) = true)
    (a21 : PySem.W.nsIn K mainGlobals "_law_long_name" = some (some (.ref f21))) (l21 : K.lookup f21 = some ⟨oc21, od21, .func (PySem.W.fnOf "_law_long_name" "_law_long_name" (defArgs st_law_long_name) (defBody st_law_long_name) (defScope st_law_long_name) .none kV21 dc21 pm21 an21 cd21 ct21), sl21⟩) (c21 : PySem.W.codeIn K cd21 "_law_long_name" = true) (k21 : PySem.W.keepIn K (.ref f21) = true)
    (a22 : PySem.W.nsIn K mainGlobals "_law_with_sign" = some (some (.ref f22))) (l22 : K.lookup f22 = some ⟨oc22, od22, .func (PySem.W.fnOf "_law_with_sign" "_law_with_sign" (defArgs st_law_with_sign) (defBody st_law_with_sign) (defScope st_law_with_sign) .none kV22 dc22 pm22 an22 cd22 ct22), sl22⟩) (c22 : PySem.W.codeIn K cd22 "_law_with_sign" = true) (k22 : PySem.W.keepIn K (.ref f22) = true)
    (a23 : PySem.W.nsIn K mainGlobals "_law_drawn_text" = some (some (.ref f23))) (l23 : K.lookup f23 = some ⟨oc23, od23, .func (PySem.W.fnOf "_law_drawn_text" "_law_drawn_text" (defArgs st_law_drawn_text) (defBody st_law_drawn_text) (defScope st_law_drawn_text) .none kV23 dc23 pm23 an23 cd23 ct23), sl23⟩) (c23 : PySem.W.codeIn K cd23 "_law_drawn_text" = true) (k23 : PySem.W.keepIn K (.ref f23) = true)
    (a24 : PySem.W.nsIn K mainGlobals "_law_text_is_told" = some (some (.ref f24))) (l24 : K.lookup f24 = some ⟨oc24, od24, .func (PySem.W.fnOf "_law_text_is_told" "_law_text_is_told" (defArgs st_law_text_is_told) (defBody st_law_text_is_told) (defScope st_law_text_is_told) .none kV24 dc24 pm24 an24 cd24 ct24), sl24⟩) (c24 : PySem.W.codeIn K cd24 "_law_text_is_told" = true) (k24 : PySem.W.keepIn K (.ref f24) = true)
    (a25 : PySem.W.nsIn K mainGlobals "_law_piece" = some (some (.ref f25))) (l25 : K.lookup f25 = some ⟨oc25, od25, .func (PySem.W.fnOf "_law_piece" "_law_piece" (defArgs st_law_piece) (defBody st_law_piece) (defScope st_law_piece) .none kV25 dc25 pm25 an25 cd25 ct25), sl25⟩) (c25 : PySem.W.codeIn K cd25 "_law_piece" = true) (k25 : PySem.W.keepIn K (.ref f25) = true)
    (a26 : PySem.W.nsIn K mainGlobals "_law_join_is_told" = some (some (.ref f26))) (l26 : K.lookup f26 = some ⟨oc26, od26, .func (PySem.W.fnOf "_law_join_is_told" "_law_join_is_told" (defArgs st_law_join_is_told) (defBody st_law_join_is_told) (defScope st_law_join_is_told) .none kV26 dc26 pm26 an26 cd26 ct26), sl26⟩) (c26 : PySem.W.codeIn K cd26 "_law_join_is_told" = true) (k26 : PySem.W.keepIn K (.ref f26) = true)
    (a27 : PySem.W.nsIn K mainGlobals "law" = some (some (.ref f27))) (l27 : K.lookup f27 = some ⟨oc27, od27, .func (PySem.W.fnOf "law" "law" (defArgs st_law) (defBody st_law) (defScope st_law) .none kV27 dc27 pm27 an27 cd27 ct27), sl27⟩) (c27 : PySem.W.codeIn K cd27 "law" = true) (k27 : PySem.W.keepIn K (.ref f27) = true)
    (z0 : PySem.W.nsIn K mainGlobals "all" = some none)
    (z1 : PySem.W.nsIn K mainGlobals "LETTERS" = some (some (.str "abcdefghijklmnopqrstuvwxyz" t1)))
    (z2 : PySem.W.nsIn K mainGlobals "len" = some none)
    (z3 : PySem.W.nsIn K mainGlobals "LONGEST_WORD" = some (some (.int 10 t3)))
    (z4 : PySem.W.nsIn K mainGlobals "tuple" = some none)
    (z5 : PySem.W.nsIn K mainGlobals "MOST_NAME_WORDS" = some (some (.int 2 t5)))
    (z6 : PySem.W.nsIn K mainGlobals "int" = some none)
    (z7 : PySem.W.nsIn K mainGlobals "abs" = some none)
    (z8 : PySem.W.nsIn K mainGlobals "max" = some none)
    (z9 : PySem.W.nsIn K mainGlobals "range" = some none)
    (z10 : PySem.W.nsIn K mainGlobals "isinstance" = some none)
    (z11 : PySem.W.nsIn K mainGlobals "list" = some none)
    (z12 : PySem.W.nsIn K mainGlobals "str" = some none)
    (z13 : PySem.W.nsIn K mainGlobals "bool" = some none)
    : ∃ fd : FuncData, (∀ (s : Shared) (v : Value), BindsTo s fd ⟨[v], []⟩ [("script", v)]) ∧ ∀ base : Heap, K.In base → base.Ns mainGlobals mg → FnD l.prog w K mg base 8 fa fd ["script"] sp_law := by
  have e := hfa.symm.trans (PySem.W.mg_of X G a27)
  cases e
  have T : Txt mg := ⟨PySem.W.mg_none_of X G z0, ⟨t1, PySem.W.mg_of X G z1⟩, PySem.W.mg_none_of X G z2, ⟨t3, PySem.W.mg_of X G z3⟩, PySem.W.mg_none_of X G z4, ⟨t5, PySem.W.mg_of X G z5⟩, PySem.W.mg_none_of X G z6, PySem.W.mg_none_of X G z7, PySem.W.mg_none_of X G z8, PySem.W.mg_none_of X G z9, PySem.W.mg_none_of X G z10, PySem.W.mg_none_of X G z11, PySem.W.mg_none_of X G z12, PySem.W.mg_none_of X G z13⟩
  have F0 := fun_mk (st := st_is_word) l0 c0 k0
  have b0 := F0.binds (ps := ["text"]) fun _ _ _ _ _ _ us hl => match us, hl with | [_], _ => rfl
  have F1 := fun_mk (st := st_is_step_name) l1 c1 k1
  have b1 := F1.binds (ps := ["text"]) fun _ _ _ _ _ _ us hl => match us, hl with | [_], _ => rfl
  have F2 := fun_mk (st := st_name_parts) l2 c2 k2
  have b2 := F2.binds (ps := ["text"]) fun _ _ _ _ _ _ us hl => match us, hl with | [_], _ => rfl
  have F3 := fun_mk (st := st_join_name) l3 c3 k3
  have b3 := F3.binds (ps := ["word", "words"]) fun _ _ _ _ _ _ us hl => match us, hl with | [_, _], _ => rfl
  have F4 := fun_mk (st := st_law_mix) l4 c4 k4
  have b4 := F4.binds (ps := ["number", "turn"]) fun _ _ _ _ _ _ us hl => match us, hl with | [_, _], _ => rfl
  have F5 := fun_mk (st := st_law_store) l5 c5 k5
  have b5 := F5.binds (ps := ["script"]) fun _ _ _ _ _ _ us hl => match us, hl with | [_], _ => rfl
  have F6 := fun_mk (st := st_law_take) l6 c6 k6
  have b6 := F6.binds (ps := ["store", "many"]) fun _ _ _ _ _ _ us hl => match us, hl with | [_, _], _ => rfl
  have F7 := fun_mk (st := st_law_between) l7 c7 k7
  have b7 := F7.binds (ps := ["store", "low", "high"]) fun _ _ _ _ _ _ us hl => match us, hl with | [_, _, _], _ => rfl
  have F8 := fun_mk (st := st_law_one_in) l8 c8 k8
  have b8 := F8.binds (ps := ["store", "many"]) fun _ _ _ _ _ _ us hl => match us, hl with | [_, _], _ => rfl
  have F9 := fun_mk (st := st_law_pick) l9 c9 k9
  have b9 := F9.binds (ps := ["store", "items"]) fun _ _ _ _ _ _ us hl => match us, hl with | [_, _], _ => rfl
  have F10 := fun_mk (st := st_law_word) l10 c10 k10
  have b10 := F10.binds (ps := ["store"]) fun _ _ _ _ _ _ us hl => match us, hl with | [_], _ => rfl
  have F11 := fun_mk (st := st_law_step_name) l11 c11 k11
  have b11 := F11.binds (ps := ["store", "word"]) fun _ _ _ _ _ _ us hl => match us, hl with | [_, _], _ => rfl
  have F12 := fun_mk (st := st_law_no_word) l12 c12 k12
  have b12 := F12.binds (ps := ["store"]) fun _ _ _ _ _ _ us hl => match us, hl with | [_], _ => rfl
  have F13 := fun_mk (st := st_law_no_step_name) l13 c13 k13
  have b13 := F13.binds (ps := ["store"]) fun _ _ _ _ _ _ us hl => match us, hl with | [_], _ => rfl
  have F14 := fun_mk (st := st_law_bent_text) l14 c14 k14
  have b14 := F14.binds (ps := ["store", "word"]) fun _ _ _ _ _ _ us hl => match us, hl with | [_, _], _ => rfl
  have F15 := fun_mk (st := st_law_any_text) l15 c15 k15
  have b15 := F15.binds (ps := ["store", "most"]) fun _ _ _ _ _ _ us hl => match us, hl with | [_, _], _ => rfl
  have F16 := fun_mk (st := st_law_same) l16 c16 k16
  have b16 := F16.binds (ps := ["actual", "due"]) fun _ _ _ _ _ _ us hl => match us, hl with | [_, _], _ => rfl
  have F17 := fun_mk (st := st_law_is_integer) l17 c17 k17
  have b17 := F17.binds (ps := ["actual"]) fun _ _ _ _ _ _ us hl => match us, hl with | [_], _ => rfl
  have F18 := fun_mk (st := st_law_own_word) l18 c18 k18
  have b18 := F18.binds (ps := ["text"]) fun _ _ _ _ _ _ us hl => match us, hl with | [_], _ => rfl
  have F19 := fun_mk (st := st_law_own_pieces) l19 c19 k19
  have b19 := F19.binds (ps := ["text"]) fun _ _ _ _ _ _ us hl => match us, hl with | [_], _ => rfl
  have F20 := fun_mk (st := st_law_sized) l20 c20 k20
  have b20 := F20.binds (ps := ["store", "low", "high"]) fun _ _ _ _ _ _ us hl => match us, hl with | [_, _, _], _ => rfl
  have F21 := fun_mk (st := st_law_long_name) l21 c21 k21
  have b21 := F21.binds (ps := ["store"]) fun _ _ _ _ _ _ us hl => match us, hl with | [_], _ => rfl
  have F22 := fun_mk (st := st_law_with_sign) l22 c22 k22
  have b22 := F22.binds (ps := ["store", "text"]) fun _ _ _ _ _ _ us hl => match us, hl with | [_, _], _ => rfl
  have F23 := fun_mk (st := st_law_drawn_text) l23 c23 k23
  have b23 := F23.binds (ps := ["store"]) fun _ _ _ _ _ _ us hl => match us, hl with | [_], _ => rfl
  have F24 := fun_mk (st := st_law_text_is_told) l24 c24 k24
  have b24 := F24.binds (ps := ["text"]) fun _ _ _ _ _ _ us hl => match us, hl with | [_], _ => rfl
  have F25 := fun_mk (st := st_law_piece) l25 c25 k25
  have b25 := F25.binds (ps := ["store"]) fun _ _ _ _ _ _ us hl => match us, hl with | [_], _ => rfl
  have F26 := fun_mk (st := st_law_join_is_told) l26 c26 k26
  have b26 := F26.binds (ps := ["store"]) fun _ _ _ _ _ _ us hl => match us, hl with | [_], _ => rfl
  have F27 := fun_mk (st := st_law) l27 c27 k27
  have b27 := F27.binds (ps := ["script"]) fun _ _ _ _ _ _ us hl => match us, hl with | [_], _ => rfl
  refine ⟨PySem.W.fnOf "law" "law" (defArgs st_law) (defBody st_law) (defScope st_law) .none kV27 dc27 pm27 an27 cd27 ct27, fun s v => .of_eq rfl, fun base _ _ => ?_⟩
  have C_is_word : Df l.prog w K mg base "is_word" 1 ["text"] sp_is_word := ⟨_, _, ok_is_word F0 T , PySem.W.mg_of X G a0, k0, b0⟩
  have C_join_name : Df l.prog w K mg base "join_name" 2 ["word", "words"] sp_join_name := ⟨_, _, ok_join_name F3 T C_is_word, PySem.W.mg_of X G a3, k3, b3⟩
  have C_name_parts : Df l.prog w K mg base "name_parts" 3 ["text"] sp_name_parts := ⟨_, _, ok_name_parts F2 T C_join_name C_is_word, PySem.W.mg_of X G a2, k2, b2⟩
  have C_is_step_name : Df l.prog w K mg base "is_step_name" 4 ["text"] sp_is_step_name := ⟨_, _, ok_is_step_name F1 T C_name_parts, PySem.W.mg_of X G a1, k1, b1⟩
  have C_law_mix : Df l.prog w K mg base "_law_mix" 1 ["number", "turn"] sp_law_mix := ⟨_, _, ok_law_mix F4 T , PySem.W.mg_of X G a4, k4, b4⟩
  have C_law_store : Df l.prog w K mg base "_law_store" 1 ["script"] sp_law_store := ⟨_, _, ok_law_store F5 T , PySem.W.mg_of X G a5, k5, b5⟩
  have C_law_take : Df l.prog w K mg base "_law_take" 2 ["store", "many"] sp_law_take := ⟨_, _, ok_law_take F6 T C_law_mix, PySem.W.mg_of X G a6, k6, b6⟩
  have C_law_between : Df l.prog w K mg base "_law_between" 3 ["store", "low", "high"] sp_law_between := ⟨_, _, ok_law_between F7 T C_law_take, PySem.W.mg_of X G a7, k7, b7⟩
  have C_law_one_in : Df l.prog w K mg base "_law_one_in" 3 ["store", "many"] sp_law_one_in := ⟨_, _, ok_law_one_in F8 T C_law_take, PySem.W.mg_of X G a8, k8, b8⟩
  have C_law_pick : Df l.prog w K mg base "_law_pick" 3 ["store", "items"] sp_law_pick := ⟨_, _, ok_law_pick F9 T C_law_take, PySem.W.mg_of X G a9, k9, b9⟩
  have C_law_word : Df l.prog w K mg base "_law_word" 4 ["store"] sp_law_word := ⟨_, _, ok_law_word F10 T C_law_pick C_law_one_in C_law_between C_law_take, PySem.W.mg_of X G a10, k10, b10⟩
  have C_law_step_name : Df l.prog w K mg base "_law_step_name" 5 ["store", "word"] sp_law_step_name := ⟨_, _, ok_law_step_name F11 T C_law_word C_law_pick C_law_take, PySem.W.mg_of X G a11, k11, b11⟩
  have C_law_bent_text : Df l.prog w K mg base "_law_bent_text" 4 ["store", "word"] sp_law_bent_text := ⟨_, _, ok_law_bent_text F14 T C_law_one_in C_law_pick C_law_take, PySem.W.mg_of X G a14, k14, b14⟩
  have C_law_no_word : Df l.prog w K mg base "_law_no_word" 5 ["store"] sp_law_no_word := ⟨_, _, ok_law_no_word F12 T C_law_pick C_law_bent_text C_law_word C_law_take, PySem.W.mg_of X G a12, k12, b12⟩
  have C_law_no_step_name : Df l.prog w K mg base "_law_no_step_name" 5 ["store"] sp_law_no_step_name := ⟨_, _, ok_law_no_step_name F13 T C_law_pick C_law_word C_law_bent_text C_law_take, PySem.W.mg_of X G a13, k13, b13⟩
  have C_law_any_text : Df l.prog w K mg base "_law_any_text" 4 ["store", "most"] sp_law_any_text := ⟨_, _, ok_law_any_text F15 T C_law_take C_law_pick C_law_one_in, PySem.W.mg_of X G a15, k15, b15⟩
  have C_law_is_integer : Df l.prog w K mg base "_law_is_integer" 1 ["actual"] sp_law_is_integer := ⟨_, _, ok_law_is_integer F17 T , PySem.W.mg_of X G a17, k17, b17⟩
  have R_law_same : ∀ n, FnD l.prog w K mg base (n + 1) f16 _ ["actual", "due"] (sp_law_same n) := fun n => by
    induction n with
    | zero => exact fn_never
    | succ n ih => exact ok_law_same F16 T (by omega) ⟨_, _, ih, PySem.W.mg_of X G a16, k16, b16⟩ C_law_is_integer
  have C_law_same : Df l.prog w K mg base "_law_same" 5 ["actual", "due"] (sp_law_same 4) := ⟨_, _, R_law_same 4, PySem.W.mg_of X G a16, k16, b16⟩
  have C_law_own_word : Df l.prog w K mg base "_law_own_word" 1 ["text"] sp_law_own_word := ⟨_, _, ok_law_own_word F18 T , PySem.W.mg_of X G a18, k18, b18⟩
  have C_law_own_pieces : Df l.prog w K mg base "_law_own_pieces" 2 ["text"] sp_law_own_pieces := ⟨_, _, ok_law_own_pieces F19 T C_law_own_word, PySem.W.mg_of X G a19, k19, b19⟩
  have C_law_sized : Df l.prog w K mg base "_law_sized" 4 ["store", "low", "high"] sp_law_sized := ⟨_, _, ok_law_sized F20 T C_law_pick C_law_between, PySem.W.mg_of X G a20, k20, b20⟩
  have C_law_long_name : Df l.prog w K mg base "_law_long_name" 5 ["store"] sp_law_long_name := ⟨_, _, ok_law_long_name F21 T C_law_sized C_law_take, PySem.W.mg_of X G a21, k21, b21⟩
  have C_law_with_sign : Df l.prog w K mg base "_law_with_sign" 4 ["store", "text"] sp_law_with_sign := ⟨_, _, ok_law_with_sign F22 T C_law_pick C_law_take, PySem.W.mg_of X G a22, k22, b22⟩
  have C_law_drawn_text : Df l.prog w K mg base "_law_drawn_text" 6 ["store"] sp_law_drawn_text := ⟨_, _, ok_law_drawn_text F23 T C_law_sized C_law_with_sign C_law_step_name C_law_word C_law_long_name C_law_any_text C_law_no_step_name C_law_no_word C_law_take, PySem.W.mg_of X G a23, k23, b23⟩
  have C_law_text_is_told : Df l.prog w K mg base "_law_text_is_told" 6 ["text"] sp_law_text_is_told := ⟨_, _, ok_law_text_is_told F24 T C_law_same C_join_name C_name_parts C_is_step_name C_is_word C_law_own_word C_law_own_pieces, PySem.W.mg_of X G a24, k24, b24⟩
  have C_law_piece : Df l.prog w K mg base "_law_piece" 6 ["store"] sp_law_piece := ⟨_, _, ok_law_piece F25 T C_law_pick C_law_no_word C_law_word C_law_take, PySem.W.mg_of X G a25, k25, b25⟩
  have C_law_join_is_told : Df l.prog w K mg base "_law_join_is_told" 7 ["store"] sp_law_join_is_told := ⟨_, _, ok_law_join_is_told F26 T C_law_same C_join_name C_law_one_in C_law_own_word C_law_take C_law_pick C_law_piece, PySem.W.mg_of X G a26, k26, b26⟩
  exact ok_law F27 T C_law_same C_name_parts C_join_name C_law_sized C_law_take C_law_join_is_told C_law_text_is_told C_law_drawn_text C_law_bent_text C_law_word C_law_step_name C_law_store
end L00
open PySem PySem.W PyProof.Rows
set_option maxHeartbeats 0 in
theorem PySem.Challenge.cw_onemaking_k00_words_and_step_names_holds : PySem.Challenge.rw_onemaking_k00_words_and_step_names.Holds := by
  w_on; o_law; k_head; (case hw => w_witness2)
  k_fill
  refine L2.walk_of (l := PySem.Challenge.rw_onemaking_k00_words_and_step_names) (n := 63) (k := 8) (x := "script") (CX := fun w => L2.CX PySem.Challenge.rw_onemaking_k00_words_and_step_names.prog w) (sp := fun w => DL.upSp _ L00.sp_law) rfl (by decide) rfl ⟨rfl, by decide, by decide⟩ (fun w h Y => PySem.W.kIn_of Y) ?F (fun w H a ns hl _ hS => DL.law_sp hS ⟨ns, rfl, hl, fun _ => rfl⟩) (fun w H s e s' h => DL.cx_none h)
  case F =>
    intro w mg fa h KX G hmg
    refine' L00.all_mk KX G hmg ?a0 ?l0 ?c0 ?k0 ?a1 ?l1 ?c1 ?k1 ?a2 ?l2 ?c2 ?k2 ?a3 ?l3 ?c3 ?k3 ?a4 ?l4 ?c4 ?k4 ?a5 ?l5 ?c5 ?k5 ?a6 ?l6 ?c6 ?k6 ?a7 ?l7 ?c7 ?k7 ?a8 ?l8 ?c8 ?k8 ?a9 ?l9 ?c9 ?k9 ?a10 ?l10 ?c10 ?k10 ?a11 ?l11 ?c11 ?k11 ?a12 ?l12 ?c12 ?k12 ?a13 ?l13 ?c13 ?k13 ?a14 ?l14 ?c14 ?k14 ?a15 ?l15 ?c15 ?k15 ?a16 ?l16 ?c16 ?k16 ?a17 ?l17 ?c17 ?k17 ?a18 ?l18 ?c18 ?k18 ?a19 ?l19 ?c19 ?k19 ?a20 ?l20 ?c20 ?k20 ?a21 ?l21 ?c21 ?k21 ?a22 ?l22 ?c22 ?k22 ?a23 ?l23 ?c23 ?k23 ?a24 ?l24 ?c24 ?k24 ?a25 ?l25 ?c25 ?k25 ?a26 ?l26 ?c26 ?k26 ?a27 ?l27 ?c27 ?k27 ?z0 ?z1 ?z2 ?z3 ?z4 ?z5 ?z6 ?z7 ?z8 ?z9 ?z10 ?z11 ?z12 ?z13
    (case a0 => k_is)
    (case l0 => k_is)
    (case c0 => k_is)
    (case k0 => k_is)
    (case a1 => k_is)
    (case l1 => k_is)
    (case c1 => k_is)
    (case k1 => k_is)
    (case a2 => k_is)
    (case l2 => k_is)
    (case c2 => k_is)
    (case k2 => k_is)
    (case a3 => k_is)
    (case l3 => k_is)
    (case c3 => k_is)
    (case k3 => k_is)
    (case a4 => k_is)
    (case l4 => k_is)
    (case c4 => k_is)
    (case k4 => k_is)
    (case a5 => k_is)
    (case l5 => k_is)
    (case c5 => k_is)
    (case k5 => k_is)
    (case a6 => k_is)
    (case l6 => k_is)
    (case c6 => k_is)
    (case k6 => k_is)
    (case a7 => k_is)
    (case l7 => k_is)
    (case c7 => k_is)
    (case k7 => k_is)
    (case a8 => k_is)
    (case l8 => k_is)
    (case c8 => k_is)
    (case k8 => k_is)
    (case a9 => k_is)
    (case l9 => k_is)
    (case c9 => k_is)
    (case k9 => k_is)
    (case a10 => k_is)
    (case l10 => k_is)
    (case c10 => k_is)
    (case k10 => k_is)
    (case a11 => k_is)
    (case l11 => k_is)
    (case c11 => k_is)
    (case k11 => k_is)
    (case a12 => k_is)
    (case l12 => k_is)
    (case c12 => k_is)
    (case k12 => k_is)
    (case a13 => k_is)
    (case l13 => k_is)
    (case c13 => k_is)
    (case k13 => k_is)
    (case a14 => k_is)
    (case l14 => k_is)
    (case c14 => k_is)
    (case k14 => k_is)
    (case a15 => k_is)
    (case l15 => k_is)
    (case c15 => k_is)
    (case k15 => k_is)
    (case a16 => k_is)
    (case l16 => k_is)
    (case c16 => k_is)
    (case k16 => k_is)
    (case a17 => k_is)
    (case l17 => k_is)
    (case c17 => k_is)
    (case k17 => k_is)
    (case a18 => k_is)
    (case l18 => k_is)
    (case c18 => k_is)
    (case k18 => k_is)
    (case a19 => k_is)
    (case l19 => k_is)
    (case c19 => k_is)
    (case k19 => k_is)
    (case a20 => k_is)
    (case l20 => k_is)
    (case c20 => k_is)
    (case k20 => k_is)
    (case a21 => k_is)
    (case l21 => k_is)
    (case c21 => k_is)
    (case k21 => k_is)
    (case a22 => k_is)
    (case l22 => k_is)
    (case c22 => k_is)
    (case k22 => k_is)
    (case a23 => k_is)
    (case l23 => k_is)
    (case c23 => k_is)
    (case k23 => k_is)
    (case a24 => k_is)
    (case l24 => k_is)
    (case c24 => k_is)
    (case k24 => k_is)
    (case a25 => k_is)
    (case l25 => k_is)
    (case c25 => k_is)
    (case k25 => k_is)
    (case a26 => k_is)
    (case l26 => k_is)
    (case c26 => k_is)
    (case k26 => k_is)
    (case a27 => k_is)
    (case l27 => k_is)
    (case c27 => k_is)
    (case k27 => k_is)
    (case z0 => k_is)
    (case z1 => k_is)
    (case z2 => k_is)
    (case z3 => k_is)
    (case z4 => k_is)
    (case z5 => k_is)
    (case z6 => k_is)
    (case z7 => k_is)
    (case z8 => k_is)
    (case z9 => k_is)
    (case z10 => k_is)
    (case z11 => k_is)
    (case z12 => k_is)
    (case z13 => k_is)
