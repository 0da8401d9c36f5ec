import PyProof.Rows.All
import Wide.All
import OpenK.AllK
import Wide.FinOn
import HandS.ForMost
import HandS.ForExc
import HandS.Walk
import HandS.Zip
import HandS.TryMany
import HandS.Style
import HandS.Property
import HandS.IsInst
import HandS.CallSlots
import HandS.ExcInit
import HandS.ExcField
import PySem.Challenge.RW_fieldberth_k37_octets_moved
set_option Elab.async false
set_option linter.all false
set_option maxRecDepth 100000
/-! Dl: programs as functions over plain data. D: data; M: what a def comes to; Rep: how data lie in the heap. -/
namespace Dl
open PySem L2

/-- plain data: lists that nobody changes any more and tuples are trees; ptr: an object that may change or whose identity counts; strm: the law's stream -/
inductive D where
  | non | bl (b : Bool) | int (i : Int) | str (x : Str) | lst (ds : List D) | tup (ds : List D) | ptr (k : Nat) | strm
/-- what stands at a pointer -/
inductive Cell where
  | lst (ds : List D) | dic (kvs : List (Key × D)) | ins (c : Str) (fs : List (Str × D))
/-- the law's stream: what is left of the script, the number at hand, the draws so far, the mix -/
structure Strm where
  xs : List Int
  cur : Int
  cnt : Int
  mix : Int
structure MS where
  cells : List Cell
  st : Strm
structure Err where
  cls : Str
  fld : Str
  val : D
inductive Res (α : Type) where
  | ok (a : α) (s : MS)
  | err (e : Err) (s : MS)
  | bad
@[reducible] def M (α : Type) := MS → Res α
namespace M
def pure {α : Type} (a : α) : M α := fun s => .ok a s
def bind {α β : Type} (m : M α) (f : α → M β) : M β := fun s => match m s with
  | .ok a s' => f a s'
  | .err e s' => .err e s'
  | .bad => .bad
def bad {α : Type} : M α := fun _ => .bad
def raise {α : Type} (e : Err) : M α := fun s => .err e s
end M

/-- the ghost of a state: where the pointers lie, where the stream lies, what else may still change (lists that some frame builds) -/
structure Gh where
  φ : List Addr
  sa : Addr
  sb : Addr
  O : Addr → Prop
def Gh.cell (G : Gh) (b : Addr) : Prop := b ∈ G.φ ∨ b = G.sa ∨ b = G.sb
def Gh.mu (G : Gh) (b : Addr) : Prop := G.cell b ∨ G.O b

section
variable (K : PySem.W.Frag) (G : Gh) (H : Hp)
mutual
inductive Rep : V → D → Prop
  | non : Rep .non .non
  | bl (b : Bool) : Rep (.bl b) (.bl b)
  | int (i : Int) : Rep (.int i) (.int i)
  | str (x : Str) : Rep (.str x) (.str x)
  | lst {a : Addr} {xs : List V} {ds : List D} : H a = some (.lst xs) → xs.length ≤ sizeLine → ¬ G.mu a → Reps xs ds → Rep (.ref a) (.lst ds)
  | tup {a : Addr} {xs : List V} {ds : List D} : SqT K H a xs → xs.length ≤ sizeLine → Reps xs ds → Rep (.ref a) (.tup ds)
  | ptr {a : Addr} {k : Nat} : G.φ[k]? = some a → Rep (.ref a) (.ptr k)
  | strm : Rep (.ref G.sa) .strm
inductive Reps : List V → List D → Prop
  | nil : Reps [] []
  | cons {v : V} {d : D} {vs : List V} {ds : List D} : Rep v d → Reps vs ds → Reps (v :: vs) (d :: ds)
end
/-- a dict's pairs, an instance's attributes -/
inductive KReps : List (Key × V) → List (Key × D) → Prop
  | nil : KReps [] []
  | cons {k : Key} {v : V} {d : D} {vs : List (Key × V)} {ds : List (Key × D)} : Rep K G H v d → KReps vs ds → KReps ((k, v) :: vs) ((k, d) :: ds)
inductive FReps : List (Str × V) → List (Str × D) → Prop
  | nil : FReps [] []
  | cons {k : Str} {v : V} {d : D} {vs : List (Str × V)} {ds : List (Str × D)} : Rep K G H v d → FReps vs ds → FReps ((k, v) :: vs) ((k, d) :: ds)
end

/-- never changed by anyone -/
def Fix : HO → Prop
  | .tup _ => True
  | .frz _ _ => True
  | _ => False

/-- from one state to a later one: only pointers and the stream have changed, all else that was tracked stands as it was -/
structure FR (G : Gh) (H : Hp) (G' : Gh) (H' : Hp) : Prop where
  pre : G.φ <+: G'.φ
  sa : G'.sa = G.sa
  sb : G'.sb = G.sb
  keep : ∀ b o, H b = some o → (¬ G.cell b ∨ Fix o) → H' b = some o
  cnew : ∀ b, G'.cell b → G.cell b ∨ H b = none
  onew : ∀ b, G'.O b → G.O b ∨ H b = none
  oold : ∀ b, G.O b → G'.O b
  there : ∀ b o, H b = some o → ∃ o', H' b = some o'

theorem FR.refl (G : Gh) (H : Hp) : FR G H G H := ⟨List.prefix_rfl, rfl, rfl, fun _ _ h _ => h, fun _ h => .inl h, fun _ h => .inl h, fun _ h => h, fun _ o h => ⟨o, h⟩⟩
theorem FR.free {G G' : Gh} {H H' : Hp} (a : FR G H G' H') {b : Addr} (h : H' b = none) : H b = none := by
  cases e : H b with
  | none => rfl
  | some o =>
    obtain ⟨o', q⟩ := a.there b o e
    rw [h] at q; cases q
theorem FR.trans {G G1 G2 : Gh} {H H1 H2 : Hp} (a : FR G H G1 H1) (b : FR G1 H1 G2 H2) : FR G H G2 H2 where
  pre := a.pre.trans b.pre
  sa := b.sa.trans a.sa
  sb := b.sb.trans a.sb
  keep := fun c o h q => b.keep c o (a.keep c o h q) (by
    rcases q with q | q
    · refine .inl fun z => ?_
      rcases a.cnew c z with y | y
      · exact q y
      · rw [h] at y; cases y
    · exact .inr q)
  cnew := fun c h => by
    rcases b.cnew c h with z | z
    · exact a.cnew c z
    · exact .inr (a.free z)
  onew := fun c h => by
    rcases b.onew c h with z | z
    · exact a.onew c z
    · exact .inr (a.free z)
  oold := fun c h => b.oold c (a.oold c h)
  there := fun c o h => by
    obtain ⟨o', q⟩ := a.there c o h
    exact b.there c o' q
theorem FR.mu {G G1 : Gh} {H H1 : Hp} (a : FR G H G1 H1) {b : Addr} {o : HO} (h : H b = some o) (n : ¬ G.mu b) : ¬ G1.mu b := fun z => by
  rcases z with z | z
  · rcases a.cnew b z with y | y
    · exact n (.inl y)
    · rw [h] at y; cases y
  · rcases a.onew b z with y | y
    · exact n (.inr y)
    · rw [h] at y; cases y
theorem FR.sqT {K : PySem.W.Frag} {G G1 : Gh} {H H1 : Hp} (r : FR G H G1 H1) {a : Addr} {xs : List V} (h : SqT K H a xs) : SqT K H1 a xs := by
  rcases h with (h | ⟨u, h⟩) | h
  · exact .inl (.inl (r.keep _ _ h (.inr trivial)))
  · exact .inl (.inr ⟨u, r.keep _ _ h (.inr trivial)⟩)
  · exact .inr h

/-- the same with less: what a frame builds may have changed, too -/
structure LR (G : Gh) (H : Hp) (G' : Gh) (H' : Hp) : Prop where
  pre : G.φ <+: G'.φ
  sa : G'.sa = G.sa
  sb : G'.sb = G.sb
  keep : ∀ b o, H b = some o → (¬ G.mu b ∨ Fix o) → H' b = some o
  mnew : ∀ b, G'.mu b → G.mu b ∨ H b = none
  there : ∀ b o, H b = some o → ∃ o', H' b = some o'
theorem LR.refl (G : Gh) (H : Hp) : LR G H G H := ⟨List.prefix_rfl, rfl, rfl, fun _ _ h _ => h, fun _ h => .inl h, fun _ o h => ⟨o, h⟩⟩
theorem LR.free {G G' : Gh} {H H' : Hp} (a : LR G H G' H') {b : Addr} (h : H' b = none) : H b = none := by
  cases e : H b with
  | none => rfl
  | some o =>
    obtain ⟨o', q⟩ := a.there b o e
    rw [h] at q; cases q
theorem LR.trans {G G1 G2 : Gh} {H H1 H2 : Hp} (a : LR G H G1 H1) (b : LR G1 H1 G2 H2) : LR G H G2 H2 where
  pre := a.pre.trans b.pre
  sa := b.sa.trans a.sa
  sb := b.sb.trans a.sb
  keep := fun c o h q => b.keep c o (a.keep c o h q) (by
    rcases q with q | q
    · refine .inl fun z => ?_
      rcases a.mnew c z with y | y
      · exact q y
      · rw [h] at y; cases y
    · exact .inr q)
  mnew := fun c h => by
    rcases b.mnew c h with z | z
    · exact a.mnew c z
    · exact .inr (a.free z)
  there := fun c o h => by
    obtain ⟨o', q⟩ := a.there c o h
    exact b.there c o' q
theorem FR.lr {G G1 : Gh} {H H1 : Hp} (a : FR G H G1 H1) : LR G H G1 H1 :=
  ⟨a.pre, a.sa, a.sb, fun b o h q => a.keep b o h (q.elim (fun y => .inl fun z => y (.inl z)) .inr), fun b h => by
    rcases h with h | h
    · exact (a.cnew b h).elim (fun y => .inl (.inl y)) .inr
    · exact (a.onew b h).elim (fun y => .inl (.inr y)) .inr, a.there⟩
theorem LR.sqT {K : PySem.W.Frag} {G G1 : Gh} {H H1 : Hp} (r : LR G H G1 H1) {a : Addr} {xs : List V} (h : SqT K H a xs) : SqT K H1 a xs := by
  rcases h with (h | ⟨u, h⟩) | h
  · exact .inl (.inl (r.keep _ _ h (.inr trivial)))
  · exact .inl (.inr ⟨u, r.keep _ _ h (.inr trivial)⟩)
  · exact .inr h
section
variable {K : PySem.W.Frag} {G G1 : Gh} {H H1 : Hp}
mutual
theorem Rep.lr (r : LR G H G1 H1) : ∀ {v : V} {d : D}, Rep K G H v d → Rep K G1 H1 v d
  | _, _, .non => .non
  | _, _, .bl b => .bl b
  | _, _, .int i => .int i
  | _, _, .str x => .str x
  | _, _, .lst h z n t => .lst (r.keep _ _ h (.inl n)) z (fun q => (r.mnew _ q).elim n fun y => by rw [h] at y; cases y) (Reps.lr r t)
  | _, _, .tup h z t => .tup (r.sqT h) z (Reps.lr r t)
  | _, _, .ptr h => .ptr (by
      obtain ⟨t, e⟩ := r.pre
      rw [← e, List.getElem?_append_left (List.getElem?_eq_some_iff.mp h).1]
      exact h)
  | _, _, .strm => by rw [← r.sa]; exact .strm
theorem Reps.lr (r : LR G H G1 H1) : ∀ {v : List V} {d : List D}, Reps K G H v d → Reps K G1 H1 v d
  | _, _, .nil => .nil
  | _, _, .cons h t => .cons (Rep.lr r h) (Reps.lr r t)
end
theorem KReps.lr (r : LR G H G1 H1) : ∀ {v : List (Key × V)} {d : List (Key × D)}, KReps K G H v d → KReps K G1 H1 v d
  | _, _, .nil => .nil
  | _, _, .cons h t => .cons (h.lr r) (KReps.lr r t)
theorem FReps.lr (r : LR G H G1 H1) : ∀ {v : List (Str × V)} {d : List (Str × D)}, FReps K G H v d → FReps K G1 H1 v d
  | _, _, .nil => .nil
  | _, _, .cons h t => .cons (h.lr r) (FReps.lr r t)
theorem Rep.mono (r : FR G H G1 H1) {v : V} {d : D} (h : Rep K G H v d) : Rep K G1 H1 v d := h.lr r.lr
theorem Reps.mono (r : FR G H G1 H1) {v : List V} {d : List D} (h : Reps K G H v d) : Reps K G1 H1 v d := h.lr r.lr
theorem KReps.mono (r : FR G H G1 H1) {v : List (Key × V)} {d : List (Key × D)} (h : KReps K G H v d) : KReps K G1 H1 v d := h.lr r.lr
theorem FReps.mono (r : FR G H G1 H1) {v : List (Str × V)} {d : List (Str × D)} (h : FReps K G H v d) : FReps K G1 H1 v d := h.lr r.lr
end

/-- what a frame builds: own or given up -/
def Gh.own (G : Gh) (l : Addr) : Gh := { G with O := fun b => b = l ∨ G.O b }
def Gh.let (G : Gh) (l : Addr) : Gh := { G with O := fun b => b ≠ l ∧ G.O b }
/-- an object that may change does -/
theorem LR.put {G : Gh} {H : Hp} {l : Addr} {o o' : HO} (hl : H l = some o) (hf : ¬ Fix o) (hm : G.mu l) : LR G H G (upd H l o') :=
  ⟨List.prefix_rfl, rfl, rfl, fun b u h q => by
    rw [upd_ne fun e => ?_]
    · exact h
    · subst e
      rw [hl] at h; cases h
      exact q.elim (fun y => y hm) hf, fun b h => .inl h, fun b u h => by
    by_cases e : b = l
    · rw [e]; exact ⟨o', upd_same⟩
    · exact ⟨u, by rw [upd_ne e]; exact h⟩⟩
theorem LR.let {G : Gh} {H : Hp} {l : Addr} : LR G H (G.let l) H :=
  ⟨List.prefix_rfl, rfl, rfl, fun _ _ h _ => h, fun b h => .inl (h.elim .inl fun y => .inr y.2), fun _ o h => ⟨o, h⟩⟩
section
variable {K : PySem.W.Frag} {G : Gh} {H : Hp} {l : Addr}
theorem Rep.let {v : V} {d : D} (h : Rep K G H v d) : Rep K (G.let l) H v d := h.lr LR.let
theorem Reps.let {v : List V} {d : List D} (h : Reps K G H v d) : Reps K (G.let l) H v d := h.lr LR.let
theorem KReps.let {v : List (Key × V)} {d : List (Key × D)} (h : KReps K G H v d) : KReps K (G.let l) H v d := h.lr LR.let
theorem FReps.let {v : List (Str × V)} {d : List (Str × D)} (h : FReps K G H v d) : FReps K (G.let l) H v d := h.lr LR.let
end

/-! ### states -/
section
variable (K : PySem.W.Frag) (mg : Str → Option Value)
def CellRep (G : Gh) (H : Hp) (a : Addr) : Cell → Prop
  | .lst ds => ∃ xs, H a = some (.lst xs) ∧ xs.length ≤ sizeLine ∧ Reps K G H xs ds
  | .dic kvs => ∃ ks, H a = some (.dK ks) ∧ ks.length ≤ sizeLine ∧ KReps K G H ks kvs
  | .ins c fs => ∃ C dx gs, mg c = some (.ref C) ∧ H a = some (.ins C dx gs) ∧ FReps K G H gs fs
structure Wf (G : Gh) (H : Hp) (S : MS) : Prop where
  len : G.φ.length = S.cells.length
  nd : G.φ.Nodup
  cell : ∀ (k : Nat) (c : Cell) (a : Addr), S.cells[k]? = some c → G.φ[k]? = some a → CellRep K mg G H a c
  live : ∀ b, G.mu b → ∃ o, H b = some o
  ha : H G.sa = some (.lst [.ref G.sb, .int S.st.cur, .int S.st.cnt, .int S.st.mix])
  hb : H G.sb = some (.lst (S.st.xs.map V.int))
  sab : G.sa ≠ G.sb
  na : G.sa ∉ G.φ
  nb : G.sb ∉ G.φ
  zs : S.st.xs.length ≤ 1000
/-- an error of the package: class, own dict with its one field -/
def ErrRep (G : Gh) (H : Hp) (e : Err) (cls : Value) (da : Option Addr) : Prop :=
  ∃ C d v, mg e.cls = some (.ref C) ∧ cls = .ref C ∧ da = some d ∧ H d = some (.xd [(e.fld, v)]) ∧ ¬ G.mu d ∧ Rep K G H v e.val

/-- what a slot is known to hold -/
inductive Slot where
  | any | val (d : D) | own (ds : List D) | exc (a dd : Addr) (f : Str) (d : D)
def SlotRep (H0 : Hp) (G : Gh) (H : Hp) (u : Option (Option V)) : Slot → Prop
  | .any => True
  | .val d => ∃ v, u = some (some v) ∧ Rep K G H v d
  | .own ds => ∃ l xs, u = some (some (.ref l)) ∧ H l = some (.lst xs) ∧ xs.length ≤ sizeLine ∧ Reps K G H xs ds ∧ G.O l ∧ ¬ G.cell l ∧ H0 l = none
  | .exc a dd f d => u = some (some (.ref a)) ∧ ∃ v, H dd = some (.xd [(f, v)]) ∧ ¬ G.mu dd ∧ Rep K G H v d
/-- the state in a body: entered at G0, H0 -/
structure SI (G0 : Gh) (H0 : Hp) (G : Gh) (H : Hp) (σ : L2.St) (ρ : List Slot) (S : MS) : Prop where
  fr : FR G0 H0 G H
  live0 : ∀ b, G0.mu b → ∃ o, H0 b = some o
  wf : Wf K mg G H S
  len : σ.length = ρ.length
  env : ∀ (i : Nat) (s : Slot), ρ[i]? = some s → SlotRep K H0 G H σ[i]? s
  apart : ∀ (i j : Nat) (ds es : List D) (l : Addr), i ≠ j → ρ[i]? = some (.own ds) → ρ[j]? = some (.own es) → σ[i]? = some (some (.ref l)) → σ[j]? ≠ some (some (.ref l))
end
end Dl

namespace Dl
open PySem L2

section
variable {K : PySem.W.Frag} {mg : Str → Option Value} {G G0 G1 : Gh} {H H0 H1 : Hp} {S : MS} {σ : L2.St} {ρ : List Slot} {p : Addr} {o : HO}
theorem FR.alloc (h : H p = none) : FR G H G (upd H p o) :=
  ⟨List.prefix_rfl, rfl, rfl, fun b u e _ => by rw [upd_ne (ne_of_none e h)]; exact e, fun _ q => .inl q, fun _ q => .inl q, fun _ q => q, fun b u e => ⟨u, by rw [upd_ne (ne_of_none e h)]; exact e⟩⟩
/-- the pointers' own objects as they were -/
theorem Wf.stay (w : Wf K mg G H S) (r : FR G H G1 H1) (hφ : G1.φ = G.φ) (lv : ∀ b, G1.O b → ∃ o, H1 b = some o) (k : ∀ b u, G.cell b → H b = some u → H1 b = some u) : Wf K mg G1 H1 S where
  len := by rw [hφ]; exact w.len
  nd := by rw [hφ]; exact w.nd
  cell := fun i c a h1 h2 => by
    rw [hφ] at h2
    have q := w.cell i c a h1 h2
    have hc : G.cell a := .inl (List.mem_of_getElem? h2)
    cases c with
    | lst ds => obtain ⟨xs, e, z, t⟩ := q; exact ⟨xs, k _ _ hc e, z, t.mono r⟩
    | dic kvs => obtain ⟨xs, e, z, t⟩ := q; exact ⟨xs, k _ _ hc e, z, t.mono r⟩
    | ins c fs => obtain ⟨C, dx, gs, m, e, t⟩ := q; exact ⟨C, dx, gs, m, k _ _ hc e, t.mono r⟩
  live := fun b h => by
    rcases h with h | h
    · have hc : G.cell b := by
        unfold Gh.cell at h ⊢
        rw [hφ, r.sa, r.sb] at h
        exact h
      obtain ⟨u, e⟩ := w.live b (.inl hc)
      exact r.there b u e
    · exact lv b h
  ha := by rw [r.sa, r.sb]; exact k _ _ (.inr (.inl rfl)) w.ha
  hb := by rw [r.sb]; exact k _ _ (.inr (.inr rfl)) w.hb
  sab := by rw [r.sa, r.sb]; exact w.sab
  na := by rw [r.sa, hφ]; exact w.na
  nb := by rw [r.sb, hφ]; exact w.nb
  zs := w.zs
theorem Wf.alloc (w : Wf K mg G H S) (h : H p = none) : Wf K mg G (upd H p o) S := w.stay (.alloc h) rfl (fun b hb => by
    obtain ⟨u, e⟩ := w.live b (.inr hb)
    exact ⟨u, by rw [upd_ne (ne_of_none e h)]; exact e⟩) fun b u _ e => by rw [upd_ne (ne_of_none e h)]; exact e
theorem FR.allocO (h : H p = none) : FR G H (G.own p) (upd H p o) :=
  ⟨List.prefix_rfl, rfl, rfl, fun b u e _ => by rw [upd_ne (ne_of_none e h)]; exact e, fun _ q => .inl q, fun b q => by
    rcases q with q | q
    · rw [q]; exact .inr h
    · exact .inl q, fun _ q => .inr q, fun b u e => ⟨u, by rw [upd_ne (ne_of_none e h)]; exact e⟩⟩
theorem Wf.allocO (w : Wf K mg G H S) (h : H p = none) : Wf K mg (G.own p) (upd H p o) S := w.stay (.allocO h) rfl (fun b hb => by
    rcases hb with q | hb
    · rw [q]; exact ⟨o, upd_same⟩
    · obtain ⟨u, e⟩ := w.live b (.inr hb)
      exact ⟨u, by rw [upd_ne (ne_of_none e h)]; exact e⟩) fun b u _ e => by rw [upd_ne (ne_of_none e h)]; exact e
theorem Wf.fresh (w : Wf K mg G H S) (h : H p = none) : ¬ G.mu p := fun q => by
  obtain ⟨u, e⟩ := w.live p q
  rw [h] at e; cases e
theorem SI.mono {S' : MS} (s : SI K mg G0 H0 G H σ ρ S) (r : FR G H G1 H1) (w : Wf K mg G1 H1 S') : SI K mg G0 H0 G1 H1 σ ρ S' where
  fr := s.fr.trans r
  live0 := s.live0
  wf := w
  len := s.len
  env := fun i x h => by
    have q := s.env i x h
    cases x with
    | any => trivial
    | val d => obtain ⟨v, e, t⟩ := q; exact ⟨v, e, t.mono r⟩
    | own ds =>
      obtain ⟨l, xs, e, hl, z, t, ho, hc, h0⟩ := q
      refine ⟨l, xs, e, r.keep _ _ hl (.inl hc), z, t.mono r, r.oold _ ho, fun y => ?_, h0⟩
      rcases r.cnew l y with y | y
      · exact hc y
      · rw [hl] at y; cases y
    | exc a dd f d => obtain ⟨e, v, hd, n, t⟩ := q; exact ⟨e, v, r.keep _ _ hd (.inl fun c => n (.inl c)), r.mu hd n, t.mono r⟩
  apart := s.apart
theorem SI.alloc (s : SI K mg G0 H0 G H σ ρ S) (h : H p = none) : SI K mg G0 H0 G (upd H p o) σ ρ S := s.mono (.alloc h) (s.wf.alloc h)
end

section
variable {K : PySem.W.Frag} {mg : Str → Option Value} {G G0 G1 : Gh} {H H0 H1 : Hp} {S : MS} {σ : L2.St} {ρ : List Slot} {p l : Addr} {o : HO}
theorem SI.allocO (s : SI K mg G0 H0 G H σ ρ S) (h : H p = none) : SI K mg G0 H0 (G.own p) (upd H p o) σ ρ S := s.mono (.allocO h) (s.wf.allocO h)
/-- a list that no slot owns is given up: from then on it does not change -/
theorem FR.let (r : FR G0 H0 G H) (h : ∀ b, G0.O b → b ≠ l) : FR G0 H0 (G.let l) H :=
  ⟨r.pre, r.sa, r.sb, r.keep, r.cnew, fun b q => r.onew b q.2, fun b q => ⟨h b q, r.oold b q⟩, r.there⟩
theorem Wf.let (w : Wf K mg G H S) : Wf K mg (G.let l) H S where
  len := w.len
  nd := w.nd
  cell := fun i c a h1 h2 => by
    have q := w.cell i c a h1 h2
    cases c with
    | lst ds => obtain ⟨xs, e, z, t⟩ := q; exact ⟨xs, e, z, t.let⟩
    | dic kvs => obtain ⟨xs, e, z, t⟩ := q; exact ⟨xs, e, z, t.let⟩
    | ins c fs => obtain ⟨C, dx, gs, m, e, t⟩ := q; exact ⟨C, dx, gs, m, e, t.let⟩
  live := fun b h => w.live b (h.elim .inl fun y => .inr y.2)
  ha := w.ha
  hb := w.hb
  sab := w.sab
  na := w.na
  nb := w.nb
  zs := w.zs
theorem SI.let (s : SI K mg G0 H0 G H σ ρ S) (h0 : H0 l = none) (n : ∀ (i : Nat) (ds : List D), ρ[i]? = some (.own ds) → σ[i]? ≠ some (some (V.ref l))) : SI K mg G0 H0 (G.let l) H σ ρ S where
  fr := s.fr.let fun b hb e => by
    obtain ⟨u, q⟩ := s.live0 b (.inr hb)
    rw [e, h0] at q; cases q
  live0 := s.live0
  wf := s.wf.let
  len := s.len
  env := fun i x h => by
    have q := s.env i x h
    cases x with
    | any => trivial
    | val d => obtain ⟨v, e, t⟩ := q; exact ⟨v, e, t.let⟩
    | own ds =>
      obtain ⟨m, xs, e, hl, z, t, ho, hc, h0⟩ := q
      refine ⟨m, xs, e, hl, z, t.let, ⟨fun q => ?_, ho⟩, hc, h0⟩
      rw [q] at e
      exact n i ds h e
    | exc a dd f d => obtain ⟨e, v, hd, n, t⟩ := q; exact ⟨e, v, hd, fun z => n (z.elim .inl fun y => .inr y.2), t.let⟩
  apart := s.apart
/-- what a slot owns was there -/
theorem SI.owns (s : SI K mg G0 H0 G H σ ρ S) (h : H l = none) : ∀ (i : Nat) (ds : List D), ρ[i]? = some (.own ds) → σ[i]? ≠ some (some (V.ref l)) := fun i ds e q => by
  obtain ⟨m, xs, e', hl, _⟩ := s.env i _ e
  rw [q] at e'; cases e'
  rw [h] at hl; cases hl
end

/-! ### what is wanted behind a computation -/
section
variable (K : PySem.W.Frag) (mg : Str → Option Value) (W : WX)
def okG {α β : Type} (R : Gh → Hp → β → α → Prop) (G0 : Gh) (H0 : Hp) (G : Gh) (H : Hp) (σ : L2.St) (ρ : List Slot) (Q : β → Hp → Prop) : Res α → Prop
  | .ok a S => ∀ b G' H', SI K mg G0 H0 G' H' σ ρ S → FR G H G' H' → R G' H' b a → Q b H'
  | .err e S => ∀ cls da G' H', SI K mg G0 H0 G' H' σ ρ S → FR G H G' H' → ErrRep K mg G' H' e cls da → W cls da σ H'
  | .bad => False
/-- the reading of a piece whose computation is m -/
def tG {α β : Type} (R : Gh → Hp → β → α → Prop) (ρ : List Slot) (m : M α) : L2.St → Hp → (β → Hp → Prop) → Prop := fun σ H Q =>
  ∃ G0 H0 G S, SI K mg G0 H0 G H σ ρ S ∧ okG K mg W R G0 H0 G H σ ρ Q (m S)
end
abbrev RD (K : PySem.W.Frag) : Gh → Hp → V → D → Prop := fun G H v d => Rep K G H v d
abbrev RDs (K : PySem.W.Frag) : Gh → Hp → List V → List D → Prop := fun G H v d => Reps K G H v d
abbrev RB : Gh → Hp → Bool → Bool → Prop := fun _ _ a b => a = b
/-- a list or a tuple, to be looked at now -/
def RSq (K : PySem.W.Frag) : Gh → Hp → V → List D → Prop := fun G H v ds => ∃ a xs, v = .ref a ∧ (SqL K H a xs ∨ SqT K H a xs) ∧ xs.length ≤ sizeLine ∧ Reps K G H xs ds
def ED (X : Cx) (W : WX) (ρ : List Slot) (e : Expr) (m : M D) : Prop := PE X e (tG X.K X.mg W (RD X.K) ρ m)
def ET (X : Cx) (W : WX) (ρ : List Slot) (e : Expr) (m : M Bool) : Prop := PT X e (tG X.K X.mg W RB ρ m)
def EA (X : Cx) (W : WX) (ρ : List Slot) (es : List Expr) (m : M (List D)) : Prop := PA X es (tG X.K X.mg W (RDs X.K) ρ m)

theorem PE.imp {X : Cx} {e : Expr} {t u : TE} (h : PE X e t) (k : ∀ σ H Q, u σ H Q → t σ H Q) : PE X e u := ⟨fun pins s σ H Q I q => h.run pins s σ H Q I (k σ H Q q)⟩
theorem PT.imp {X : Cx} {e : Expr} {t u : TT} (h : PT X e t) (k : ∀ σ H Q, u σ H Q → t σ H Q) : PT X e u := ⟨fun pins s σ H Q I q => h.run pins s σ H Q I (k σ H Q q)⟩
theorem PW.imp {X : Cx} {e : Expr} {t u : TT} (h : PW X e t) (k : ∀ σ H Q, u σ H Q → t σ H Q) : PW X e u := ⟨fun wh pins s σ H Q I q => h.run wh pins s σ H Q I (k σ H Q q)⟩
theorem PA.imp {X : Cx} {es : List Expr} {t u : TA} (h : PA X es t) (k : ∀ σ H Q, u σ H Q → t σ H Q) : PA X es u := ⟨fun pos pins s σ H Q I q => h.run pos pins s σ H Q I (k σ H Q q)⟩
theorem PS.imp {X : Cx} {st : Stmt} {t u : TS} (h : PS X st t) (k : ∀ D σ H, u D σ H → t D σ H) : PS X st u := ⟨fun pins s σ H D I q => h.run pins s σ H D I (k D σ H q)⟩
theorem PSs.imp {X : Cx} {st : List Stmt} {t u : TS} (h : PSs X st t) (k : ∀ D σ H, u D σ H → t D σ H) : PSs X st u := ⟨fun pins s σ H D I q => h.run pins s σ H D I (k D σ H q)⟩

section
variable {K : PySem.W.Frag} {mg : Str → Option Value} {W : WX} {α β γ δ : Type} {R : Gh → Hp → β → α → Prop} {R' : Gh → Hp → δ → γ → Prop} {G0 G G1 : Gh} {H0 H H1 : Hp} {σ : L2.St} {ρ : List Slot} {Q : β → Hp → Prop} {Q' : δ → Hp → Prop} {S : MS}
theorem okG.from {r : Res α} (h : okG K mg W R G0 H0 G H σ ρ Q r) (f : FR G H G1 H1) : okG K mg W R G0 H0 G1 H1 σ ρ Q r := by
  cases r with
  | ok a S => exact fun b G' H' s r q => h b G' H' s (f.trans r) q
  | err e S => exact fun cls da G' H' s r => h cls da G' H' s (f.trans r)
  | bad => exact h
theorem okG.bind {m : M α} {f : α → M γ} (h : okG K mg W R' G0 H0 G H σ ρ Q' (m.bind f S))
    (k : ∀ G1 H1 S1 b a, SI K mg G0 H0 G1 H1 σ ρ S1 → FR G H G1 H1 → R G1 H1 b a → okG K mg W R' G0 H0 G1 H1 σ ρ Q' (f a S1) → Q b H1) : okG K mg W R G0 H0 G H σ ρ Q (m S) := by
  unfold M.bind at h
  cases e : m S with
  | ok a S1 =>
    rw [e] at h
    exact fun b G' H' s r q => k G' H' S1 b a s r q (okG.from h r)
  | err x S1 => rw [e] at h; exact h
  | bad => rw [e] at h; exact h
theorem okG.here {a : α} {b : β} (h : okG K mg W R G0 H0 G H σ ρ Q (.ok a S)) (s : SI K mg G0 H0 G H σ ρ S) (r : R G H b a) : Q b H := h b G H s (.refl G H) r
theorem okG.new {a : α} {b : β} {p : Addr} {o : HO} (h : okG K mg W R G0 H0 G H σ ρ Q (.ok a S)) (s : SI K mg G0 H0 G H σ ρ S) (hp : H p = none) (r : R G (upd H p o) b a) : Q b (upd H p o) := h b G (upd H p o) (s.alloc hp) (.alloc hp) r
end
/-! ### a list that is new: nobody else knows it -/
section
variable (K : PySem.W.Frag) (mg : Str → Option Value) (W : WX)
def okN (G0 : Gh) (H0 : Hp) (G : Gh) (H : Hp) (σ : L2.St) (ρ : List Slot) (Q : VK) : Res (List D) → Prop
  | .ok ds S => ∀ l xs G' H', SI K mg G0 H0 G' H' σ ρ S → FR G H G' H' → H l = none → H' l = some (.lst xs) → xs.length ≤ sizeLine → G'.O l → ¬ G'.cell l → Reps K G' H' xs ds → Q (.ref l) H'
  | .err e S => ∀ cls da G' H', SI K mg G0 H0 G' H' σ ρ S → FR G H G' H' → ErrRep K mg G' H' e cls da → W cls da σ H'
  | .bad => False
def tN (ρ : List Slot) (m : M (List D)) : TE := fun σ H Q => ∃ G0 H0 G S, SI K mg G0 H0 G H σ ρ S ∧ okN K mg W G0 H0 G H σ ρ Q (m S)
end
section
variable {K : PySem.W.Frag} {mg : Str → Option Value} {W : WX} {α β γ δ : Type} {R : Gh → Hp → β → α → Prop} {G0 G G1 : Gh} {H0 H H1 : Hp} {σ : L2.St} {ρ : List Slot} {Q : β → Hp → Prop} {Q' : VK} {S : MS}
theorem okN.from {r : Res (List D)} (h : okN K mg W G0 H0 G H σ ρ Q' r) (f : FR G H G1 H1) : okN K mg W G0 H0 G1 H1 σ ρ Q' r := by
  cases r with
  | ok a S => exact fun l xs G' H' s r n q z m c t => h l xs G' H' s (f.trans r) (f.free n) q z m c t
  | err e S => exact fun cls da G' H' s r => h cls da G' H' s (f.trans r)
  | bad => exact h
theorem okN.bind {m : M α} {f : α → M (List D)} (h : okN K mg W G0 H0 G H σ ρ Q' (m.bind f S))
    (k : ∀ G1 H1 S1 b a, SI K mg G0 H0 G1 H1 σ ρ S1 → FR G H G1 H1 → R G1 H1 b a → okN K mg W G0 H0 G1 H1 σ ρ Q' (f a S1) → Q b H1) : okG K mg W R G0 H0 G H σ ρ Q (m S) := by
  unfold M.bind at h
  cases e : m S with
  | ok a S1 =>
    rw [e] at h
    exact fun b G' H' s r q => k G' H' S1 b a s r q (okN.from h r)
  | err x S1 => rw [e] at h; exact h
  | bad => rw [e] at h; exact h
theorem okN.new {ds : List D} {p : Addr} {xs : List V} (h : okN K mg W G0 H0 G H σ ρ Q' (.ok ds S)) (s : SI K mg G0 H0 G H σ ρ S) (hp : H p = none) (z : xs.length ≤ sizeLine) (r : Reps K G H xs ds) : Q' (.ref p) (upd H p (.lst xs)) :=
  h p xs (G.own p) (upd H p (.lst xs)) (s.allocO hp) (.allocO hp) hp upd_same z (.inl rfl) (fun c => s.wf.fresh hp (.inl c)) (r.mono (.allocO hp))
end
def EN (X : Cx) (W : WX) (ρ : List Slot) (e : Expr) (m : M (List D)) : Prop := PE X e (tN X.K X.mg W ρ m)
end Dl

namespace Dl
open PySem L2

/-! ### the operations over data -/
mutual
def D.toPy : D → PyData
  | .non => .none
  | .bl b => .bool b
  | .int i => .int i
  | .str x => .str x
  | .lst ds => .list (D.toPys ds)
  | .tup ds => .tuple (D.toPys ds)
  | .ptr _ => .none
  | .strm => .none
def D.toPys : List D → List PyData
  | [] => []
  | d :: ds => d.toPy :: D.toPys ds
end
mutual
/-- no pointer in it -/
def D.flat : D → Bool
  | .lst ds => D.flats ds
  | .tup ds => D.flats ds
  | .ptr _ => false
  | .strm => false
  | _ => true
def D.flats : List D → Bool
  | [] => true
  | d :: ds => d.flat && D.flats ds
end
def D.plain (d : D) : Bool := d.flat && SeqAt.shaped d.toPy
def D.eqv (d e : D) : Bool := PyData.eqv d.toPy e.toPy

def szOk (n : Nat) : Bool := decide (n ≤ 16777216)
theorem sz_of {n : Nat} (h : szOk n = true) : n ≤ sizeLine := by rw [sizeLine_eq]; exact of_decide_eq_true h
def mulOk (i j : Int) : Bool := (decide (-(2 ^ 64) < i) && decide (i < 2 ^ 64)) || (decide (-(2 ^ 64) < j) && decide (j < 2 ^ 64))
theorem mul_of {i j : Int} (h : mulOk i j = true) : CMul i j := by
  unfold mulOk at h
  simp only [Bool.or_eq_true, Bool.and_eq_true, decide_eq_true_eq] at h
  exact h
def guard (b : Bool) (m : M D) : M D := if b = true then m else M.bad
def dAdd : D → D → M D
  | .int i, .int j => M.pure (.int (i + j))
  | .str x, .str y => guard (szOk (x.length + y.length)) (M.pure (.str (x ++ y)))
  | .lst xs, .lst ys => guard (szOk (xs.length + ys.length)) (M.pure (.lst (xs ++ ys)))
  | .tup (x :: xs), .tup ys => guard (szOk ((x :: xs).length + ys.length)) (M.pure (.tup (x :: xs ++ ys)))
  | _, _ => M.bad
def dSub : D → D → M D
  | .int i, .int j => M.pure (.int (i - j))
  | _, _ => M.bad
def dMul : D → D → M D
  | .int i, .int j => guard (mulOk i j) (M.pure (.int (i * j)))
  | .lst xs, .int k => guard (decide (-(2 ^ 63) ≤ k) && decide (k < 2 ^ 63) && szOk (xs.length * k.toNat)) (M.pure (.lst (List.replicate k.toNat xs).flatten))
  | _, _ => M.bad
def dMod : D → D → M D
  | .int i, .int j => guard (decide (0 < j)) (M.pure (.int (i % j)))
  | _, _ => M.bad
def dDiv : D → D → M D
  | .int i, .int j => guard (decide (0 < j) && decide (j < 1073741824)) (M.pure (.int (i / j)))
  | _, _ => M.bad
def dPow : D → D → M D
  | .int i, .int j => guard (decide (0 ≤ j) && decide (j ≤ 1000000) && decide (i.natAbs < 2 ^ 64)) (M.pure (.int (i ^ j.toNat)))
  | _, _ => M.bad
def dCmp (f : Int → Int → Bool) : D → D → M D
  | .int i, .int j => M.pure (.bl (f i j))
  | _, _ => M.bad
abbrev dLt := dCmp fun i j => decide (i < j)
abbrev dLe := dCmp fun i j => decide (i ≤ j)
abbrev dGt := dCmp fun i j => decide (j < i)
abbrev dGe := dCmp fun i j => decide (j ≤ i)
def dEq (d e : D) : M D := guard (d.plain && e.plain) (M.pure (.bl (d.eqv e)))
def dNe (d e : D) : M D := guard (d.plain && e.plain) (M.pure (.bl (!d.eqv e)))
def dIsN : D → M D
  | .non => M.pure (.bl true)
  | _ => M.pure (.bl false)
def dNotN : D → M D
  | .non => M.pure (.bl false)
  | _ => M.pure (.bl true)
def dNeg : D → M D
  | .int i => M.pure (.int (-i))
  | _ => M.bad
/-- the items of a list or a tuple -/
def asSeq : D → M (List D)
  | .lst ds => M.pure ds
  | .tup ds => M.pure ds
  | .ptr k => fun S => match S.cells[k]? with
    | some (.lst ds) => .ok ds S
    | _ => .bad
  | _ => M.bad
def ofOpt {α : Type} : Option α → M α
  | some a => M.pure a
  | none => M.bad
def dItem (d i : D) : M D := match d, i with
  | .str x, .int i => guard (szOk x.length) (ofOpt ((atI x.cps.toList i).map fun c => .str ⟨#[c]⟩))
  | d, .int i => (asSeq d).bind fun ds => ofOpt (atI ds i)
  | _, _ => M.bad
def dLen (d : D) : M D := match d with
  | .str x => guard (szOk x.length) (M.pure (.int x.length))
  | d => (asSeq d).bind fun ds => M.pure (.int ds.length)

/-! ### the ways to put computations together -/
def bin (f : D → D → M D) (a b : M D) : M D := a.bind fun x => b.bind fun y => f x y
def una (f : D → M D) (a : M D) : M D := a.bind f
def argsM : List (M D) → M (List D)
  | [] => M.pure []
  | m :: ms => m.bind fun d => (argsM ms).bind fun ds => M.pure (d :: ds)
def callM (f : List D → M D) (ms : List (M D)) : M D := (argsM ms).bind f
def tupM (ms : List (M D)) : M D := (argsM ms).bind fun ds => guard (szOk ds.length) (M.pure (.tup ds))
def lstM (ms : List (M D)) : M (List D) := (argsM ms).bind fun ds => if szOk ds.length = true then M.pure ds else M.bad
def frz (m : M (List D)) : M D := m.bind fun ds => M.pure (.lst ds)
def asB : D → M Bool
  | .bl b => M.pure b
  | _ => M.bad
def tst (m : M D) : M Bool := m.bind asB
def ofB (m : M Bool) : M D := m.bind fun b => M.pure (.bl b)
def andT (a b : M Bool) : M Bool := a.bind fun x => if x = true then b else M.pure false
def orT (a b : M Bool) : M Bool := a.bind fun x => if x = true then M.pure true else b
def notT (a : M Bool) : M Bool := a.bind fun x => M.pure (!x)
def ifM {α : Type} (t : M Bool) (a b : M α) : M α := t.bind fun x => if x = true then a else b
def ar0 (f : M D) : List D → M D
  | [] => f
  | _ => M.bad
def ar1 (f : D → M D) : List D → M D
  | [a] => f a
  | _ => M.bad
def ar2 (f : D → D → M D) : List D → M D
  | [a, b] => f a b
  | _ => M.bad
def ar3 (f : D → D → D → M D) : List D → M D
  | [a, b, c] => f a b c
  | _ => M.bad
def ar4 (f : D → D → D → D → M D) : List D → M D
  | [a, b, c, d] => f a b c d
  | _ => M.bad
def ar5 (f : D → D → D → D → D → M D) : List D → M D
  | [a, b, c, d, e] => f a b c d e
  | _ => M.bad
def ar6 (f : D → D → D → D → D → D → M D) : List D → M D
  | [a, b, c, d, e, g] => f a b c d e g
  | _ => M.bad
end Dl

namespace Dl
open PySem L2

/-! ### expressions -/
section
variable {K : PySem.W.Frag} {mg : Str → Option Value} {G : Gh} {H : Hp}
theorem Reps.length : ∀ {vs : List V} {ds : List D}, Reps K G H vs ds → vs.length = ds.length
  | _, _, .nil => rfl
  | _, _, .cons _ t => by rw [List.length_cons, List.length_cons, Reps.length t]
theorem Reps.append : ∀ {vs us : List V} {ds es : List D}, Reps K G H vs ds → Reps K G H us es → Reps K G H (vs ++ us) (ds ++ es)
  | _, _, _, _, .nil, h => h
  | _, _, _, _, .cons r t, h => .cons r (Reps.append t h)
theorem Reps.get : ∀ {vs : List V} {ds : List D} {i : Nat} {d : D}, Reps K G H vs ds → ds[i]? = some d → ∃ v, vs[i]? = some v ∧ Rep K G H v d
  | _, _, _, _, .nil, h => by simp at h
  | _, _, 0, _, .cons r _, h => by simp at h; subst h; exact ⟨_, rfl, r⟩
  | _, _, i + 1, _, .cons _ t, h => by
    obtain ⟨v, h1, h2⟩ := Reps.get (i := i) t (by simpa using h)
    exact ⟨v, by simpa using h1, h2⟩
theorem Reps.getV : ∀ {vs : List V} {ds : List D} {i : Nat} {v : V}, Reps K G H vs ds → vs[i]? = some v → ∃ d, ds[i]? = some d ∧ Rep K G H v d
  | _, _, _, _, .nil, h => by simp at h
  | _, _, 0, _, .cons r _, h => by simp at h; subst h; exact ⟨_, rfl, r⟩
  | _, _, i + 1, _, .cons _ t, h => by
    obtain ⟨v, h1, h2⟩ := Reps.getV (i := i) t (by simpa using h)
    exact ⟨v, by simpa using h1, h2⟩
theorem Reps.atI {vs : List V} {ds : List D} {i : Int} {d : D} (r : Reps K G H vs ds) (h : L2.atI ds i = some d) : ∃ v, L2.atI vs i = some v ∧ Rep K G H v d := by
  unfold L2.atI at h ⊢
  rw [r.length]
  cases e : ixN ds.length i with
  | none =>
    rw [e] at h
    cases h
  | some j =>
    rw [e] at h
    exact r.get (show ds[j]? = some d from h)
theorem Reps.take : ∀ {vs : List V} {ds : List D} (n : Nat), Reps K G H vs ds → Reps K G H (vs.take n) (ds.take n)
  | _, _, 0, _ => .nil
  | _, _, _ + 1, .nil => .nil
  | _, _, n + 1, .cons r t => .cons r (Reps.take n t)
theorem Reps.drop : ∀ {vs : List V} {ds : List D} (n : Nat), Reps K G H vs ds → Reps K G H (vs.drop n) (ds.drop n)
  | _, _, 0, r => r
  | _, _, _ + 1, .nil => .nil
  | _, _, n + 1, .cons _ t => Reps.drop n t
theorem Reps.set {v : V} {d : D} (r : Rep K G H v d) : ∀ {vs : List V} {ds : List D} (n : Nat), Reps K G H vs ds → Reps K G H (vs.set n v) (ds.set n d)
  | _, _, _, .nil => .nil
  | _, _, 0, .cons _ tl => .cons r tl
  | _, _, n + 1, .cons q t => .cons q (Reps.set r n t)
theorem Reps.rep {vs : List V} {ds : List D} (r : Reps K G H vs ds) : ∀ n : Nat, Reps K G H (List.replicate n vs).flatten (List.replicate n ds).flatten
  | 0 => .nil
  | n + 1 => by
    simp only [List.replicate_succ, List.flatten_cons]
    exact r.append (Reps.rep r n)
mutual
theorem Rep.dp : ∀ {v : V} {d : D}, Rep K G H v d → d.flat = true → Dp K H v d.toPy
  | _, _, .non, _ => .non
  | _, _, .bl b, _ => .bl b
  | _, _, .int i, _ => .int i
  | _, _, .str x, _ => .str x
  | _, _, .lst h _ _ t, f => .lst (SqL.of h) (Reps.dps t f)
  | _, _, .tup h _ t, f => .tup h (Reps.dps t f)
  | _, _, .ptr _, f => by cases f
  | _, _, .strm, f => by cases f
theorem Reps.dps : ∀ {v : List V} {d : List D}, Reps K G H v d → D.flats d = true → DpAll K H v (D.toPys d)
  | _, _, .nil, _ => .nil
  | _, _, .cons r t, f => by
    have f' := Bool.and_eq_true_iff.mp (show (_ && D.flats _) = true from f)
    exact .cons (Rep.dp r f'.1) (Reps.dps t f'.2)
end
variable {S : MS}
theorem rep_new {p : Addr} {xs : List V} {ds : List D} (w : Wf K mg G H S) (hp : H p = none) (z : xs.length ≤ sizeLine) (r : Reps K G H xs ds) : Rep K G (upd H p (.lst xs)) (.ref p) (.lst ds) :=
  .lst upd_same z (w.fresh hp) (r.mono (.alloc hp))
theorem rep_tup {p : Addr} {xs : List V} {ds : List D} (hp : H p = none) (z : xs.length ≤ sizeLine) (r : Reps K G H xs ds) : Rep K G (upd H p (.tup xs)) (.ref p) (.tup ds) :=
  .tup (SqT.of upd_same) z (r.mono (.alloc hp))
end

/-- a two-place operation on data and its reading on values -/
def OpD (K : PySem.W.Frag) (mg : Str → Option Value) (r : R2) (f : D → D → M D) : Prop :=
  ∀ (W : WX) (G0 : Gh) (H0 : Hp) (G : Gh) (H : Hp) (σ : L2.St) (ρ : List Slot) (S : MS) (x y : V) (d e : D) (Q : VK), SI K mg G0 H0 G H σ ρ S → Rep K G H x d → Rep K G H y e →
    okG K mg W (RD K) G0 H0 G H σ ρ Q (f d e S) → r x y H Q
def UnD (K : PySem.W.Frag) (mg : Str → Option Value) (r : V → Hp → VK → Prop) (f : D → M D) : Prop :=
  ∀ (W : WX) (G0 : Gh) (H0 : Hp) (G : Gh) (H : Hp) (σ : L2.St) (ρ : List Slot) (S : MS) (x : V) (d : D) (Q : VK), SI K mg G0 H0 G H σ ρ S → Rep K G H x d →
    okG K mg W (RD K) G0 H0 G H σ ρ Q (f d S) → r x H Q
def CallD (K : PySem.W.Frag) (mg : Str → Option Value) (r : List V → Hp → VK → Prop) (f : List D → M D) : Prop :=
  ∀ (W : WX) (G0 : Gh) (H0 : Hp) (G : Gh) (H : Hp) (σ : L2.St) (ρ : List Slot) (S : MS) (xs : List V) (ds : List D) (Q : VK), SI K mg G0 H0 G H σ ρ S → Reps K G H xs ds →
    okG K mg W (RD K) G0 H0 G H σ ρ Q (f ds S) → r xs H Q
theorem okG.guard {K : PySem.W.Frag} {mg : Str → Option Value} {W : WX} {G0 : Gh} {H0 : Hp} {G : Gh} {H : Hp} {σ : L2.St} {ρ : List Slot} {S : MS} {Q : VK} {b : Bool} {m : M D} (h : okG K mg W (RD K) G0 H0 G H σ ρ Q (guard b m S)) :
    b = true ∧ okG K mg W (RD K) G0 H0 G H σ ρ Q (m S) := by
  unfold Dl.guard at h
  cases b with
  | true => exact ⟨rfl, h⟩
  | false => exact False.elim h

section
variable {X : Cx} {W : WX} {ρ : List Slot} {a b c e : Expr} {es : List Expr} {ma mb mc m : M D} {ms : List (M D)} {pos : Pos}
theorem ed_var (i : Nat) {x : Str} {d : D} (hρ : ρ[i]? = some (.val d) := by rfl) (hN : X.N[i]? = some x := by rfl) (hv : Vis X.env.scope x := by first | exact Or.inl rfl | exact Or.inr (Or.inl rfl) | exact Or.inr (Or.inr rfl))
    (hd : (x == ("__debug__" : Str)) = false := by decide) (hcd : (x == ("__classdict__" : Str)) = false := by decide) : ED X W ρ (.Name x pos) (M.pure d) :=
  PE.imp (pv i hN hv hd hcd) fun σ H Q ⟨G0, H0, G, S, si, h⟩ => by
    obtain ⟨v, e, r⟩ := si.env i _ hρ
    exact ⟨v, e, okG.here h si r⟩
theorem ed_int {i : Int} {j : Nat} : ED X W ρ (.Constant (.int i) j pos) (M.pure (.int i)) := PE.imp pe_int fun σ H Q ⟨G0, H0, G, S, si, h⟩ => okG.here h si (.int i)
theorem ed_bl {i : Bool} {j : Nat} : ED X W ρ (.Constant (.bool i) j pos) (M.pure (.bl i)) := PE.imp pe_bl fun σ H Q ⟨G0, H0, G, S, si, h⟩ => okG.here h si (.bl i)
theorem ed_non {j : Nat} : ED X W ρ (.Constant .none j pos) (M.pure .non) := PE.imp pe_non fun σ H Q ⟨G0, H0, G, S, si, h⟩ => okG.here h si .non
theorem ed_str {x : Str} {j : Nat} : ED X W ρ (.Constant (.str x) j pos) (M.pure (.str x)) := PE.imp pe_str fun σ H Q ⟨G0, H0, G, S, si, h⟩ => okG.here h si (.str x)
/-- two operands, then anything -/
theorem two {K : PySem.W.Frag} {mg : Str → Option Value} {σ : L2.St} {H : Hp} {Q : VK} {f : D → D → M D} {r : R2} (hd : OpD K mg r f) (h : tG K mg W (RD K) ρ (bin f ma mb) σ H Q) :
    tG K mg W (RD K) ρ ma σ H fun x H1 => tG K mg W (RD K) ρ mb σ H1 fun y H2 => r x y H2 Q := by
  obtain ⟨G0, H0, G, S, si, h⟩ := h
  refine ⟨G0, H0, G, S, si, okG.bind h fun G1 H1 S1 x d s1 f1 r1 h1 => ⟨G0, H0, G1, S1, s1, okG.bind h1 fun G2 H2 S2 y d' s2 f2 r2 h2 => ?_⟩⟩
  exact hd W G0 H0 G2 H2 σ ρ S2 x y d d' Q s2 (r1.mono f2) r2 h2
theorem ed_bin {op : Operator} {r : R2} {f : D → D → M D} (ho : OpR X (binaryOp op) r) (hd : OpD X.K X.mg r f) (ha : ED X W ρ a ma) (hb : ED X W ρ b mb) : ED X W ρ (.BinOp a op b pos) (bin f ma mb) :=
  PE.imp (pe_op ho ha hb) fun σ H Q h => two hd h
theorem ed_cmp {op : CmpOp} {r : R2} {f : D → D → M D} (ho : OpR X (compareOp op) r) (hd : OpD X.K X.mg r f) (ha : ED X W ρ a ma) (hb : ED X W ρ b mb) (hm : behindInMarks op b = false := by first | exact nobehind _ (by decide) (by decide) | rfl) : ED X W ρ (.Compare a [op] [b] pos) (bin f ma mb) :=
  PE.imp (pe_cmpR ho ha hb hm) fun σ H Q h => two hd h
theorem ed_un {op : UnaryOp} {r : V → Hp → VK → Prop} {f : D → M D} (ho : UnR X (unaryOp op) r) (hd : UnD X.K X.mg r f) (ha : ED X W ρ a ma) : ED X W ρ (.UnaryOp op a pos) (una f ma) :=
  PE.imp (pe_un ho ha) fun σ H Q ⟨G0, H0, G, S, si, h⟩ => ⟨G0, H0, G, S, si, okG.bind h fun G1 H1 S1 x d s1 f1 r1 h1 => hd W G0 H0 G1 H1 σ ρ S1 x d Q s1 r1 h1⟩
theorem ea_nil : EA X W ρ [] (argsM []) := PA.imp pa_nil fun σ H Q ⟨G0, H0, G, S, si, h⟩ => okG.here h si .nil
theorem ea_cons (ha : ED X W ρ e m) (hr : EA X W ρ es (argsM ms)) (hs : starEach (e :: es) X.env = (false, eval e X.env) :: starEach es X.env := by rfl) : EA X W ρ (e :: es) (argsM (m :: ms)) :=
  PA.imp (pa_cons ha hr hs) fun σ H Q ⟨G0, H0, G, S, si, h⟩ => ⟨G0, H0, G, S, si, okG.bind h fun G1 H1 S1 x d s1 f1 r1 h1 => ⟨G0, H0, G1, S1, s1, okG.bind h1 fun G2 H2 S2 xs ds s2 f2 r2 h2 => okG.here h2 s2 (.cons (r1.mono f2) r2)⟩⟩
theorem ed_tup {k : Nat} (h : EA X W ρ es (argsM ms)) : ED X W ρ (.Tuple es k pos) (tupM ms) :=
  PE.imp (pe_tup h) fun σ H Q ⟨G0, H0, G, S, si, h⟩ => ⟨G0, H0, G, S, si, okG.bind h fun G1 H1 S1 xs ds s1 f1 r1 h1 => by
    obtain ⟨z, h1⟩ := okG.guard h1
    have z' : xs.length ≤ sizeLine := by rw [r1.length]; exact sz_of z
    exact ⟨z', fun p hp => okG.new h1 s1 hp (rep_tup hp z' r1)⟩⟩
/-- a new list -/
theorem en_lst (h : EA X W ρ es (argsM ms)) : EN X W ρ (.List es pos) (lstM ms) :=
  PE.imp (pe_lst h) fun σ H Q ⟨G0, H0, G, S, si, h⟩ => ⟨G0, H0, G, S, si, okN.bind h fun G1 H1 S1 xs ds s1 f1 r1 h1 => by
    have r1 : Reps X.K G1 H1 xs ds := r1
    by_cases z : szOk ds.length = true
    · rw [if_pos z] at h1
      have z' := sz_of z
      rw [← r1.length] at z'
      exact ⟨z', fun p hp => okN.new h1 s1 hp z' r1⟩
    · rw [if_neg z] at h1
      exact False.elim h1⟩
theorem ed_new {m : M (List D)} (h : EN X W ρ e m) : ED X W ρ e (frz m) :=
  PE.imp h fun σ H Q ⟨G0, H0, G, S, si, h⟩ => ⟨G0, H0, G, S, si, by
    unfold frz M.bind at h
    cases q : m S with
    | ok ds S1 =>
      rw [q] at h
      refine fun l xs G' H' s f n e z ho hc t => h (.ref l) (G'.let l) H' (s.let (si.fr.free n) (si.owns n)) (f.let fun b hb q => ?_) (.lst e z (fun q => ?_) t.let)
      · obtain ⟨u, w⟩ := si.wf.live b (.inr hb)
        rw [q, n] at w; cases w
      · rcases q with q | q
        · exact hc q
        · exact q.1 rfl
    | err _ _ => rw [q] at h; exact h
    | bad => rw [q] at h; exact h⟩

/-! tests -/
theorem et_val {tm : M D} (h : ED X W ρ e tm) (he : ∀ whole, isTrue e X.env whole = (do let v ← whole; standAt e.pos; holding [v] (truthy v)) := by intro _; rfl) : ET X W ρ e (tst tm) :=
  PT.imp (pt_val h he) fun σ H Q ⟨G0, H0, G, S, si, h⟩ => ⟨G0, H0, G, S, si, okG.bind h fun G1 H1 S1 x d s1 f1 r1 h1 => by
    cases r1 with
    | bl b => exact ⟨b, rfl, okG.here h1 s1 rfl⟩
    | _ => exact False.elim h1⟩
theorem et_cmp {op : CmpOp} {r : R2} {f : D → D → M D} (ho : OpR X (compareOp op) r) (hd : OpD X.K X.mg r f) (ha : ED X W ρ a ma) (hb : ED X W ρ b mb) (hm : behindInMarks op b = false := by first | exact nobehind _ (by decide) (by decide) | rfl) : ET X W ρ (.Compare a [op] [b] pos) (tst (bin f ma mb)) :=
  PT.imp (pt_cmpR ho ha hb hm) fun σ H Q ⟨G0, H0, G, S, si, h⟩ => by
    refine two (r := fun x y H Q => r x y H Q) hd ⟨G0, H0, G, S, si, okG.bind h fun G1 H1 S1 x d s1 f1 r1 h1 => ?_⟩
    cases r1 with
    | bl b => exact ⟨b, rfl, okG.here h1 s1 rfl⟩
    | _ => exact False.elim h1
variable {ta tb tc : M Bool} {rest : List Expr}
theorem ew_and1 (ha : ET X W ρ a ta) : PW X (.BoolOp .And [a] pos) (tG X.K X.mg W RB ρ ta) := pw_and1 ha
theorem ew_or1 (ha : ET X W ρ a ta) : PW X (.BoolOp .Or [a] pos) (tG X.K X.mg W RB ρ ta) := pw_or1 ha
theorem ew_and (ha : ET X W ρ a ta) (hb : PW X (.BoolOp .And (b :: rest) pos) (tG X.K X.mg W RB ρ tb)) : PW X (.BoolOp .And (a :: b :: rest) pos) (tG X.K X.mg W RB ρ (andT ta tb)) :=
  PW.imp (pw_and ha hb) fun σ H Q ⟨G0, H0, G, S, si, h⟩ => ⟨G0, H0, G, S, si, okG.bind h fun G1 H1 S1 x d s1 f1 r1 h1 => by
    cases r1
    cases x with
    | true => exact ⟨G0, H0, G1, S1, s1, h1⟩
    | false => exact okG.here h1 s1 rfl⟩
theorem ew_or (ha : ET X W ρ a ta) (hb : PW X (.BoolOp .Or (b :: rest) pos) (tG X.K X.mg W RB ρ tb)) : PW X (.BoolOp .Or (a :: b :: rest) pos) (tG X.K X.mg W RB ρ (orT ta tb)) :=
  PW.imp (pw_or ha hb) fun σ H Q ⟨G0, H0, G, S, si, h⟩ => ⟨G0, H0, G, S, si, okG.bind h fun G1 H1 S1 x d s1 f1 r1 h1 => by
    cases r1
    cases x with
    | true => exact okG.here h1 s1 rfl
    | false => exact ⟨G0, H0, G1, S1, s1, h1⟩⟩
theorem et_w (h : PW X e (tG X.K X.mg W RB ρ ta)) : ET X W ρ e ta := h.pt
theorem et_not (ha : ET X W ρ a ta) : ET X W ρ (.UnaryOp .Not a pos) (notT ta) :=
  PT.imp (pt_not ha) fun σ H Q ⟨G0, H0, G, S, si, h⟩ => ⟨G0, H0, G, S, si, okG.bind h fun G1 H1 S1 x d s1 f1 r1 h1 => by
    cases r1
    exact okG.here h1 s1 rfl⟩
theorem ed_if (hc : ET X W ρ c tc) (ha : ED X W ρ a ma) (hb : ED X W ρ b mb) : ED X W ρ (.IfExp c a b pos) (ifM tc ma mb) :=
  PE.imp (pe_ifExp hc ha hb) fun σ H Q ⟨G0, H0, G, S, si, h⟩ => ⟨G0, H0, G, S, si, okG.bind h fun G1 H1 S1 x d s1 f1 r1 h1 => by
    cases r1
    cases x with
    | true => exact ⟨G0, H0, G1, S1, s1, h1⟩
    | false => exact ⟨G0, H0, G1, S1, s1, h1⟩⟩
/-- and, or, not as values of truths -/
theorem ed_one {op : BoolOp} (h : ED X W ρ a ma) : ED X W ρ (.BoolOp op [a] pos) ma := pe_one h
def andV (a b : M D) : M D := a.bind fun x => (asB x).bind fun c => if c = true then b else M.pure (.bl false)
def orV (a b : M D) : M D := a.bind fun x => (asB x).bind fun c => if c = true then M.pure (.bl true) else b
def notV (a : M D) : M D := a.bind fun x => (asB x).bind fun c => M.pure (.bl (!c))
theorem ed_and (ha : ED X W ρ a ma) (hb : ED X W ρ (.BoolOp .And (b :: rest) pos) mb) : ED X W ρ (.BoolOp .And (a :: b :: rest) pos) (andV ma mb) :=
  PE.imp (pe_and ha hb) fun σ H Q ⟨G0, H0, G, S, si, h⟩ => ⟨G0, H0, G, S, si, okG.bind h fun G1 H1 S1 x d s1 f1 r1 h1 => by
    cases r1 with
    | bl b =>
      refine ⟨b, rfl, ?_⟩
      cases b with
      | true => exact ⟨G0, H0, G1, S1, s1, h1⟩
      | false => exact okG.here h1 s1 (.bl false)
    | _ => exact False.elim h1⟩
theorem ed_or (ha : ED X W ρ a ma) (hb : ED X W ρ (.BoolOp .Or (b :: rest) pos) mb) : ED X W ρ (.BoolOp .Or (a :: b :: rest) pos) (orV ma mb) :=
  PE.imp (pe_or ha hb) fun σ H Q ⟨G0, H0, G, S, si, h⟩ => ⟨G0, H0, G, S, si, okG.bind h fun G1 H1 S1 x d s1 f1 r1 h1 => by
    cases r1 with
    | bl b =>
      refine ⟨b, rfl, ?_⟩
      cases b with
      | true => exact okG.here h1 s1 (.bl true)
      | false => exact ⟨G0, H0, G1, S1, s1, h1⟩
    | _ => exact False.elim h1⟩
theorem ed_not (ha : ED X W ρ a ma) : ED X W ρ (.UnaryOp .Not a pos) (notV ma) :=
  PE.imp (pe_not ha) fun σ H Q ⟨G0, H0, G, S, si, h⟩ => ⟨G0, H0, G, S, si, okG.bind h fun G1 H1 S1 x d s1 f1 r1 h1 => by
    cases r1 with
    | bl b => exact ⟨b, rfl, okG.here h1 s1 (.bl (!b))⟩
    | _ => exact False.elim h1⟩
/-- a builtin's call -/
theorem ed_callB {x : Str} {id : String} {r : List V → Hp → VK → Prop} {f : List D → M D} {p : Pos} (hc : CallR X (.builtin id) r) (hd : CallD X.K X.mg r f) (hm : X.mg x = none) (hv : bootBuiltins x = some (.builtin id)) (ha : EA X W ρ (e :: es) (argsM ms)) (hg : Gl X x := by rfl) (hn : x ≠ "__name__" := by decide) (hdb : (x == ("__debug__" : Str)) = false := by decide)
    (he : starEach (e :: es) X.env = (false, eval e X.env) :: starEach es X.env := by rfl) (hpl : (backTo pos (starEach es X.env)).any (·.1) = false := by rfl) : ED X W ρ (.Call (.Name x p) (e :: es) [] pos) (callM f ms) :=
  PE.imp (pe_callB hc hg hm hv ha hn hdb he hpl) fun σ H Q ⟨G0, H0, G, S, si, h⟩ => ⟨G0, H0, G, S, si, okG.bind h fun G1 H1 S1 xs ds s1 f1 r1 h1 => hd W G0 H0 G1 H1 σ ρ S1 xs ds Q s1 r1 h1⟩
theorem ed_callTy {x : Str} {T : String} {r : List V → Hp → VK → Prop} {f : List D → M D} {p : Pos} (hc : CallR X (.type T) r) (hd : CallD X.K X.mg r f) (hm : X.mg x = none) (hv : bootBuiltins x = some (.type T)) (ha : EA X W ρ (e :: es) (argsM ms)) (hg : Gl X x := by rfl) (hn : x ≠ "__name__" := by decide) (hdb : (x == ("__debug__" : Str)) = false := by decide)
    (he : starEach (e :: es) X.env = (false, eval e X.env) :: starEach es X.env := by rfl) (hpl : (backTo pos (starEach es X.env)).any (·.1) = false := by rfl) : ED X W ρ (.Call (.Name x p) (e :: es) [] pos) (callM f ms) :=
  PE.imp (pe_callTy hc hg hm hv ha hn hdb he hpl) fun σ H Q ⟨G0, H0, G, S, si, h⟩ => ⟨G0, H0, G, S, si, okG.bind h fun G1 H1 S1 xs ds s1 f1 r1 h1 => hd W G0 H0 G1 H1 σ ρ S1 xs ds Q s1 r1 h1⟩
end

/-! ### own defs -/
section
variable (K : PySem.W.Frag) (mg : Str → Option Value)
def okF (G : Gh) (H : Hp) (Q : VK) (E : XK) : Res D → Prop
  | .ok d S => ∀ v G' H', FR G H G' H' → Wf K mg G' H' S → Rep K G' H' v d → Q v H'
  | .err e S => ∀ cls da G' H', FR G H G' H' → Wf K mg G' H' S → ErrRep K mg G' H' e cls da → E cls da H'
  | .bad => False
def spD (n : Nat) (f : List D → M D) : Sp := fun vs H Q E => ∃ G S ds, ds.length = n ∧ Reps K G H vs ds ∧ Wf K mg G H S ∧ okF K mg G H Q E (f ds S)
end
theorem spD_len {K : PySem.W.Frag} {mg : Str → Option Value} {n : Nat} {f : List D → M D} {vs : List V} {H : Hp} {Q : VK} {E : XK} (h : spD K mg n f vs H Q E) : vs.length = n := by
  obtain ⟨G, S, ds, e, r, _⟩ := h
  rw [r.length, e]
section
variable {X : Cx} {W : WX} {ρ : List Slot} {e o : Expr} {es : List Expr} {ms : List (M D)} {pos p apos : Pos} {x : Str} {k n : Nat} {f : Addr} {fd : FuncData} {ps : List Str} {g : List D → M D}
theorem okF_of {K : PySem.W.Frag} {mg : Str → Option Value} {G0 G : Gh} {H0 H : Hp} {σ : L2.St} {S : MS} {Q : VK} {r : Res D} (h : okG K mg W (RD K) G0 H0 G H σ ρ Q r) (si : SI K mg G0 H0 G H σ ρ S) : okF K mg G H Q (WE W σ) r := by
  cases r with
  | ok d S' => exact fun v G' H' fr wf r => h v G' H' (si.mono fr wf) fr r
  | err e S' => exact fun cls da G' H' fr wf r => h cls da G' H' (si.mono fr wf) fr r
  | bad => exact h
theorem ed_call (F : FnOk X.prog X.w X.K X.mg X.base (L2.CX X.prog X.w) k f fd ps (spD X.K X.mg n g)) (tk : Takes X W) (hr : Room k X.A) (hm : X.mg x = some (.ref f)) (hk : PySem.W.keepIn X.K (.ref f) = true) (hb : Binds X.K fd ps []) (ha : EA X W ρ (e :: es) (argsM ms)) (hn : (e :: es).length = n := by rfl) (hg : Gl X x := by rfl)
    (hdb : (x == ("__debug__" : Str)) = false := by decide) (he : starEach (e :: es) X.env = (false, eval e X.env) :: starEach es X.env := by rfl) (hpl : (backTo pos (starEach es X.env)).any (·.1) = false := by rfl) (hl : ms.length = n := by rfl) :
    ED X W ρ (.Call (.Name x p) (e :: es) [] pos) (callM g ms) :=
  PE.imp (pe_callS F hr hg hm hk hb (fun σ => passAt tk σ) ha hdb he hpl) fun σ H Q ⟨G0, H0, G, S, si, h⟩ => ⟨G0, H0, G, S, si, by
    have al : ∀ (ms : List (M D)) (S S1 : MS) (ds : List D), argsM ms S = .ok ds S1 → ds.length = ms.length := by
      intro ms
      induction ms with
      | nil => intro S S1 ds e; cases e; rfl
      | cons m ms ih =>
        intro S S1 ds e
        unfold argsM M.bind at e
        cases e1 : m S with
        | ok d S2 =>
          rw [e1] at e
          simp only at e
          cases e2 : argsM ms S2 with
          | ok ds' S3 =>
            rw [e2] at e
            cases e
            rw [List.length_cons, List.length_cons, ih _ _ _ e2]
          | err _ _ => rw [e2] at e; cases e
          | bad => rw [e2] at e; cases e
        | err _ _ => rw [e1] at e; cases e
        | bad => rw [e1] at e; cases e
    have h' := h
    unfold callM M.bind at h'
    cases e1 : argsM ms S with
    | ok ds S1 =>
      rw [e1] at h'
      have hd := al ms S S1 ds e1
      exact fun vs G1 H1 s1 f1 r1 => ⟨G1, S1, ds, by rw [hd, hl], r1, s1.wf, okF_of (okG.from h' f1) s1⟩
    | err _ _ => rw [e1] at h'; exact h'
    | bad => rw [e1] at h'; exact h'⟩
end
end Dl

namespace Dl
open PySem L2

section
variable {K : PySem.W.Frag} {mg : Str → Option Value}
theorem opd_ii {f : D → D → M D} {C : Int → Int → Prop} {g : Int → Int → Int} (hf : ∀ d e S, (∃ i j, d = .int i ∧ e = .int j ∧ (f d e S = .bad ∨ (C i j ∧ f d e S = .ok (.int (g i j)) S))) ∨ f d e S = .bad) : OpD K mg (rI C fun i j => .int (g i j)) f := by
  intro W G0 H0 G H σ ρ S x y d e Q si r1 r2 h
  rcases hf d e S with ⟨i, j, rfl, rfl, hb | ⟨hc, hb⟩⟩ | hb
  · rw [hb] at h; exact h.elim
  · rw [hb] at h
    cases r1; cases r2
    exact ⟨i, j, rfl, rfl, hc, okG.here h si (.int _)⟩
  · rw [hb] at h; exact h.elim
theorem opd_sub : OpD K mg (rI0 fun i j => .int (i - j)) dSub := by
  intro W G0 H0 G H σ ρ S x y d e Q si r1 r2 h
  cases r1 <;> cases r2 <;> first | exact h.elim | exact ⟨_, _, rfl, rfl, okG.here h si (.int _)⟩
theorem opd_cmp {f : Int → Int → Bool} : OpD K mg (rI0 fun i j => .bl (f i j)) (dCmp f) := by
  intro W G0 H0 G H σ ρ S x y d e Q si r1 r2 h
  cases r1 <;> cases r2 <;> first | exact h.elim | exact ⟨_, _, rfl, rfl, okG.here h si (.bl _)⟩
/-- + -/
def rAddD (K : PySem.W.Frag) : R2 := fun x y H Q => (rI0 (fun i j => .int (i + j)) x y H Q ∨ (∃ i j, x = .str i ∧ y = .str j ∧ i.length + j.length ≤ sizeLine ∧ Q (.str (i ++ j)) H)) ∨ (rCat x y H Q ∨ rCatT K x y H Q)
theorem opr_add {X : Cx} : OpR X (binaryOp .Add) (rAddD X.K) := OpR.or (OpR.or op_add op_add_str) (OpR.or op_cat op_catT)
theorem opd_add : OpD K mg (rAddD K) dAdd := by
  intro W G0 H0 G H σ ρ S x y d e Q si r1 r2 h
  cases r1 with
  | int i =>
    cases r2 <;> first | exact h.elim | exact .inl (.inl ⟨_, _, rfl, rfl, okG.here h si (.int _)⟩)
  | str i =>
    cases r2 <;> first | exact h.elim | (obtain ⟨z, h⟩ := okG.guard h; exact .inl (.inr ⟨_, _, rfl, rfl, sz_of z, okG.here h si (.str _)⟩))
  | lst h1 z1 n1 t1 =>
    cases r2 <;> first | exact h.elim | skip
    rename_i h2 z2 n2 t2
    obtain ⟨z, h⟩ := okG.guard h
    have z' := sz_of z
    rw [← t1.length, ← t2.length] at z'
    exact .inr (.inl ⟨_, _, _, _, rfl, rfl, h1, h2, z', fun p hp => okG.new h si hp (rep_new si.wf hp (by rw [List.length_append]; exact z') (t1.append t2))⟩)
  | tup h1 z1 t1 =>
    cases r2 <;> first | (cases t1 <;> exact h.elim) | skip
    rename_i h2 z2 t2
    cases t1 with
    | nil => exact h.elim
    | cons r t1 =>
      obtain ⟨z, h⟩ := okG.guard h
      have tt := Reps.cons r t1
      have z' := sz_of z
      rw [← tt.length, ← t2.length] at z'
      refine .inr (.inr ⟨_, _, _, _, rfl, rfl, h1, h2, by simp, z', fun en => ?_, fun en p hp => ?_⟩)
      · subst en
        cases t2
        rw [List.append_nil] at h
        exact okG.here h si (.tup h1 z1 tt)
      · exact okG.new h si hp (rep_tup hp (by rw [List.length_append]; exact z') (tt.append t2))
  | _ => exact h.elim
/-- * -/
def rMulD : R2 := fun x y H Q => rI CMul (fun i j => .int (i * j)) x y H Q ∨ rRep x y H Q
theorem opr_mul {X : Cx} : OpR X (binaryOp .Mult) rMulD := OpR.or op_mul op_rep
theorem opd_mul : OpD K mg rMulD dMul := by
  intro W G0 H0 G H σ ρ S x y d e Q si r1 r2 h
  cases r1 with
  | int i =>
    cases r2 <;> first | exact h.elim | (obtain ⟨z, h⟩ := okG.guard h; exact .inl ⟨_, _, rfl, rfl, mul_of z, okG.here h si (.int _)⟩)
  | lst h1 z1 n1 t1 =>
    cases r2 <;> first | exact h.elim | skip
    obtain ⟨z, h⟩ := okG.guard h
    simp only [Bool.and_eq_true, decide_eq_true_eq] at z
    obtain ⟨⟨k1, k2⟩, z⟩ := z
    have z' := sz_of z
    rw [← t1.length] at z'
    exact .inr ⟨_, _, _, rfl, rfl, h1, k1, k2, z', fun p hp => okG.new h si hp (rep_new si.wf hp (by simp only [List.length_flatten, List.map_replicate, List.sum_replicate_nat]; rw [Nat.mul_comm]; exact z') (t1.rep _))⟩
  | _ => exact h.elim
theorem opd_mod : OpD K mg (rI (fun _ j => 0 < j) fun i j => .int (i % j)) dMod := by
  intro W G0 H0 G H σ ρ S x y d e Q si r1 r2 h
  cases r1 <;> cases r2 <;> first | exact h.elim | (obtain ⟨z, h⟩ := okG.guard h; exact ⟨_, _, rfl, rfl, of_decide_eq_true z, okG.here h si (.int _)⟩)
theorem opd_div : OpD K mg (rI CDiv fun i j => .int (i / j)) dDiv := by
  intro W G0 H0 G H σ ρ S x y d e Q si r1 r2 h
  cases r1 <;> cases r2 <;> first | exact h.elim | (obtain ⟨z, h⟩ := okG.guard h; simp only [Bool.and_eq_true, decide_eq_true_eq] at z; exact ⟨_, _, rfl, rfl, z, okG.here h si (.int _)⟩)
theorem opd_pow : OpD K mg (rI CPow fun i j => .int (i ^ j.toNat)) dPow := by
  intro W G0 H0 G H σ ρ S x y d e Q si r1 r2 h
  cases r1 <;> cases r2 <;> first | exact h.elim | (obtain ⟨z, h⟩ := okG.guard h; simp only [Bool.and_eq_true, decide_eq_true_eq] at z; exact ⟨_, _, rfl, rfl, ⟨z.1.1, z.1.2, z.2⟩, okG.here h si (.int _)⟩)
theorem plain_of {d : D} (h : d.plain = true) : d.flat = true ∧ SeqAt.shaped d.toPy = true := Bool.and_eq_true_iff.mp h
theorem opd_eq : OpD K mg (rEqD K) dEq := by
  intro W G0 H0 G H σ ρ S x y d e Q si r1 r2 h
  obtain ⟨z, h⟩ := okG.guard h
  obtain ⟨z1, z2⟩ := Bool.and_eq_true_iff.mp z
  obtain ⟨f1, s1⟩ := plain_of z1
  obtain ⟨f2, s2⟩ := plain_of z2
  exact ⟨_, _, r1.dp f1, r2.dp f2, s1, s2, okG.here h si (.bl _)⟩
theorem opd_ne : OpD K mg (rNeD K) dNe := by
  intro W G0 H0 G H σ ρ S x y d e Q si r1 r2 h
  obtain ⟨z, h⟩ := okG.guard h
  obtain ⟨z1, z2⟩ := Bool.and_eq_true_iff.mp z
  obtain ⟨f1, s1⟩ := plain_of z1
  obtain ⟨f2, s2⟩ := plain_of z2
  exact ⟨_, _, r1.dp f1, r2.dp f2, s1, s2, okG.here h si (.bl _)⟩
theorem und_neg : UnD K mg (rU fun i => .int (-i)) dNeg := by
  intro W G0 H0 G H σ ρ S x d Q si r1 h
  cases r1 <;> first | exact h.elim | exact ⟨_, rfl, okG.here h si (.int _)⟩
theorem rep_non {G : Gh} {H : Hp} {x : V} {d : D} (r : Rep K G H x d) : dIsN d = M.pure (.bl (decide (x = .non))) ∧ dNotN d = M.pure (.bl (!decide (x = .non))) := by
  cases r <;> exact ⟨rfl, rfl⟩
end

section
variable {X : Cx} {W : WX} {ρ : List Slot} {a b c e : Expr} {es : List Expr} {ma mb mc m : M D} {ms : List (M D)} {pos : Pos}
theorem ed_add (ha : ED X W ρ a ma) (hb : ED X W ρ b mb) : ED X W ρ (.BinOp a .Add b pos) (bin dAdd ma mb) := ed_bin opr_add opd_add ha hb
theorem ed_sub (ha : ED X W ρ a ma) (hb : ED X W ρ b mb) : ED X W ρ (.BinOp a .Sub b pos) (bin dSub ma mb) := ed_bin op_sub opd_sub ha hb
theorem ed_mul (ha : ED X W ρ a ma) (hb : ED X W ρ b mb) : ED X W ρ (.BinOp a .Mult b pos) (bin dMul ma mb) := ed_bin opr_mul opd_mul ha hb
theorem ed_mod (ha : ED X W ρ a ma) (hb : ED X W ρ b mb) : ED X W ρ (.BinOp a .Mod b pos) (bin dMod ma mb) := ed_bin op_mod opd_mod ha hb
theorem ed_div (ha : ED X W ρ a ma) (hb : ED X W ρ b mb) : ED X W ρ (.BinOp a .FloorDiv b pos) (bin dDiv ma mb) := ed_bin op_fdiv opd_div ha hb
theorem ed_pow (ha : ED X W ρ a ma) (hb : ED X W ρ b mb) : ED X W ρ (.BinOp a .Pow b pos) (bin dPow ma mb) := ed_bin op_pow opd_pow ha hb
theorem ed_neg (ha : ED X W ρ a ma) : ED X W ρ (.UnaryOp .USub a pos) (una dNeg ma) := ed_un un_neg und_neg ha
theorem ed_lt (ha : ED X W ρ a ma) (hb : ED X W ρ b mb) : ED X W ρ (.Compare a [.Lt] [b] pos) (bin dLt ma mb) := ed_cmp op_lt opd_cmp ha hb
theorem ed_le (ha : ED X W ρ a ma) (hb : ED X W ρ b mb) : ED X W ρ (.Compare a [.LtE] [b] pos) (bin dLe ma mb) := ed_cmp op_le opd_cmp ha hb
theorem ed_gt (ha : ED X W ρ a ma) (hb : ED X W ρ b mb) : ED X W ρ (.Compare a [.Gt] [b] pos) (bin dGt ma mb) := ed_cmp op_gt opd_cmp ha hb
theorem ed_ge (ha : ED X W ρ a ma) (hb : ED X W ρ b mb) : ED X W ρ (.Compare a [.GtE] [b] pos) (bin dGe ma mb) := ed_cmp op_ge opd_cmp ha hb
theorem ed_eq {k : Nat} (hr : Room k X.A) (ha : ED X W ρ a ma) (hb : ED X W ρ b mb) : ED X W ρ (.Compare a [.Eq] [b] pos) (bin dEq ma mb) := ed_cmp (op_eqD hr.units) opd_eq ha hb
theorem ed_ne {k : Nat} (hr : Room k X.A) (ha : ED X W ρ a ma) (hb : ED X W ρ b mb) : ED X W ρ (.Compare a [.NotEq] [b] pos) (bin dNe ma mb) := ed_cmp (op_neD hr.units) opd_ne ha hb
theorem ed_isN {j : Nat} {pos' : Pos} (ha : ED X W ρ a ma) : ED X W ρ (.Compare a [.Is] [.Constant .none j pos'] pos) (una dIsN ma) :=
  PE.imp (pe_cmp (pc_isN ha)) fun σ H Q ⟨G0, H0, G, S, si, h⟩ => ⟨G0, H0, G, S, si, okG.bind h fun G1 H1 S1 x d s1 f1 r1 h1 => by
    rw [(rep_non r1).1] at h1
    exact okG.here h1 s1 (.bl _)⟩
theorem ed_notN {j : Nat} {pos' : Pos} (ha : ED X W ρ a ma) : ED X W ρ (.Compare a [.IsNot] [.Constant .none j pos'] pos) (una dNotN ma) :=
  PE.imp (pe_cmp (pc_notN ha)) fun σ H Q ⟨G0, H0, G, S, si, h⟩ => ⟨G0, H0, G, S, si, okG.bind h fun G1 H1 S1 x d s1 f1 r1 h1 => by
    rw [(rep_non r1).2] at h1
    exact okG.here h1 s1 (.bl _)⟩
theorem ed_bad : ED X W ρ e M.bad := ⟨fun _ _ _ _ _ _ h => by
  obtain ⟨_, _, _, _, _, h⟩ := h
  exact h.elim⟩
theorem et_bad : ET X W ρ e M.bad := ⟨fun _ _ _ _ _ _ h => by
  obtain ⟨_, _, _, _, _, h⟩ := h
  exact h.elim⟩
theorem asSeq_ok {K : PySem.W.Frag} {mg : Str → Option Value} {W : WX} {G0 : Gh} {H0 : Hp} {G : Gh} {H : Hp} {σ : L2.St} {ρ : List Slot} {S : MS} {α β : Type} {R : Gh → Hp → β → α → Prop} {Q : β → Hp → Prop} {f : List D → M α} {v : V} {d : D} (si : SI K mg G0 H0 G H σ ρ S) (r : Rep K G H v d)
    (h : okG K mg W R G0 H0 G H σ ρ Q ((asSeq d).bind f S)) : ∃ a xs ds, v = .ref a ∧ (SqL K H a xs ∨ SqT K H a xs) ∧ xs.length ≤ sizeLine ∧ Reps K G H xs ds ∧ okG K mg W R G0 H0 G H σ ρ Q (f ds S) := by
  cases r with
  | lst h1 z n t => exact ⟨_, _, _, rfl, .inl (SqL.of h1), z, t, h⟩
  | tup h1 z t => exact ⟨_, _, _, rfl, .inr h1, z, t, h⟩
  | ptr e =>
    rename_i a k
    unfold asSeq M.bind at h
    cases q : S.cells[k]? with
    | none => simp only [q] at h; exact h.elim
    | some c =>
      have cr := si.wf.cell k c a q e
      cases c with
      | lst ds =>
        simp only [q] at h
        obtain ⟨xs, hx, z, t⟩ := cr
        exact ⟨_, xs, ds, rfl, .inl (SqL.of hx), z, t, h⟩
      | dic _ => simp only [q] at h; exact h.elim
      | ins _ _ => simp only [q] at h; exact h.elim
  | _ => exact h.elim
/-- the items of a list -/
def asLst : D → M (List D)
  | .lst ds => M.pure ds
  | .ptr k => fun S => match S.cells[k]? with
    | some (.lst ds) => .ok ds S
    | _ => .bad
  | _ => M.bad
theorem asLst_ok {K : PySem.W.Frag} {mg : Str → Option Value} {W : WX} {G0 : Gh} {H0 : Hp} {G : Gh} {H : Hp} {σ : L2.St} {ρ : List Slot} {S : MS} {α β : Type} {R : Gh → Hp → β → α → Prop} {Q : β → Hp → Prop} {f : List D → M α} {v : V} {d : D} (si : SI K mg G0 H0 G H σ ρ S) (r : Rep K G H v d)
    (h : okG K mg W R G0 H0 G H σ ρ Q ((asLst d).bind f S)) : ∃ a xs ds, v = .ref a ∧ H a = some (.lst xs) ∧ xs.length ≤ sizeLine ∧ Reps K G H xs ds ∧ okG K mg W R G0 H0 G H σ ρ Q (f ds S) := by
  cases r with
  | lst h1 z n t => exact ⟨_, _, _, rfl, h1, z, t, h⟩
  | ptr e =>
    rename_i a k
    unfold asLst M.bind at h
    cases q : S.cells[k]? with
    | none => simp only [q] at h; exact h.elim
    | some c =>
      have cr := si.wf.cell k c a q e
      cases c with
      | lst ds =>
        simp only [q] at h
        obtain ⟨xs, hx, z, t⟩ := cr
        exact ⟨_, xs, ds, rfl, hx, z, t, h⟩
      | dic _ => simp only [q] at h; exact h.elim
      | ins _ _ => simp only [q] at h; exact h.elim
  | _ => exact h.elim
theorem opd_item {K : PySem.W.Frag} {mg : Str → Option Value} : OpD K mg (rIx K) dItem := by
  intro W G0 H0 G H σ ρ S x y d e Q si r1 r2 h
  have other : ∀ {i : Int}, y = .int i → okG K mg W (RD K) G0 H0 G H σ ρ Q ((asSeq d).bind (fun ds => ofOpt (atI ds i)) S) → rIx K x y H Q := fun {i} ey h => by
    obtain ⟨a, xs, ds, rfl, hs, zz, t, h⟩ := asSeq_ok si r1 h
    cases q : atI ds i with
    | none => rw [q] at h; exact h.elim
    | some d' =>
      rw [q] at h
      obtain ⟨v, hv, rv⟩ := t.atI q
      have fin := okG.here h si rv
      rcases hs with hs | hs
      · exact .inl ⟨a, xs, i, v, rfl, ey, hs, hv, fin⟩
      · exact .inr (.inl ⟨a, xs, i, v, rfl, ey, hs, hv, fin⟩)
  cases r2 with
  | int i =>
    cases r1 with
    | str z =>
      obtain ⟨g, h⟩ := okG.guard h
      cases q : atI z.cps.toList i with
      | none => rw [q] at h; exact h.elim
      | some c =>
        rw [q] at h
        exact .inr (.inr ⟨z, i, c, rfl, rfl, sz_of g, q, okG.here h si (.str _)⟩)
    | _ => exact other rfl h
  | _ =>
    cases r1 <;> exact h.elim
theorem ed_item {kpos : Pos} (ha : ED X W ρ a ma) (hb : ED X W ρ b mb) (hs : PlainIx b := by exact fun _ _ => rfl) : ED X W ρ (.Subscript a b pos) (bin dItem ma mb) :=
  PE.imp (pe_ix ix_seq ha hb hs) fun σ H Q h => two opd_item h
/-- len -/
def f1 (f : D → M D) : List D → M D := ar1 f
theorem calld_len {K : PySem.W.Frag} {mg : Str → Option Value} : CallD K mg (fun xs H Q => ∃ x n, xs = [x] ∧ LenV K x H n ∧ Q (.int n) H) (ar1 dLen) := by
  intro W G0 H0 G H σ ρ S xs ds Q si r h
  cases r with
  | nil => exact h.elim
  | cons r1 t =>
    cases t with
    | cons _ _ => exact h.elim
    | nil =>
      rename_i v d
      have other : okG K mg W (RD K) G0 H0 G H σ ρ Q ((asSeq d).bind (fun ds => M.pure (.int ds.length)) S) → ∃ x n, [v] = [x] ∧ LenV K x H n ∧ Q (.int n) H := fun h => by
        obtain ⟨a, xs, ds, rfl, hs, zz, t, h⟩ := asSeq_ok si r1 h
        refine ⟨_, xs.length, rfl, ?_, ?_⟩
        · rcases hs with hs | hs
          · exact .inl ⟨xs, hs, rfl⟩
          · exact .inr ⟨xs, hs, rfl⟩
        · rw [t.length]
          exact okG.here h si (.int _)
      cases r1 with
      | str z =>
        obtain ⟨g, h⟩ := okG.guard h
        exact ⟨_, z.length, rfl, ⟨sz_of g, rfl⟩, okG.here h si (.int _)⟩
      | _ => exact other h
/-- int of an int or a truth -/
def dInt : D → M D
  | .int i => M.pure (.int i)
  | .bl k => M.pure (.int (if k then 1 else 0))
  | _ => M.bad
theorem calld_int {K : PySem.W.Frag} {mg : Str → Option Value} : CallD K mg (fun xs H Q => (∃ i, xs = [.int i] ∧ Q (.int i) H) ∨ ∃ k, xs = [.bl k] ∧ Q (.int (if k then 1 else 0)) H) (ar1 dInt) := by
  intro W G0 H0 G H σ ρ S xs ds Q si r h
  cases r with
  | nil => exact h.elim
  | cons r1 t =>
    cases t with
    | cons _ _ => exact h.elim
    | nil =>
      cases r1 with
      | int i => exact .inl ⟨i, rfl, okG.here h si (.int _)⟩
      | bl i => exact .inr ⟨i, rfl, okG.here h si (.int _)⟩
      | _ => exact h.elim
def dMax : D → D → M D
  | .int i, .int j => M.pure (.int (if j > i then j else i))
  | _, _ => M.bad
def dMin : D → D → M D
  | .int i, .int j => M.pure (.int (if j < i then j else i))
  | _, _ => M.bad
theorem calld_ii {K : PySem.W.Frag} {mg : Str → Option Value} {g : Int → Int → Int} {f : D → D → M D} (hf : ∀ i j, f (.int i) (.int j) = M.pure (.int (g i j))) (hb : ∀ d e S, (∃ i j, d = .int i ∧ e = .int j) ∨ f d e S = .bad) : CallD K mg (fun xs H Q => ∃ i j, xs = [.int i, .int j] ∧ Q (.int (g i j)) H) (ar2 f) := by
  intro W G0 H0 G H σ ρ S xs ds Q si r h
  cases r with
  | nil => exact h.elim
  | cons r1 t =>
    cases t with
    | nil => exact h.elim
    | cons r2 t =>
      cases t with
      | cons _ _ => exact h.elim
      | nil =>
        rename_i v d v' d'
        have h : okG K mg W (RD K) G0 H0 G H σ ρ Q (f d d' S) := h
        rcases hb d d' S with ⟨i, j, rfl, rfl⟩ | q
        · cases r1; cases r2
          rw [hf] at h
          exact ⟨i, j, rfl, okG.here h si (.int _)⟩
        · rw [q] at h
          exact h.elim
theorem calld_max {K : PySem.W.Frag} {mg : Str → Option Value} : CallD K mg (fun xs H Q => ∃ i j, xs = [.int i, .int j] ∧ Q (.int (if j > i then j else i)) H) (ar2 dMax) := calld_ii (fun _ _ => rfl) (fun d e S => by cases d <;> cases e <;> first | exact .inr rfl | exact .inl ⟨_, _, rfl, rfl⟩)
theorem calld_min {K : PySem.W.Frag} {mg : Str → Option Value} : CallD K mg (fun xs H Q => ∃ i j, xs = [.int i, .int j] ∧ Q (.int (if j < i then j else i)) H) (ar2 dMin) := calld_ii (fun _ _ => rfl) (fun d e S => by cases d <;> cases e <;> first | exact .inr rfl | exact .inl ⟨_, _, rfl, rfl⟩)
end
end Dl

namespace Dl
open PySem L2

/-! ### isinstance with built-in types -/
inductive Ty where
  | non | bool | int | str | list | tuple | dict
  deriving DecidableEq
def Ty.nm : Ty → String
  | .non => "NoneType" | .bool => "bool" | .int => "int" | .str => "str" | .list => "list" | .tuple => "tuple" | .dict => "dict"
def Ty.sub : Ty → Ty → Bool
  | .non, .non => true | .bool, .bool => true | .bool, .int => true | .int, .int => true | .str, .str => true | .list, .list => true | .tuple, .tuple => true | .dict, .dict => true
  | _, _ => false
theorem kit_nm (a b : Ty) (h : b ≠ .non) : kitB a.nm b.nm = some (a.sub b) := by
  cases a <;> cases b <;> first | exact absurd rfl h | decide +kernel
def D.ty? (S : MS) : D → Option Ty
  | .non => some .non
  | .bl _ => some .bool
  | .int _ => some .int
  | .str _ => some .str
  | .lst _ => some .list
  | .tup _ => some .tuple
  | .ptr k => match S.cells[k]? with
    | some (.lst _) => some .list
    | some (.dic _) => some .dict
    | _ => none
  | .strm => some .list
def dIsi (ts : List Ty) (d : D) : M D := fun S => match d.ty? S with
  | some t => .ok (.bl (ts.any t.sub)) S
  | none => .bad
theorem tyx_of {K : PySem.W.Frag} {mg : Str → Option Value} {G : Gh} {H : Hp} {S : MS} {v : V} {d : D} {t : Ty} (w : Wf K mg G H S) (r : Rep K G H v d) (h : d.ty? S = some t) : TyX K H v (.type t.nm) := by
  cases r with
  | non => cases h; exact .base .non
  | bl b => cases h; exact .base (.bl b)
  | int b => cases h; exact .base (.int b)
  | str b => cases h; exact .base (.str b)
  | lst e _ _ _ => cases h; exact .base (.lst e)
  | tup e _ _ =>
    cases h
    rcases e with (e | ⟨o, e⟩) | e
    · exact .base (.tup e)
    · exact .fTuple e
    · obtain ⟨o, its, n, e, c, _⟩ := e
      exact .kTuple e c
  | strm => cases h; exact .base (.lst w.ha)
  | ptr e =>
    rename_i a k
    unfold D.ty? at h
    cases q : S.cells[k]? with
    | none => simp only [q] at h; cases h
    | some c =>
      have cr := w.cell k c a q e
      cases c with
      | lst ds =>
        simp only [q] at h; cases h
        obtain ⟨xs, hx, z, t⟩ := cr
        exact .base (.lst hx)
      | dic _ =>
        simp only [q] at h; cases h
        obtain ⟨xs, hx, z, t⟩ := cr
        exact .base (.dK hx)
      | ins _ _ => simp only [q] at h; cases h
theorem kitAny_of {K : PySem.W.Frag} (t : Ty) : ∀ ts : List Ty, (∀ b ∈ ts, b ≠ .non) → PySem.W.kitAny K (.type t.nm) (ts.map fun b => .type b.nm) = some (ts.any t.sub)
  | [], _ => rfl
  | b :: ts, h => by
    have h1 : PySem.W.kitOne K (.type t.nm) (.type b.nm) = some (t.sub b) := kit_ty (kit_nm t b (h b List.mem_cons_self))
    rw [List.map_cons, List.any_cons]
    refine kitAny_cons h1 (fun q => ?_) (fun q => ?_)
    · rw [q, Bool.false_or]
      exact kitAny_of t ts fun c hc => h c (List.mem_cons_of_mem _ hc)
    · rw [q, Bool.true_or]
section
variable {X : Cx} {W : WX} {ρ : List Slot} {a b c e : Expr} {es : List Expr} {ma mb mc m : M D} {ms : List (M D)} {pos p p2 : Pos}
/-- a built-in type by its name -/
def TN (X : Cx) (T : Str) (t : Ty) : Prop := X.mg T = none ∧ bootBuiltins T = some (.type t.nm) ∧ Gl X T ∧ T ≠ "__name__" ∧ (T == ("__debug__" : Str)) = false ∧ t ≠ .non
theorem ed_isi {T : Str} {t : Ty} (hT : TN X T t) (hi : X.mg "isinstance" = none) (ha : ED X W ρ e ma) (hg : Gl X "isinstance" := by rfl)
    (hs : starEach (.Name T p2 :: []) X.env = (false, eval (.Name T p2) X.env) :: starEach [] X.env := by rfl)
    (he : starEach (e :: [.Name T p2]) X.env = (false, eval e X.env) :: starEach [.Name T p2] X.env := by rfl) (hpl : (backTo pos (starEach [.Name T p2] X.env)).any (·.1) = false := by rfl) :
    ED X W ρ (.Call (.Name "isinstance" p) [e, .Name T p2] [] pos) (una (dIsi [t]) ma) := by
  obtain ⟨h1, h2, h3, h4, h5, h6⟩ := hT
  refine PE.imp (pe_callB call_isi hg hi (by decide +kernel) (pa_cons ha (pa_cons (pe_bltn (v := .ty t.nm) h3 h1 h2 rfl h4 h5) pa_nil hs) he) (by decide) (by decide) he hpl) fun σ H Q ⟨G0, H0, G, S, si, h⟩ => ?_
  refine ⟨G0, H0, G, S, si, okG.bind h fun G1 H1 S1 x d s1 f1 r1 h1 => ?_⟩
  unfold dIsi at h1
  cases q : d.ty? S1 with
  | none => rw [q] at h1; exact h1.elim
  | some u =>
    rw [q] at h1
    refine ⟨x, .ty t.nm, .type u.nm, .type t.nm, u.sub t, rfl, .ty _, tyx_of s1.wf r1 q, kit_ty (kit_nm u t h6), ?_⟩
    have z := okG.here h1 s1 (.bl _)
    simpa using z
/-- the names of built-in types in a row -/
inductive TNs (X : Cx) : List Expr → List Ty → Prop
  | nil : TNs X [] []
  | cons {T : Str} {t : Ty} {p : Pos} {es : List Expr} {ts : List Ty} : TN X T t → starEach (.Name T p :: es) X.env = (false, eval (.Name T p) X.env) :: starEach es X.env → TNs X es ts → TNs X (.Name T p :: es) (t :: ts)
theorem TNs.pa : ∀ {es : List Expr} {ts : List Ty}, TNs X es ts → PA X es (fun σ H Q => Q (ts.map fun t => V.ty t.nm) H)
  | _, _, .nil => PA.imp pa_nil fun σ H Q h => h
  | _, _, .cons h hs t => by
    obtain ⟨h1, h2, h3, h4, h5, h6⟩ := h
    exact PA.imp (pa_cons (pe_bltn (v := .ty _) h3 h1 h2 rfl h4 h5) (TNs.pa t) hs) fun σ H Q h => h
theorem TNs.no : ∀ {es : List Expr} {ts : List Ty}, TNs X es ts → ∀ b ∈ ts, b ≠ .non
  | _, _, .nil => fun b h => absurd h (by simp)
  | _, _, .cons h _ t => fun b hb => by
    rcases List.mem_cons.mp hb with e | k
    · rw [e]; exact h.2.2.2.2.2
    · exact TNs.no t b k
theorem paired_ty : ∀ ts : List Ty, Paired ClsV (ts.map fun t => V.ty t.nm) (ts.map fun t => Value.type t.nm)
  | [] => .nil
  | t :: ts => .cons (.ty _) (paired_ty ts)
theorem ed_isiT {es : List Expr} {ts : List Ty} {kk : Nat} {p3 : Pos} (hT : TNs X es ts) (hi : X.mg "isinstance" = none) (ha : ED X W ρ e ma) (hg : Gl X "isinstance" := by rfl) (hz : szOk ts.length = true := by rfl)
    (hs : starEach (.Tuple es kk p3 :: []) X.env = (false, eval (.Tuple es kk p3) X.env) :: starEach [] X.env := by rfl)
    (he : starEach (e :: [.Tuple es kk p3]) X.env = (false, eval e X.env) :: starEach [.Tuple es kk p3] X.env := by rfl) (hpl : (backTo pos (starEach [.Tuple es kk p3] X.env)).any (·.1) = false := by rfl) :
    ED X W ρ (.Call (.Name "isinstance" p) [e, .Tuple es kk p3] [] pos) (una (dIsi ts) ma) := by
  refine PE.imp (pe_callB call_isiT hg hi (by decide +kernel) (pa_cons ha (pa_cons (pe_tup hT.pa) pa_nil hs) he) (by decide) (by decide) he hpl) fun σ H Q ⟨G0, H0, G, S, si, h⟩ => ?_
  refine ⟨G0, H0, G, S, si, okG.bind h fun G1 H1 S1 x d s1 f1 r1 h1 => ?_⟩
  unfold dIsi at h1
  cases q : d.ty? S1 with
  | none => rw [q] at h1; exact h1.elim
  | some u =>
    rw [q] at h1
    refine ⟨by rw [List.length_map]; exact sz_of hz, fun pp hp => ?_⟩
    refine ⟨x, pp, _, .type u.nm, _, _, rfl, upd_same, paired_ty ts, ?_, kitAny_of u ts hT.no, okG.new h1 s1 hp (.bl _)⟩
    exact tyx_of (s1.wf.alloc hp) (r1.mono (.alloc hp)) q

/-! ### list(x), tuple(x), all(x) -/
def toList (m : M D) : M (List D) := m.bind fun d => (asSeq d).bind M.pure
theorem asSeq_okN {K : PySem.W.Frag} {mg : Str → Option Value} {W : WX} {G0 : Gh} {H0 : Hp} {G : Gh} {H : Hp} {σ : L2.St} {ρ : List Slot} {S : MS} {Q : VK} {f : List D → M (List D)} {v : V} {d : D} (si : SI K mg G0 H0 G H σ ρ S) (r : Rep K G H v d)
    (h : okN K mg W G0 H0 G H σ ρ Q ((asSeq d).bind f S)) : ∃ a xs ds, v = .ref a ∧ (SqL K H a xs ∨ SqT K H a xs) ∧ xs.length ≤ sizeLine ∧ Reps K G H xs ds ∧ okN K mg W G0 H0 G H σ ρ Q (f ds S) := by
  cases r with
  | lst h1 z n t => exact ⟨_, _, _, rfl, .inl (SqL.of h1), z, t, h⟩
  | tup h1 z t => exact ⟨_, _, _, rfl, .inr h1, z, t, h⟩
  | ptr e =>
    rename_i a k
    unfold asSeq M.bind at h
    cases q : S.cells[k]? with
    | none => simp only [q] at h; exact h.elim
    | some c =>
      have cr := si.wf.cell k c a q e
      cases c with
      | lst ds =>
        simp only [q] at h
        obtain ⟨xs, hx, z, t⟩ := cr
        exact ⟨_, xs, ds, rfl, .inl (SqL.of hx), z, t, h⟩
      | dic _ => simp only [q] at h; exact h.elim
      | ins _ _ => simp only [q] at h; exact h.elim
  | _ => exact h.elim
theorem asLst_okN {K : PySem.W.Frag} {mg : Str → Option Value} {W : WX} {G0 : Gh} {H0 : Hp} {G : Gh} {H : Hp} {σ : L2.St} {ρ : List Slot} {S : MS} {Q : VK} {f : List D → M (List D)} {v : V} {d : D} (si : SI K mg G0 H0 G H σ ρ S) (r : Rep K G H v d)
    (h : okN K mg W G0 H0 G H σ ρ Q ((asLst d).bind f S)) : ∃ a xs ds, v = .ref a ∧ H a = some (.lst xs) ∧ xs.length ≤ sizeLine ∧ Reps K G H xs ds ∧ okN K mg W G0 H0 G H σ ρ Q (f ds S) := by
  cases r with
  | lst h1 z n t => exact ⟨_, _, _, rfl, h1, z, t, h⟩
  | ptr e =>
    rename_i a k
    unfold asLst M.bind at h
    cases q : S.cells[k]? with
    | none => simp only [q] at h; exact h.elim
    | some c =>
      have cr := si.wf.cell k c a q e
      cases c with
      | lst ds =>
        simp only [q] at h
        obtain ⟨xs, hx, z, t⟩ := cr
        exact ⟨_, xs, ds, rfl, hx, z, t, h⟩
      | dic _ => simp only [q] at h; exact h.elim
      | ins _ _ => simp only [q] at h; exact h.elim
  | _ => exact h.elim
/-- list(x): a new list -/
theorem en_list {mL : X.mg "list" = none} (ha : ED X W ρ e ma) (hg : Gl X "list" := by rfl)
    (he : starEach (e :: []) X.env = (false, eval e X.env) :: starEach [] X.env := by rfl) (hpl : (backTo pos (starEach [] X.env)).any (·.1) = false := by rfl) :
    EN X W ρ (.Call (.Name "list" p) [e] [] pos) (toList ma) :=
  PE.imp (pe_callTy call_list_of hg mL (by decide +kernel) (pa_cons ha pa_nil he) (by decide) (by decide) he hpl) fun σ H Q ⟨G0, H0, G, S, si, h⟩ => ⟨G0, H0, G, S, si, okN.bind h fun G1 H1 S1 x d s1 f1 r1 h1 => by
    obtain ⟨a, xs, ds, rfl, hs, z, t, h1⟩ := asSeq_okN s1 r1 h1
    exact ⟨a, xs, rfl, hs, fun l hl => okN.new h1 s1 hl z t⟩⟩
def dTuple (d : D) : M D := (asSeq d).bind fun ds => M.pure (.tup ds)
theorem calld_tuple {K : PySem.W.Frag} {mg : Str → Option Value} : CallD K mg (fun xs H Q => ∃ p ys, xs = [.ref p] ∧ ((SqL K H p ys ∧ ∀ l, H l = none → Q (.ref l) (upd H l (.tup ys))) ∨ (SqT K H p ys ∧ Q (.ref p) H))) (ar1 dTuple) := by
  intro W G0 H0 G H σ ρ S xs ds Q si r h
  cases r with
  | nil => exact h.elim
  | cons r1 t =>
    cases t with
    | cons _ _ => exact h.elim
    | nil =>
      obtain ⟨a, xs, ds, rfl, hs, z, t, h⟩ := asSeq_ok si r1 h
      refine ⟨a, xs, rfl, ?_⟩
      rcases hs with hs | hs
      · exact .inl ⟨hs, fun l hl => okG.new h si hl (rep_tup hl z t)⟩
      · exact .inr ⟨hs, okG.here h si (.tup hs z t)⟩
def bools : List D → Option (List Bool)
  | [] => some []
  | .bl b :: ds => (bools ds).map (b :: ·)
  | _ => none
theorem bools_of {K : PySem.W.Frag} {G : Gh} {H : Hp} : ∀ {xs : List V} {ds : List D} {bs : List Bool}, Reps K G H xs ds → bools ds = some bs → xs = bs.map V.bl
  | _, _, _, .nil, e => by cases e; rfl
  | _, _, _, .cons r t, e => by
    cases r with
    | bl b =>
      rename_i vs ds
      cases q : bools ds with
      | none => unfold bools at e; rw [q] at e; cases e
      | some l =>
        unfold bools at e; rw [q] at e; cases e
        rw [bools_of t q]; rfl
    | _ => unfold bools at e; cases e
def dAll : D → M D
  | .lst ds => match bools ds with
    | some bs => M.pure (.bl (bs.all id))
    | none => M.bad
  | _ => M.bad
def dAny : D → M D
  | .lst ds => match bools ds with
    | some bs => M.pure (.bl (bs.any id))
    | none => M.bad
  | _ => M.bad
theorem calld_all {K : PySem.W.Frag} {mg : Str → Option Value} : CallD K mg (rAll K) (ar1 dAll) := by
  intro W G0 H0 G H σ ρ S xs ds Q si r h
  cases r with
  | nil => exact h.elim
  | cons r1 t =>
    cases t with
    | cons _ _ => exact h.elim
    | nil =>
      cases r1 with
      | lst e z n t =>
        rename_i a xs ds
        have h : okG K mg W (RD K) G0 H0 G H σ ρ Q (dAll (.lst ds) S) := h
        unfold dAll at h
        cases q : bools ds with
        | none => simp only [q] at h; exact h.elim
        | some bs =>
          simp only [q] at h
          exact ⟨a, bs, rfl, by rw [← bools_of t q]; exact SqL.of e, okG.here h si (.bl _)⟩
      | _ => exact h.elim
theorem calld_any {K : PySem.W.Frag} {mg : Str → Option Value} : CallD K mg (rAny K) (ar1 dAny) := by
  intro W G0 H0 G H σ ρ S xs ds Q si r h
  cases r with
  | nil => exact h.elim
  | cons r1 t =>
    cases t with
    | cons _ _ => exact h.elim
    | nil =>
      cases r1 with
      | lst e z n t =>
        rename_i a xs ds
        have h : okG K mg W (RD K) G0 H0 G H σ ρ Q (dAny (.lst ds) S) := h
        unfold dAny at h
        cases q : bools ds with
        | none => simp only [q] at h; exact h.elim
        | some bs =>
          simp only [q] at h
          exact ⟨a, bs, rfl, by rw [← bools_of t q]; exact SqL.of e, okG.here h si (.bl _)⟩
      | _ => exact h.elim
/-! ### slices of lists -/
def cutD (xs : List D) (lo hi : Option Int) : List D := (xs.drop (HT.sIx xs.length 0 lo)).take (HT.sIx xs.length xs.length hi - HT.sIx xs.length 0 lo)
def partM : Option (M D) → M (Option Int)
  | none => M.pure none
  | some m => m.bind fun d => match d with
    | .int i => M.pure (some i)
    | _ => M.bad
def EO (X : Cx) (W : WX) (ρ : List Slot) (e : Option Expr) (m : M (Option Int)) : Prop := PO X e (tG X.K X.mg W (fun _ _ a b => a = b) ρ m)
theorem PO.imp {X : Cx} {e : Option Expr} {t u : TO} (h : PO X e t) (k : ∀ σ H Q, u σ H Q → t σ H Q) : PO X e u := ⟨fun pins s σ H Q I q => h.run pins s σ H Q I (k σ H Q q)⟩
theorem eo_none : EO X W ρ none (partM none) := PO.imp po_none fun σ H Q ⟨G0, H0, G, S, si, h⟩ => okG.here h si rfl
theorem eo_some (h : ED X W ρ e m) : EO X W ρ (some e) (partM (some m)) := PO.imp (po_some h) fun σ H Q ⟨G0, H0, G, S, si, h⟩ => ⟨G0, H0, G, S, si, okG.bind h fun G1 H1 S1 x d s1 f1 r1 h1 => by
  cases r1 with
  | int i => exact ⟨i, rfl, okG.here h1 s1 rfl⟩
  | _ => exact h1.elim⟩
/-- xs[lo:hi], a new list -/
def cutM (m : M D) (lo hi : M (Option Int)) : M (List D) := m.bind fun d => lo.bind fun l => hi.bind fun u => (asLst d).bind fun ds => M.pure (cutD ds l u)
theorem en_slice {lo hi : Option Expr} {ml mh : M (Option Int)} (he : ED X W ρ e m) (hl : EO X W ρ lo ml) (hh : EO X W ρ hi mh) : EN X W ρ (.Subscript e (.Slice lo hi none p2) pos) (cutM m ml mh) :=
  PE.imp (pe_slice sl_list he hl hh) fun σ H Q ⟨G0, H0, G, S, si, h⟩ => ⟨G0, H0, G, S, si, okN.bind h fun G1 H1 S1 x d s1 f1 r1 h1 => ⟨G0, H0, G1, S1, s1, okN.bind h1 fun G2 H2 S2 l l' s2 f2 r2 h2 => ⟨G0, H0, G2, S2, s2, okN.bind h2 fun G3 H3 S3 u u' s3 f3 r3 h3 => by
    cases r2; cases r3
    have r1' : Rep X.K G3 H3 x d := Rep.mono (f2.trans f3) r1
    have cut : ∀ {xs : List V} {ds : List D}, Reps X.K G3 H3 xs ds → Reps X.K G3 H3 (cutV xs l u) (cutD ds l u) := fun {xs ds} t => by
      unfold cutV cutD
      rw [t.length]
      exact (t.drop _).take _
    obtain ⟨a, xs, ds, rfl, hs, z, t, h3⟩ := asLst_okN s3 r1' h3
    exact ⟨_, _, rfl, SqL.of hs, fun p hp => okN.new h3 s3 hp (Nat.le_trans (cutV_length _ _ _) z) (cut t)⟩⟩⟩⟩
end
end Dl

namespace Dl
open PySem L2

/-! ### statements -/
/-- how a block ends: behind it (with what it leaves), by return, break, continue -/
inductive Fl (C L : Type) where
  | nx (c : C) | ret (d : D) | brk (l : L) | cnt (l : L)
/-- what is known behind a block, at an error, at break and continue -/
structure Ct (C L : Type) where
  W : WX
  x : List Slot
  emb : C → List Slot
  embL : L → List Slot
  R : Hp → Gh → Hp → V → D → Prop
/-- forgetting what slots hold -/
inductive Wk : List Slot → List Slot → Prop
  | nil : Wk [] []
  | same {s : Slot} {a b : List Slot} : Wk a b → Wk (s :: a) (s :: b)
  | any {s : Slot} {a b : List Slot} : Wk a b → Wk (s :: a) (.any :: b)
theorem wk_any : ∀ ρ : List Slot, Wk ρ (List.replicate ρ.length .any)
  | [] => .nil
  | s :: ρ => .any (wk_any ρ)
theorem wk_refl : ∀ ρ : List Slot, Wk ρ ρ
  | [] => .nil
  | s :: ρ => .same (wk_refl ρ)
theorem wk_set : ∀ (ρ : List Slot) (i : Nat), Wk ρ (ρ.set i .any)
  | [], _ => .nil
  | s :: ρ, 0 => .any (wk_refl ρ)
  | s :: ρ, i + 1 => .same (wk_set ρ i)
theorem Wk.len : ∀ {a b : List Slot}, Wk a b → a.length = b.length
  | _, _, .nil => rfl
  | _, _, .same t => by rw [List.length_cons, List.length_cons, Wk.len t]
  | _, _, .any t => by rw [List.length_cons, List.length_cons, Wk.len t]
theorem Wk.get : ∀ {a b : List Slot} {i : Nat} {s : Slot}, Wk a b → b[i]? = some s → s = .any ∨ a[i]? = some s
  | _, _, _, _, .nil, h => by simp at h
  | _, _, 0, _, .same _, h => .inr h
  | _, _, 0, _, .any _, h => by simp at h; exact .inl h.symm
  | _, _, i + 1, _, .same t, h => by
    rcases Wk.get (i := i) t (by simpa using h) with q | q
    · exact .inl q
    · exact .inr (by simpa using q)
  | _, _, i + 1, _, .any t, h => by
    rcases Wk.get (i := i) t (by simpa using h) with q | q
    · exact .inl q
    · exact .inr (by simpa using q)
theorem Wk.trans : ∀ {a b c : List Slot}, Wk a b → Wk b c → Wk a c
  | _, _, _, .nil, .nil => .nil
  | _, _, _, .same s, .same t => .same (Wk.trans s t)
  | _, _, _, .same s, .any t => .any (Wk.trans s t)
  | _, _, _, .any s, .same t => .any (Wk.trans s t)
  | _, _, _, .any s, .any t => .any (Wk.trans s t)

section
variable {K : PySem.W.Frag} {mg : Str → Option Value} {G G0 G1 : Gh} {H H0 H1 : Hp} {S : MS} {σ : L2.St} {ρ ρ' : List Slot} {p : Addr} {o : HO}
theorem SI.weak (s : SI K mg G0 H0 G H σ ρ S) (w : Wk ρ ρ') : SI K mg G0 H0 G H σ ρ' S where
  fr := s.fr
  live0 := s.live0
  wf := s.wf
  len := s.len.trans w.len
  env := fun i x h => by
    rcases w.get h with q | q
    · subst q; trivial
    · exact s.env i x q
  apart := fun i j ds es l n h1 h2 => by
    rcases w.get h1 with q | q
    · cases q
    · rcases w.get h2 with q' | q'
      · cases q'
      · exact s.apart i j ds es l n q q'
theorem SI.set (s : SI K mg G0 H0 G H σ ρ S) {v : V} {d : D} (i : Nat) (r : Rep K G H v d) : SI K mg G0 H0 G H (σ.set i (some v)) (ρ.set i (.val d)) S where
  fr := s.fr
  live0 := s.live0
  wf := s.wf
  len := by rw [List.length_set, List.length_set]; exact s.len
  env := fun j x h => by
    by_cases e : i = j
    · subst e
      by_cases hl : i < ρ.length
      · rw [List.getElem?_set_self hl] at h
        cases h
        exact ⟨v, List.getElem?_set_self (by rw [s.len]; exact hl), r⟩
      · rw [List.getElem?_eq_none (by rw [List.length_set]; omega)] at h
        cases h
    · rw [List.getElem?_set_ne e] at h ⊢
      exact s.env j x h
  apart := fun a b ds es l n h1 h2 h3 => by
    have ne : ∀ {c : Nat} {fs : List D}, (ρ.set i (.val d))[c]? = some (.own fs) → i ≠ c ∧ ρ[c]? = some (.own fs) := fun {c fs} h => by
      by_cases e : i = c
      · subst e
        by_cases hl : i < ρ.length
        · rw [List.getElem?_set_self hl] at h; cases h
        · rw [List.getElem?_eq_none (by rw [List.length_set]; omega)] at h; cases h
      · rw [List.getElem?_set_ne e] at h
        exact ⟨e, h⟩
    obtain ⟨n1, q1⟩ := ne h1
    obtain ⟨n2, q2⟩ := ne h2
    rw [List.getElem?_set_ne n1] at h3
    rw [List.getElem?_set_ne n2]
    exact s.apart a b ds es l n q1 q2 h3
/-- a new list becomes a frame's own -/
theorem SI.setOwn (s : SI K mg G0 H0 G H σ ρ S) {l : Addr} {xs : List V} {ds : List D} (i : Nat) (hl : H l = some (.lst xs)) (z : xs.length ≤ sizeLine) (ho : G.O l) (hc : ¬ G.cell l) (h0 : H0 l = none) (r : Reps K G H xs ds)
    (fresh : ∀ (j : Nat) (fs : List D), i ≠ j → ρ[j]? = some (.own fs) → σ[j]? ≠ some (some (.ref l))) :
    SI K mg G0 H0 G H (σ.set i (some (.ref l))) (ρ.set i (.own ds)) S where
  fr := s.fr
  live0 := s.live0
  wf := s.wf
  len := by rw [List.length_set, List.length_set]; exact s.len
  env := fun j x h => by
    by_cases e : i = j
    · subst e
      by_cases hi : i < ρ.length
      · rw [List.getElem?_set_self hi] at h
        cases h
        exact ⟨l, xs, List.getElem?_set_self (by rw [s.len]; exact hi), hl, z, r, ho, hc, h0⟩
      · rw [List.getElem?_eq_none (by rw [List.length_set]; omega)] at h
        cases h
    · rw [List.getElem?_set_ne e] at h ⊢
      exact s.env j x h
  apart := fun a b ds' es l' n' h1 h2 h3 => by
    have cs : ∀ {c : Nat} {fs : List D}, (ρ.set i (.own ds))[c]? = some (.own fs) → i = c ∨ (i ≠ c ∧ ρ[c]? = some (.own fs)) := fun {c fs} h => by
      by_cases e : i = c
      · exact .inl e
      · rw [List.getElem?_set_ne e] at h
        exact .inr ⟨e, h⟩
    have hs : ∀ {c : Nat}, i = c → (σ.set i (some (.ref l)))[c]? = some (some (.ref l')) → l = l' := fun {c} e h => by
      subst e
      by_cases hi : i < σ.length
      · rw [List.getElem?_set_self hi] at h
        cases h; rfl
      · rw [List.getElem?_eq_none (by rw [List.length_set]; omega)] at h
        cases h
    rcases cs h1 with e1 | ⟨n1, q1⟩
    · rcases cs h2 with e2 | ⟨n2, q2⟩
      · exact absurd (e1.symm.trans e2) n'
      · have := hs e1 h3
        subst this
        rw [List.getElem?_set_ne n2]
        exact fresh b es n2 q2
    · rw [List.getElem?_set_ne n1] at h3
      rcases cs h2 with e2 | ⟨n2, q2⟩
      · intro h4
        have := hs e2 h4
        subst this
        exact fresh a ds' n1 q1 h3
      · rw [List.getElem?_set_ne n2]
        exact s.apart a b ds' es l' n' q1 q2 h3
end

section
variable (K : PySem.W.Frag) (mg : Str → Option Value) {C L : Type} (k : Ct C L)
def okS (G0 : Gh) (H0 : Hp) (G1 : Gh) (H1 : Hp) (D : Ends) : Res (Fl C L) → Prop
  | .ok (.nx c) S => ∀ σ G H, SI K mg G0 H0 G H σ (k.emb c) S → LR G1 H1 G H → D.nx σ H
  | .ok (.ret d) S => ∀ v G H, FR G0 H0 G H → Wf K mg G H S → k.R H0 G H v d → D.rt v H
  | .ok (.brk l) S => ∀ σ G H, SI K mg G0 H0 G H σ (k.embL l) S → LR G1 H1 G H → D.bk σ H
  | .ok (.cnt l) S => ∀ σ G H, SI K mg G0 H0 G H σ (k.embL l) S → LR G1 H1 G H → D.ct σ H
  | .err e S => ∀ cls da σ G H, SI K mg G0 H0 G H σ k.x S → LR G1 H1 G H → ErrRep K mg G H e cls da → k.W cls da σ H
  | .bad => False
def tS (ρ : List Slot) (m : M (Fl C L)) : TS := fun D σ H => ∃ G0 H0 G S, SI K mg G0 H0 G H σ ρ S ∧ okS K mg k G0 H0 G H D (m S)
end
def SD (X : Cx) {C L : Type} (k : Ct C L) (ρ : List Slot) (sts : List Stmt) (m : M (Fl C L)) : Prop := PSs X sts (tS X.K X.mg k ρ m)
theorem okS.from {K : PySem.W.Frag} {mg : Str → Option Value} {C L : Type} {k : Ct C L} {G0 G G1 : Gh} {H0 H H1 : Hp} {D : Ends} {r : Res (Fl C L)} (h : okS K mg k G0 H0 G H D r) (f : LR G H G1 H1) : okS K mg k G0 H0 G1 H1 D r := by
  cases r with
  | ok z S =>
    cases z with
    | nx c => exact fun σ G H s r => h σ G H s (f.trans r)
    | ret d => exact h
    | brk l => exact fun σ G H s r => h σ G H s (f.trans r)
    | cnt l => exact fun σ G H s r => h σ G H s (f.trans r)
  | err e S => exact fun cls da σ G H s r => h cls da σ G H s (f.trans r)
  | bad => exact h

/-- behind an expression in a statement -/
theorem okS.bind {K : PySem.W.Frag} {mg : Str → Option Value} {C L : Type} {k : Ct C L} {α β : Type} {R : Gh → Hp → β → α → Prop} {G0 G : Gh} {H0 H : Hp} {D : Ends} {σ : L2.St} {ρ : List Slot} {Q : β → Hp → Prop} {S : MS} {m : M α} {f : α → M (Fl C L)}
    (h : okS K mg k G0 H0 G H D (m.bind f S)) (w : Wk ρ k.x)
    (q : ∀ G1 H1 S1 b a, SI K mg G0 H0 G1 H1 σ ρ S1 → R G1 H1 b a → okS K mg k G0 H0 G1 H1 D (f a S1) → Q b H1) : okG K mg k.W R G0 H0 G H σ ρ Q (m S) := by
  unfold M.bind at h
  cases e : m S with
  | ok a S1 =>
    rw [e] at h
    exact fun b G' H' s r z => q G' H' S1 b a s z (okS.from h r.lr)
  | err x S1 =>
    rw [e] at h
    exact fun cls da G' H' s f r => h cls da σ G' H' (s.weak w) f.lr r
  | bad => rw [e] at h; exact h
theorem okS.bind2 {K : PySem.W.Frag} {mg : Str → Option Value} {C L : Type} {k : Ct C L} {α β : Type} {R : Gh → Hp → β → α → Prop} {G0 G : Gh} {H0 H : Hp} {D : Ends} {σ : L2.St} {ρ : List Slot} {Q : β → Hp → Prop} {S : MS} {m : M α} {f : α → M (Fl C L)}
    (h : okS K mg k G0 H0 G H D (m.bind f S)) (w : Wk ρ k.x)
    (q : ∀ G1 H1 S1 b a, SI K mg G0 H0 G1 H1 σ ρ S1 → FR G H G1 H1 → R G1 H1 b a → okS K mg k G0 H0 G1 H1 D (f a S1) → Q b H1) : okG K mg k.W R G0 H0 G H σ ρ Q (m S) := by
  unfold M.bind at h
  cases e : m S with
  | ok a S1 =>
    rw [e] at h
    exact fun b G' H' s r z => q G' H' S1 b a s r z (okS.from h r.lr)
  | err x S1 =>
    rw [e] at h
    exact fun cls da G' H' s f r => h cls da σ G' H' (s.weak w) f.lr r
  | bad => rw [e] at h; exact h
theorem okS.bindN {K : PySem.W.Frag} {mg : Str → Option Value} {C L : Type} {k : Ct C L} {G0 G : Gh} {H0 H : Hp} {E : Ends} {σ : L2.St} {ρ : List Slot} {Q : VK} {S : MS} {m : M (List D)} {f : List D → M (Fl C L)}
    (h : okS K mg k G0 H0 G H E (m.bind f S)) (w : Wk ρ k.x)
    (q : ∀ l xs G1 H1 S1 ds, SI K mg G0 H0 G1 H1 σ ρ S1 → FR G H G1 H1 → H l = none → H1 l = some (.lst xs) → xs.length ≤ sizeLine → G1.O l → ¬ G1.cell l → Reps K G1 H1 xs ds → okS K mg k G0 H0 G1 H1 E (f ds S1) → Q (.ref l) H1) : okN K mg k.W G0 H0 G H σ ρ Q (m S) := by
  unfold M.bind at h
  cases e : m S with
  | ok a S1 =>
    rw [e] at h
    exact fun l xs G' H' s r n hl z ho hc t => q l xs G' H' S1 a s r n hl z ho hc t (okS.from h r.lr)
  | err x S1 =>
    rw [e] at h
    exact fun cls da G' H' s f r => h cls da σ G' H' (s.weak w) f.lr r
  | bad => rw [e] at h; exact h

/-! ### the statements' rules -/
section
variable {X : Cx} {C L : Type} {k : Ct C L} {ρ : List Slot} {a b c e : Expr} {es : List Expr} {m : M D} {pos p : Pos} {rest sts : List Stmt}
/-- the end of a block -/
theorem sd_nil {c : C} (w : Wk ρ (k.emb c)) : SD X k ρ [] (M.pure (.nx c)) := PSs.imp pss_nil fun D σ H ⟨G0, H0, G, S, si, h⟩ => h σ G H (si.weak w) (.refl G H)
theorem sd_bad : SD X k ρ sts M.bad := ⟨fun _ _ _ _ _ _ h => by
  obtain ⟨_, _, _, _, _, h⟩ := h
  exact h.elim⟩
def retM {C L : Type} (m : M D) : M (Fl C L) := m.bind fun d => M.pure (.ret d)
theorem sd_ret (w : Wk ρ k.x) (he : ED X k.W ρ e m) (hR : ∀ H0 G H v d, Rep X.K G H v d → k.R H0 G H v d := by exact fun _ _ _ _ _ h => h) : SD X k ρ (.Return (some e) pos :: rest) (retM m) :=
  PSs.imp (pss_cons (ps_ret he) pss_never) fun D σ H ⟨G0, H0, G, S, si, h⟩ => ⟨G0, H0, G, S, si, okS.bind h w fun G1 H1 S1 v d s1 r1 h1 => h1 v G1 H1 s1.fr s1.wf (hR _ _ _ _ _ r1)⟩
theorem sd_retN (hR : ∀ H0 G H v d, Rep X.K G H v d → k.R H0 G H v d := by exact fun _ _ _ _ _ h => h) : SD X k ρ (.Return none pos :: rest) (M.pure (.ret .non)) :=
  PSs.imp (pss_cons ps_retN pss_never) fun D σ H ⟨G0, H0, G, S, si, h⟩ => h .non G H si.fr si.wf (hR _ _ _ _ _ .non)
theorem sd_pass {mr : M (Fl C L)} (hr : SD X k ρ rest mr) : SD X k ρ (.Pass pos :: rest) mr :=
  PSs.imp (pss_cons ps_pass hr) fun D σ H h => h
theorem sd_brk {l : L} (w : Wk ρ (k.embL l)) : SD X k ρ (.Break pos :: rest) (M.pure (.brk l)) := PSs.imp (pss_cons ps_break pss_never) fun D σ H ⟨G0, H0, G, S, si, h⟩ => h σ G H (si.weak w) (.refl G H)
theorem sd_cnt {l : L} (w : Wk ρ (k.embL l)) : SD X k ρ (.Continue pos :: rest) (M.pure (.cnt l)) := PSs.imp (pss_cons ps_continue pss_never) fun D σ H ⟨G0, H0, G, S, si, h⟩ => h σ G H (si.weak w) (.refl G H)
theorem sd_weak {ρ' : List Slot} {m : M (Fl C L)} (w : Wk ρ ρ') (h : SD X k ρ' sts m) : SD X k ρ sts m := PSs.imp h fun D σ H ⟨G0, H0, G, S, si, h⟩ => ⟨G0, H0, G, S, si.weak w, h⟩
/-- x = e -/
theorem sd_set (i : Nat) {x : Str} {f : D → M (Fl C L)} (w : Wk ρ k.x) (hN : X.N.Nodup) (he : ED X k.W ρ e m) (hr : ∀ d, SD X k (ρ.set i (.val d)) rest (f d)) (hi : X.N[i]? = some x := by rfl) (hx : Loc X.env.scope x := by first | exact Or.inl rfl | exact Or.inr rfl)
    (hs : swapsWith e (some (.Name x p)) pos.line X.env = pure false := by rfl) (hf : X.fn x = true ∨ X.env.scope.names.lookup x = some .local := by first | exact .inl rfl | exact .inr rfl) :
    SD X k ρ (.Assign [.Name x p] e pos :: rest) (m.bind f) := by
  let u : TS := fun D σ H => ∃ d, tS X.K X.mg k (ρ.set i (.val d)) (f d) D σ H
  have hu : PSs X rest u := ⟨fun pins s σ H D I ⟨d, q⟩ => (hr d).run pins s σ H D I q⟩
  refine PSs.imp (pss_cons (ps_set hN hi hx he hs hf) hu) fun D σ H ⟨G0, H0, G, S, si, h⟩ => ⟨G0, H0, G, S, si, okS.bind h w fun G1 H1 S1 v d s1 r1 h1 => ?_⟩
  exact ⟨d, G0, H0, G1, S1, s1.set i r1, h1⟩
/-- x = a new list, of which more is to come -/
theorem sd_own (i : Nat) {x : Str} {mn : M (List D)} {f : List D → M (Fl C L)} (w : Wk ρ k.x) (hN : X.N.Nodup) (he : EN X k.W ρ e mn) (hr : ∀ d, SD X k (ρ.set i (.own d)) rest (f d)) (hi : X.N[i]? = some x := by rfl) (hx : Loc X.env.scope x := by first | exact Or.inl rfl | exact Or.inr rfl)
    (hs : swapsWith e (some (.Name x p)) pos.line X.env = pure false := by rfl) (hf : X.fn x = true ∨ X.env.scope.names.lookup x = some .local := by first | exact .inl rfl | exact .inr rfl) :
    SD X k ρ (.Assign [.Name x p] e pos :: rest) (mn.bind f) := by
  let u : TS := fun D σ H => ∃ d, tS X.K X.mg k (ρ.set i (.own d)) (f d) D σ H
  have hu : PSs X rest u := ⟨fun pins s σ H D I ⟨d, q⟩ => (hr d).run pins s σ H D I q⟩
  refine PSs.imp (pss_cons (ps_set hN hi hx he hs hf) hu) fun D σ H ⟨G0, H0, G, S, si, h⟩ => ⟨G0, H0, G, S, si, okS.bindN h w fun l xs G1 H1 S1 ds s1 f1 n hl z ho hc t h1 => ?_⟩
  exact ⟨ds, G0, H0, G1, S1, s1.setOwn i hl z ho hc (si.fr.free n) t fun j fs _ e => si.owns n j fs e, h1⟩
/-- what is built is done -/
theorem sd_frz (i : Nat) {ds : List D} {m : M (Fl C L)} (h : SD X k (ρ.set i (.val (.lst ds))) sts m) (hρ : ρ[i]? = some (.own ds) := by rfl) : SD X k ρ sts m := PSs.imp h fun D σ H ⟨G0, H0, G, S, si, h⟩ => by
  obtain ⟨l, xs, e, hl, z, t, ho, hc, h0⟩ := si.env i _ hρ
  have hi : i < ρ.length := (List.getElem?_eq_some_iff.mp hρ).1
  have s1 : SI X.K X.mg G0 H0 G H σ (ρ.set i .any) S := si.weak (wk_set ρ i)
  have s2 : SI X.K X.mg G0 H0 (G.let l) H σ (ρ.set i .any) S := s1.let h0 fun j es ej q => by
    by_cases q' : i = j
    · subst q'
      rw [List.getElem?_set_self hi] at ej; cases ej
    · rw [List.getElem?_set_ne q'] at ej
      exact si.apart i j ds es l q' hρ ej e q
  have s3 := s2.set (v := .ref l) (d := .lst ds) i (.lst hl z (fun q => q.elim hc fun y => y.1 rfl) t.let)
  have e1 : σ.set i (some (.ref l)) = σ := by
    apply List.ext_getElem?
    intro j
    by_cases q : i = j
    · subst q
      rw [List.getElem?_set_self (by rw [si.len]; exact hi), e]
    · rw [List.getElem?_set_ne q]
  rw [e1, List.set_set] at s3
  exact ⟨G0, H0, G.let l, S, s3, okS.from h LR.let⟩
/-- an expression alone -/
theorem sd_expr {mr : M (Fl C L)} (w : Wk ρ k.x) (he : ED X k.W ρ e m) (hr : SD X k ρ rest mr) (hs : swapsWith e none pos.line X.env = pure false := by rfl) : SD X k ρ (.Expr e pos :: rest) (m.bind fun _ => mr) :=
  PSs.imp (pss_cons (ps_expr he hs) hr) fun D σ H ⟨G0, H0, G, S, si, h⟩ => ⟨G0, H0, G, S, si, okS.bind h w fun G1 H1 S1 v d s1 r1 h1 => ⟨G0, H0, G1, S1, s1, h1⟩⟩
/-- if, each way with what follows -/
theorem sd_if {tc : M Bool} {ma mb : M (Fl C L)} {sa sb : List Stmt} (w : Wk ρ k.x) (hc : ET X k.W ρ c tc) (ha : SD X k ρ sa ma) (hb : SD X k ρ sb mb) : SD X k ρ [.If c sa sb pos] (ifM tc ma mb) :=
  PSs.imp (pss_one (ps_if hc ha hb)) fun D σ H ⟨G0, H0, G, S, si, h⟩ => ⟨G0, H0, G, S, si, okS.bind h w fun G1 H1 S1 v d s1 r1 h1 => by
    cases r1
    cases v with
    | true => exact ⟨G0, H0, G1, S1, s1, h1⟩
    | false => exact ⟨G0, H0, G1, S1, s1, h1⟩⟩
/-- a way that never goes on behind the if -/
def outM {C L : Type} (m : M (Fl Empty L)) : M (Fl C L) := m.bind fun f => match f with
  | .ret d => M.pure (.ret d)
  | .brk l => M.pure (.brk l)
  | .cnt l => M.pure (.cnt l)
  | .nx c => c.elim
def Ct.no {C L : Type} (k : Ct C L) : Ct Empty L := ⟨k.W, k.x, fun c => c.elim, k.embL, k.R⟩
theorem okS.out {K : PySem.W.Frag} {mg : Str → Option Value} {G0 : Gh} {H0 : Hp} {D D' : Ends} {S : MS} {m : M (Fl Empty L)} {G1 : Gh} {H1 : Hp} (h : okS K mg k G0 H0 G1 H1 D (outM m S)) (e1 : D'.rt = D.rt) (e2 : D'.bk = D.bk) (e3 : D'.ct = D.ct) : okS K mg k.no G0 H0 G1 H1 D' (m S) := by
  unfold outM M.bind at h
  cases q : m S with
  | ok f S1 =>
    rw [q] at h
    cases f with
    | nx c => exact c.elim
    | ret d => intro v G H; rw [e1]; exact h v G H
    | brk l => intro σ G H; rw [e2]; exact h σ G H
    | cnt l => intro σ G H; rw [e3]; exact h σ G H
  | err x S1 => rw [q] at h; exact h
  | bad => rw [q] at h; exact h
theorem sd_ifR {tc : M Bool} {ma : M (Fl Empty L)} {mr : M (Fl C L)} {sa : List Stmt} (w : Wk ρ k.x) (hc : ET X k.W ρ c tc) (ha : SD X k.no ρ sa ma) (hr : SD X k ρ rest mr) : SD X k ρ (.If c sa [] pos :: rest) (ifM tc (outM ma) mr) :=
  PSs.imp (pss_cons (ps_if hc ha pss_nil) hr) fun D σ H ⟨G0, H0, G, S, si, h⟩ => ⟨G0, H0, G, S, si, okS.bind h w fun G1 H1 S1 v d s1 r1 h1 => by
    cases r1
    cases v with
    | true => exact ⟨G0, H0, G1, S1, s1, h1.out rfl rfl rfl⟩
    | false => exact ⟨G0, H0, G1, S1, s1, h1⟩⟩
/-- a block, then what follows it -/
def thenM {J C L : Type} (m : M (Fl J L)) (f : J → M (Fl C L)) : M (Fl C L) := m.bind fun z => match z with
  | .nx c => f c
  | .ret d => M.pure (.ret d)
  | .brk l => M.pure (.brk l)
  | .cnt l => M.pure (.cnt l)
def Ct.to {C L J : Type} (k : Ct C L) (emb : J → List Slot) : Ct J L := ⟨k.W, k.x, emb, k.embL, k.R⟩
theorem okS.then {K : PySem.W.Frag} {mg : Str → Option Value} {G0 : Gh} {H0 : Hp} {D D' : Ends} {S : MS} {J : Type} {emb : J → List Slot} {m : M (Fl J L)} {f : J → M (Fl C L)} {G1 : Gh} {H1 : Hp} (h : okS K mg k G0 H0 G1 H1 D (thenM m f S)) (e0 : ∀ c S1 σ G H, SI K mg G0 H0 G H σ (emb c) S1 → LR G1 H1 G H → okS K mg k G0 H0 G H D (f c S1) → D'.nx σ H)
    (e1 : D'.rt = D.rt) (e2 : D'.bk = D.bk) (e3 : D'.ct = D.ct) : okS K mg (k.to emb) G0 H0 G1 H1 D' (m S) := by
  unfold thenM M.bind at h
  cases q : m S with
  | ok f S1 =>
    rw [q] at h
    cases f with
    | nx c => intro σ G H si lr; exact e0 c S1 σ G H si lr (okS.from h lr)
    | ret d => intro v G H; rw [e1]; exact h v G H
    | brk l => intro σ G H; rw [e2]; exact h σ G H
    | cnt l => intro σ G H; rw [e3]; exact h σ G H
  | err x S1 => rw [q] at h; exact h
  | bad => rw [q] at h; exact h
theorem sd_ifJ {J : Type} (emb : J → List Slot) {tc : M Bool} {ma mb : M (Fl J L)} {f : J → M (Fl C L)} {sa sb : List Stmt} (w : Wk ρ k.x) (hc : ET X k.W ρ c tc) (ha : SD X (k.to emb) ρ sa ma) (hb : SD X (k.to emb) ρ sb mb) (hr : ∀ c, SD X k (emb c) rest (f c)) :
    SD X k ρ (.If c sa sb pos :: rest) (thenM (ifM tc ma mb) f) := by
  let u : TS := fun D σ H => ∃ c, tS X.K X.mg k (emb c) (f c) D σ H
  have hu : PSs X rest u := ⟨fun pins s σ H D I ⟨d, q⟩ => (hr d).run pins s σ H D I q⟩
  refine PSs.imp (pss_cons (ps_if hc ha hb) hu) fun D σ H ⟨G0, H0, G, S, si, h⟩ => ?_
  have h' : okS X.K X.mg (k.to emb) G0 H0 G H { D with nx := u D } (ifM tc ma mb S) := okS.then h (fun c S1 σ G H si _ h => ⟨c, G0, H0, G, S1, si, h⟩) rfl rfl rfl
  exact ⟨G0, H0, G, S, si, okS.bind (k := k.to emb) h' w fun G1 H1 S1 v d s1 r1 h1 => by
    cases r1
    cases v with
    | true => exact ⟨G0, H0, G1, S1, s1, h1⟩
    | false => exact ⟨G0, H0, G1, S1, s1, h1⟩⟩
end
end Dl

namespace Dl
open PySem L2

/-! ### what is walked -/
/-- J gives the items ds, one by one, as long as what does not change stands -/
def IsW (K : PySem.W.Frag) (J : It) (ds : List D) (G : Gh) (H : Hp) : Prop := ∃ (Gd : Hp → Prop) (Y : Nat → Hp → V → Hp → Prop), Walk J ds.length Gd Y ∧ (∀ G1 H1, LR G H G1 H1 → Gd H1) ∧
  ∀ i G1 H1 x H2, i < ds.length → LR G H G1 H1 → Y i H1 x H2 → (H2 = H1 ∨ ∃ p o, H1 p = none ∧ H2 = upd H1 p o) ∧ ∃ d, ds[i]? = some d ∧ Rep K G1 H2 x d
section
variable (K : PySem.W.Frag) (mg : Str → Option Value) (W : WX)
def okI (G0 : Gh) (H0 : Hp) (G : Gh) (H : Hp) (σ : L2.St) (ρ : List Slot) (R : It → Hp → Prop) : Res (List D) → Prop
  | .ok ds S => ∀ J G' H', SI K mg G0 H0 G' H' σ ρ S → FR G H G' H' → IsW K J ds G' H' → R J H'
  | .err e S => ∀ cls da G' H', SI K mg G0 H0 G' H' σ ρ S → FR G H G' H' → ErrRep K mg G' H' e cls da → W cls da σ H'
  | .bad => False
def tI (ρ : List Slot) (m : M (List D)) : TI := fun σ H R => ∃ G0 H0 G S, SI K mg G0 H0 G H σ ρ S ∧ okI K mg W G0 H0 G H σ ρ R (m S)
end
def ID (X : Cx) (W : WX) (ρ : List Slot) (tg iter : Expr) (m : M (List D)) : Prop := PI X tg iter (tI X.K X.mg W ρ m)
theorem PI.imp {X : Cx} {tg it : Expr} {t u : TI} (h : PI X tg it t) (k : ∀ σ H R, u σ H R → t σ H R) : PI X tg it u := ⟨fun pins s σ H R I q => h.run pins s σ H R I (k σ H R q)⟩
section
variable {K : PySem.W.Frag} {mg : Str → Option Value} {W : WX} {α β : Type} {R : Gh → Hp → β → α → Prop} {G0 G G1 : Gh} {H0 H H1 : Hp} {σ : L2.St} {ρ : List Slot} {Q : β → Hp → Prop} {Q' : It → Hp → Prop} {S : MS}
theorem okI.from {r : Res (List D)} (h : okI K mg W G0 H0 G H σ ρ Q' r) (f : FR G H G1 H1) : okI K mg W G0 H0 G1 H1 σ ρ Q' r := by
  cases r with
  | ok a S => exact fun J G' H' s r q => h J G' H' s (f.trans r) q
  | err e S => exact fun cls da G' H' s r => h cls da G' H' s (f.trans r)
  | bad => exact h
theorem okI.bind {m : M α} {f : α → M (List D)} (h : okI K mg W G0 H0 G H σ ρ Q' (m.bind f S))
    (k : ∀ G1 H1 S1 b a, SI K mg G0 H0 G1 H1 σ ρ S1 → FR G H G1 H1 → R G1 H1 b a → okI K mg W G0 H0 G1 H1 σ ρ Q' (f a S1) → Q b H1) : okG K mg W R G0 H0 G H σ ρ Q (m S) := by
  unfold M.bind at h
  cases e : m S with
  | ok a S1 =>
    rw [e] at h
    exact fun b G' H' s r q => k G' H' S1 b a s r q (okI.from h r)
  | err x S1 => rw [e] at h; exact h
  | bad => rw [e] at h; exact h
theorem okI.here {J : It} {ds : List D} (h : okI K mg W G0 H0 G H σ ρ Q' (.ok ds S)) (s : SI K mg G0 H0 G H σ ρ S) (w : IsW K J ds G H) : Q' J H := h J G H s (.refl G H) w
theorem isW_list {a : Addr} {xs : List V} {ds : List D} (h : H a = some (.lst xs)) (n : ¬ G.mu a) (t : Reps K G H xs ds) : IsW K (Itl K a) ds G H := by
  refine ⟨fun H => SqL K H a xs, YAt xs, by rw [← t.length]; exact walk_list, fun G1 H1 r => SqL.of (r.keep _ _ h (.inl n)), fun i G1 H1 x H2 _ r y => ?_⟩
  obtain ⟨e, q⟩ := y
  subst e
  obtain ⟨d, hd, rd⟩ := (t.lr r).getV q
  exact ⟨.inl rfl, d, hd, rd⟩
theorem isW_tup {a : Addr} {xs : List V} {ds : List D} (h : SqT K H a xs) (t : Reps K G H xs ds) : IsW K (Itt K a) ds G H := by
  refine ⟨fun H => SqT K H a xs, YAt xs, by rw [← t.length]; exact walk_tup, fun G1 H1 r => r.sqT h, fun i G1 H1 x H2 _ r y => ?_⟩
  obtain ⟨e, q⟩ := y
  subst e
  obtain ⟨d, hd, rd⟩ := (t.lr r).getV q
  exact ⟨.inl rfl, d, hd, rd⟩
theorem isW_fn {J : It} {n : Nat} {f : Nat → V} {g : Nat → D} (w : Walk J n (fun _ => True) (YFn f)) (h : ∀ i G H, Rep K G H (f i) (g i)) : IsW K J ((List.range n).map g) G H := by
  refine ⟨fun _ => True, YFn f, by rw [List.length_map, List.length_range]; exact w, fun _ _ _ => trivial, fun i G1 H1 x H2 hi r y => ?_⟩
  obtain ⟨e, q⟩ := y
  subst e q
  rw [List.length_map, List.length_range] at hi
  exact ⟨.inl rfl, g i, by rw [List.getElem?_map, List.getElem?_range hi]; rfl, h i _ _⟩
/-- pairs that are made on the way -/
theorem isW_pair {J : It} {n : Nat} {Gd : Hp → Prop} {xs ys : Nat → Option V} {ds es : List D} (w : Walk J n Gd (YPair xs ys)) (hG : ∀ G1 H1, LR G H G1 H1 → Gd H1) (hn : (ds.zip es).length = n)
    (hx : ∀ i x G1 H1, LR G H G1 H1 → i < n → xs i = some x → ∃ d, ds[i]? = some d ∧ Rep K G1 H1 x d) (hy : ∀ i x G1 H1, LR G H G1 H1 → i < n → ys i = some x → ∃ d, es[i]? = some d ∧ Rep K G1 H1 x d) :
    IsW K J ((ds.zip es).map fun p => .tup [p.1, p.2]) G H := by
  refine ⟨Gd, YPair xs ys, by rw [List.length_map, hn]; exact w, hG, fun i G1 H1 v H2 hi r y => ?_⟩
  rw [List.length_map, hn] at hi
  obtain ⟨T, x, z, e1, e2, e3, e4, e5⟩ := y
  subst e1 e3
  obtain ⟨d, hd, rd⟩ := hx i x G1 H1 r hi e4
  obtain ⟨e, he, re⟩ := hy i z G1 H1 r hi e5
  refine ⟨.inr ⟨T, _, e2, rfl⟩, .tup [d, e], ?_, rep_tup e2 (by show 2 ≤ sizeLine; rw [sizeLine_eq]; decide) (.cons rd (.cons re .nil))⟩
  rw [List.getElem?_map, show (ds.zip es)[i]? = some (d, e) from List.getElem?_zip_eq_some.mpr ⟨hd, he⟩]
  rfl
end
section
variable {X : Cx} {W : WX} {ρ : List Slot} {a b c e tg : Expr} {es : List Expr} {ma mb mc m : M D} {ms : List (M D)} {pos p p2 : Pos}
/-- a list or a tuple -/
def iSeq (K : PySem.W.Frag) (tl : TE) : TI := fun σ H R => tl σ H fun x H1 => ∃ a, x = .ref a ∧ (((∃ xs, SqL K H1 a xs) ∧ R (Itl K a) H1) ∨ ((∃ xs, SqT K H1 a xs) ∧ R (Itt K a) H1))
theorem pi_seq {l : Expr} {tl : TE} (hl : PE X l tl) : PI X tg l (iSeq X.K tl) := by
  constructor
  intro pins s σ H R I h
  refine wpAny_mono (hl.run pins s σ H _ I h) ?_ (fun _ _ z => z)
  rintro v t ⟨x, H1, J, rx, a, e, w⟩
  subst e
  cases rx
  -- the iterator is the object that is made now
  have fresh : ∀ b ∈ [t.heap.objs.size], FpOk X pins H1 b := fun b hb => by
    cases List.mem_singleton.mp hb
    exact J.fpOk (Nat.le_refl t.heap.objs.size) (J.hok.fresh (Nat.le_refl t.heap.objs.size))
  have kept : ∀ (o : Obj) (b : Addr) (u : Obj), t.heap.get? b = some u → (t.heap.push o).get? b = some u := fun o b u z => Heap.get?_push_of_some o z
  rcases w with ⟨⟨xs, sq⟩, r⟩ | ⟨⟨xs, sq⟩, r⟩
  · obtain ⟨is, _, p, _⟩ := J.list sq
    exact wpAny_pyIter_list p.isList ⟨_, _, _, _, H1, rfl, J.kept (t' := t.toks) (kept _), turn_list a _, ⟨_, Heap.get?_push_size _ rfl, rfl, rfl⟩, fresh, r⟩
  · obtain ⟨is, _, p, _⟩ := J.tuple sq
    exact wpAny_pyIter_tuple (show Heap.IsTuple t.heap a is.toArray from p) ⟨_, _, _, _, H1, rfl, J.kept (t' := t.toks) (kept _), turn_tuple a _, ⟨_, Heap.get?_push_size _ rfl, rfl, rfl⟩, fresh, r⟩
/-- the items of a list that does not change, or of a tuple -/
def items : D → M (List D)
  | .lst ds => M.pure ds
  | .tup ds => M.pure ds
  | _ => M.bad
theorem id_seq (h : ED X W ρ e m) : ID X W ρ tg e (m.bind items) := PI.imp (pi_seq h) fun σ H R ⟨G0, H0, G, S, si, h⟩ => ⟨G0, H0, G, S, si, okI.bind h fun G1 H1 S1 x d s1 f1 r1 h1 => by
  cases r1 with
  | lst e z n t => exact ⟨_, rfl, .inl ⟨⟨_, SqL.of e⟩, okI.here h1 s1 (isW_list e n t)⟩⟩
  | tup e z t => exact ⟨_, rfl, .inr ⟨⟨_, e⟩, okI.here h1 s1 (isW_tup e t)⟩⟩
  | _ => exact h1.elim⟩
def rng1i (j : Int) : M (List D) := if decide (-(2 ^ 62) ≤ j) && decide (j < 2 ^ 62) then M.pure ((List.range j.toNat).map fun (i : Nat) => .int i) else M.bad
def rng1 : D → M (List D)
  | .int j => rng1i j
  | _ => M.bad
theorem id_rng1 (hm : X.mg "range" = none) (ha : ED X W ρ a m) (hg : Gl X "range" := by rfl) (hs : starEach [a] X.env = [(false, eval a X.env)] := by rfl) : ID X W ρ tg (.Call (.Name "range" p) [a] [] pos) (m.bind rng1) :=
  PI.imp (pi_range1 hg hm (pa_cons ha pa_nil hs) hs) fun σ H R ⟨G0, H0, G, S, si, h⟩ => ⟨G0, H0, G, S, si, okI.bind h fun G1 H1 S1 x d s1 f1 r1 h1 => by
    cases r1 with
    | int j =>
      have h1 : okI X.K X.mg W G0 H0 G1 H1 σ ρ R (rng1i j S1) := h1
      unfold rng1i at h1
      by_cases z : (decide (-(2 ^ 62) ≤ j) && decide (j < 2 ^ 62)) = true
      · rw [if_pos z] at h1
        simp only [Bool.and_eq_true, decide_eq_true_eq] at z
        refine ⟨j, rfl, z.1, z.2, okI.here h1 s1 (isW_fn (walk_range (lo := 0) (n := j.toNat)) fun i G H => ?_)⟩
        rw [Int.zero_add]
        exact .int _
      · rw [if_neg z] at h1
        exact h1.elim
    | _ => exact h1.elim⟩
def rng2i (i j : Int) : M (List D) := if decide (-(2 ^ 62) ≤ i) && decide (i < 2 ^ 62) && decide (-(2 ^ 62) ≤ j) && decide (j < 2 ^ 62) then M.pure ((List.range (j - i).toNat).map fun (n : Nat) => .int (i + n)) else M.bad
def rng2 : List D → M (List D)
  | [.int i, .int j] => rng2i i j
  | _ => M.bad
theorem id_rng2 (hm : X.mg "range" = none) (ha : EA X W ρ [a, b] (argsM ms)) (hg : Gl X "range" := by rfl) (hs : starEach [a, b] X.env = [(false, eval a X.env), (false, eval b X.env)] := by rfl) (hs2 : starEach [b] X.env = [(false, eval b X.env)] := by rfl) : ID X W ρ tg (.Call (.Name "range" p) [a, b] [] pos) ((argsM ms).bind rng2) :=
  PI.imp (pi_range2 hg hm ha hs hs2) fun σ H R ⟨G0, H0, G, S, si, h⟩ => ⟨G0, H0, G, S, si, okI.bind h fun G1 H1 S1 xs ds s1 f1 r1 h1 => by
    cases r1 with
    | nil => exact h1.elim
    | cons r1 t =>
      cases t with
      | nil => cases r1 <;> exact h1.elim
      | cons r2 t =>
        cases t with
        | cons _ _ => cases r1 <;> cases r2 <;> exact h1.elim
        | nil =>
          cases r1 with
          | int i =>
            cases r2 with
            | int j =>
              have h1 : okI X.K X.mg W G0 H0 G1 H1 σ ρ R (rng2i i j S1) := h1
              unfold rng2i at h1
              by_cases z : (decide (-(2 ^ 62) ≤ i) && decide (i < 2 ^ 62) && decide (-(2 ^ 62) ≤ j) && decide (j < 2 ^ 62)) = true
              · rw [if_pos z] at h1
                simp only [Bool.and_eq_true, decide_eq_true_eq] at z
                exact ⟨i, j, rfl, ⟨z.1.1.1, z.1.1.2, z.1.2, z.2⟩, okI.here h1 s1 (isW_fn (walk_range (lo := i) (n := (j - i).toNat)) fun n G H => .int _)⟩
              · rw [if_neg z] at h1
                exact h1.elim
            | _ => exact h1.elim
          | _ => exact h1.elim⟩
def enumD (ds : List D) : List D := (((List.range ds.length).map fun (i : Nat) => D.int i).zip ds).map fun p => .tup [p.1, p.2]
def enumM : D → M (List D)
  | .lst ds => M.pure (enumD ds)
  | _ => M.bad
theorem id_enum {elts : List Expr} {kk : Nat} (hm : X.mg "enumerate" = none) (ha : ED X W ρ a m) (hg : Gl X "enumerate" := by rfl) (hs : starEach [a] X.env = [(false, eval a X.env)] := by rfl) : ID X W ρ (.Tuple elts kk p2) (.Call (.Name "enumerate" p) [a] [] pos) (m.bind enumM) :=
  PI.imp (pi_enum hg hm (pa_cons ha pa_nil hs) hs) fun σ H R ⟨G0, H0, G, S, si, h⟩ => ⟨G0, H0, G, S, si, okI.bind h fun G1 H1 S1 x d s1 f1 r1 h1 => by
    cases r1 with
    | lst e z n t =>
      rename_i a xs ds
      refine ⟨a, xs, rfl, SqL.of e, okI.here h1 s1 ?_⟩
      refine isW_pair (n := xs.length) walk_enum (fun G1 H1 r => SqL.of (r.keep _ _ e (.inl n))) (by rw [List.length_zip, List.length_map, List.length_range, t.length]; exact Nat.min_self _) (fun i x G1 H1 r hi q => ?_) (fun i x G1 H1 r hi q => (t.lr r).getV q)
      cases q
      rw [t.length] at hi
      exact ⟨.int i, by rw [List.getElem?_map, List.getElem?_range hi]; rfl, .int _⟩
    | _ => exact h1.elim⟩
def zipD (ds es : List D) : List D := (ds.zip es).map fun p => .tup [p.1, p.2]
def zipM : List D → M (List D)
  | [.lst ds, .lst es] => M.pure (zipD ds es)
  | [.tup ds, .tup es] => M.pure (zipD ds es)
  | _ => M.bad
theorem walk_zipT {K : PySem.W.Frag} {a b : Addr} {xs ys : List V} {n : Nat} (hn : n = min xs.length ys.length) : Walk (RZ.ItzT K a b) n (fun H => SqT K H a xs ∧ SqT K H b ys) (YPair (fun i => xs[i]?) (fun i => ys[i]?)) := by
  subst hn
  constructor
  · intro i _ lt sq
    obtain ⟨l1, l2⟩ : i < xs.length ∧ i < ys.length := ⟨by omega, by omega⟩
    exact ⟨xs, ys, xs[i]'l1, ys[i]'l2, sq.1, sq.2, List.getElem?_eq_getElem l1, List.getElem?_eq_getElem l2⟩
  · exact fun _ sq => ⟨xs, ys, sq.1, sq.2, by omega⟩
  · rintro i _ _ _ _ sq ⟨T, x, y, c1, c2, c3, c4, c5⟩
    exact ⟨T, x, y, c1, c2, c3, c4 xs sq.1, c5 ys sq.2⟩
theorem id_zip {elts : List Expr} {kk : Nat} (hm : X.mg "zip" = none) (ha : EA X W ρ [a, b] (argsM ms)) (hg : Gl X "zip" := by rfl) (hs : starEach [a, b] X.env = (false, eval a X.env) :: starEach [b] X.env := by rfl) (hpl : (backTo pos (starEach [b] X.env)).any (·.1) = false := by rfl) :
    ID X W ρ (.Tuple elts kk p2) (.Call (.Name "zip" p) [a, b] [] pos) ((argsM ms).bind zipM) :=
  PI.imp (RZ.pi_zipA hg hm ha hs hpl) fun σ H R ⟨G0, H0, G, S, si, h⟩ => ⟨G0, H0, G, S, si, okI.bind h fun G1 H1 S1 xs ds s1 f1 r1 h1 => by
    cases r1 with
    | nil => exact h1.elim
    | cons r1 t =>
      cases t with
      | nil => cases r1 <;> exact h1.elim
      | cons r2 t =>
        cases t with
        | cons _ _ => cases r1 <;> cases r2 <;> exact h1.elim
        | nil =>
          cases r1 with
          | lst e1 z1 n1 t1 =>
            cases r2 with
            | lst e2 z2 n2 t2 =>
              refine ⟨_, _, _, _, rfl, .inl ⟨SqL.of e1, SqL.of e2, okI.here h1 s1 ?_⟩⟩
              exact isW_pair (walk_zip rfl) (fun G1 H1 r => ⟨SqL.of (r.keep _ _ e1 (.inl n1)), SqL.of (r.keep _ _ e2 (.inl n2))⟩) (by rw [List.length_zip, t1.length, t2.length]) (fun i x G1 H1 r hi q => (t1.lr r).getV q) (fun i x G1 H1 r hi q => (t2.lr r).getV q)
            | _ => exact h1.elim
          | tup e1 z1 t1 =>
            cases r2 with
            | tup e2 z2 t2 =>
              refine ⟨_, _, _, _, rfl, .inr ⟨e1, e2, okI.here h1 s1 ?_⟩⟩
              exact isW_pair (walk_zipT rfl) (fun G1 H1 r => ⟨r.sqT e1, r.sqT e2⟩) (by rw [List.length_zip, t1.length, t2.length]) (fun i x G1 H1 r hi q => (t1.lr r).getV q) (fun i x G1 H1 r hi q => (t2.lr r).getV q)
            | _ => exact h1.elim
          | _ => cases r2 <;> exact h1.elim⟩

/-! ### targets -/
/-- what is stored at a target: u takes the item apart, sl tells the slots -/
def TgD (K : PySem.W.Frag) (mg : Str → Option Value) (g : TG) (u : D → Option (List D)) (sl : List Slot → List D → List Slot) (is : List Nat) : Prop :=
  ∀ (G0 : Gh) (H0 : Hp) (G : Gh) (H : Hp) (σ : L2.St) (ρ : List Slot) (S : MS) (v : V) (d : D) (ds : List D) (Q : L2.St → Hp → Prop), SI K mg G0 H0 G H σ ρ S → Rep K G H v d → u d = some ds → (∀ σ', SI K mg G0 H0 G H σ' (sl ρ ds) S → (∀ vs, (∀ i ∈ is, i ∈ vs) → wipe σ' vs = wipe σ vs) → Q σ' H) → g v σ H Q
def TgsD (K : PySem.W.Frag) (mg : Str → Option Value) (g : TGs) (u : List D → Option (List D)) (sl : List Slot → List D → List Slot) (is : List Nat) : Prop :=
  ∀ (G0 : Gh) (H0 : Hp) (G : Gh) (H : Hp) (σ : L2.St) (ρ : List Slot) (S : MS) (v : List V) (d : List D) (ds : List D) (Q : L2.St → Hp → Prop), SI K mg G0 H0 G H σ ρ S → Reps K G H v d → u d = some ds → (∀ σ', SI K mg G0 H0 G H σ' (sl ρ ds) S → (∀ vs, (∀ i ∈ is, i ∈ vs) → wipe σ' vs = wipe σ vs) → Q σ' H) → g v σ H Q
def u1 : D → Option (List D) := fun d => some [d]
def sl1 (i : Nat) : List Slot → List D → List Slot
  | ρ, [d] => ρ.set i (.val d)
  | ρ, _ => ρ
theorem wipe_set {σ : L2.St} {i : Nat} {x : Option V} : ∀ {vs : List Nat}, i ∈ vs → wipe (σ.set i x) vs = wipe σ vs
  | [], h => absurd h (by simp)
  | v :: vs, h => by
    unfold wipe
    by_cases q : i ∈ vs
    · rw [wipe_set q]
    · have e : i = v := by
        cases List.mem_cons.mp h with
        | inl y => exact y
        | inr y => exact absurd y q
      subst e
      have z : ∀ ws : List Nat, i ∉ ws → wipe (σ.set i x) ws = (wipe σ ws).set i x := by
        intro ws
        induction ws with
        | nil => intro _; rfl
        | cons w ws ih =>
          intro hn
          have h1 : i ≠ w := fun e => hn (by rw [e]; exact List.mem_cons_self)
          have h2 : i ∉ ws := fun e => hn (List.mem_cons_of_mem _ e)
          unfold wipe
          rw [ih h2, List.set_comm _ _ (Ne.symm h1)]
      rw [z vs q, List.set_set]
theorem tg_name {K : PySem.W.Frag} {mg : Str → Option Value} (i : Nat) : TgD K mg (gName i) u1 (sl1 i) [i] := fun G0 H0 G H σ ρ S v d ds Q si r e k => by
  cases e
  exact k _ (si.set i r) fun vs h => wipe_set (h i List.mem_cons_self)
/-- names in a row: n of them -/
def uN (n : Nat) : List D → Option (List D) := fun ds => if ds.length = n then some ds else none
def slN : List Nat → List Slot → List D → List Slot
  | i :: is, ρ, d :: ds => slN is (ρ.set i (.val d)) ds
  | _, ρ, _ => ρ
def gN : List Nat → TGs
  | [] => gNil
  | i :: is => gCons (gName i) (gN is)
theorem tgs_names {K : PySem.W.Frag} {mg : Str → Option Value} : ∀ is : List Nat, TgsD K mg (gN is) (uN is.length) (slN is) is
  | [] => fun G0 H0 G H σ ρ S v d ds Q si r e k => by
    cases r with
    | nil =>
      cases e
      exact ⟨rfl, k _ si fun _ _ => rfl⟩
    | cons _ _ => cases e
  | i :: is => fun G0 H0 G H σ ρ S v d ds Q si r e k => by
    cases r with
    | nil => cases e
    | cons r t =>
      rename_i v d vs ds'
      unfold uN at e
      by_cases hl : (d :: ds').length = (i :: is).length
      · rw [if_pos hl] at e
        cases e
        refine ⟨v, vs, rfl, ?_⟩
        exact tgs_names is G0 H0 G H _ _ S vs ds' ds' Q (si.set i r) t (by unfold uN; rw [if_pos (by simpa using hl)]) fun σ' s' hw => k σ' s' fun vs h => (hw vs fun j hj => h j (List.mem_cons_of_mem _ hj)).trans (wipe_set (h i List.mem_cons_self))
      · rw [if_neg hl] at e; cases e
def uT (n : Nat) : D → Option (List D)
  | .tup ds => uN n ds
  | _ => none
theorem tg_tup {K : PySem.W.Frag} {mg : Str → Option Value} (is : List Nat) : TgD K mg (gTup K is.length (gN is)) (uT is.length) (slN is) is := fun G0 H0 G H σ ρ S v d ds Q si r e k => by
  cases r with
  | tup h z t =>
    refine ⟨_, _, rfl, h, ?_, tgs_names is G0 H0 G H σ ρ S _ _ ds Q si t e k⟩
    rename_i a xs es
    rw [t.length]
    have e : uN is.length es = some ds := e
    unfold uN at e
    by_cases hl : es.length = is.length
    · exact hl
    · rw [if_neg hl] at e; cases e
  | _ => cases e
/-- the names' targets -/
inductive TNm (X : Cx) : List Expr → List Nat → Prop
  | nil : TNm X [] []
  | cons {x : Str} {p : Pos} {i : Nat} {es : List Expr} {is : List Nat} : PG X (.Name x p) (gName i) → (assignEach (.Name x p :: es) X.env).map (·.2) = assign (.Name x p) X.env :: (assignEach es X.env).map (·.2) → TNm X es is → TNm X (.Name x p :: es) (i :: is)
theorem TNm.pgs : ∀ {es : List Expr} {is : List Nat}, TNm X es is → PGs X es (gN is)
  | _, _, .nil => pgs_nil
  | _, _, .cons h hs t => pgs_cons h (TNm.pgs t) hs

/-! ### for -/
def forM {C L : Type} (body : C → D → M (Fl C C)) : List D → C → M (Fl C L)
  | [], c => M.pure (.nx c)
  | d :: ds, c => (body c d).bind fun z => match z with
    | .nx c' => forM body ds c'
    | .cnt c' => forM body ds c'
    | .brk c' => M.pure (.nx c')
    | .ret v => M.pure (.ret v)
def unM {α : Type} (u : D → Option (List D)) (f : List D → M α) (d : D) : M α := (ofOpt (u d)).bind f
theorem LR.new {G : Gh} {H : Hp} {p : Addr} {o : HO} (h : H p = none) : LR G H G (upd H p o) := (FR.alloc h).lr
theorem sd_for {C L J : Type} {k : Ct C L} (emb : J → List Slot) (c0 : J) {iter : Expr} {body rest : List Stmt} {mi : M (List D)} {g : TG} {u : D → Option (List D)} {sl : List Slot → List D → List Slot} {mb : J → List D → M (Fl J J)} {f : J → M (Fl C L)}
    (w : Wk ρ k.x) (w0 : Wk ρ (emb c0)) (hp : PassesOwn (model X.prog X.w) X.A X.env X.xe) (hi : ID X k.W ρ tg iter mi) (hg : PG X tg g) {is : List Nat} (ht : TgD X.K X.mg g u sl is)
    (hb : ∀ c ds, SD X ⟨k.W, k.x, emb, emb, k.R⟩ (sl (emb c) ds) body (mb c ds)) (hr : ∀ c, SD X k (emb c) rest (f c)) (hc : X.calm = true := by rfl) (hs : ∀ x, foldedSetIterable iter X.env x = pure x := by intro _; rfl) :
    SD X k ρ (.For tg iter body [] pos :: rest) (mi.bind fun ds => thenM (forM (fun c => unM u (mb c)) ds c0) f) := by
  let ub : TS := fun D σ H => ∃ c ds, tS X.K X.mg ⟨k.W, k.x, emb, emb, k.R⟩ (sl (emb c) ds) (mb c ds) D σ H
  have hub : PSs X body ub := ⟨fun pins s σ H D I ⟨c, d, q⟩ => (hb c d).run pins s σ H D I q⟩
  let ur : TS := fun D σ H => ∃ c, tS X.K X.mg k (emb c) (f c) D σ H
  have hur : PSs X rest ur := ⟨fun pins s σ H D I ⟨c, q⟩ => (hr c).run pins s σ H D I q⟩
  refine PSs.imp (pss_cons (ps_for hp hc hi hg hub hs) hur) fun D σ H ⟨G0, H0, G, S, si, h⟩ => ⟨G0, H0, G, S, si, ?_⟩
  unfold M.bind at h
  cases e : mi S with
  | err x S1 =>
    rw [e] at h
    exact fun cls da G' H' s f r => h cls da σ G' H' (s.weak w) f.lr r
  | bad => rw [e] at h; exact h
  | ok ds S1 =>
    rw [e] at h
    intro J1 G1 H1 s1 f1 iw
    have h1 : okS X.K X.mg k G0 H0 G1 H1 D (thenM (forM (fun c => unM u (mb c)) ds c0) f S1) := okS.from h f1.lr
    obtain ⟨Gd, Y, wk, hG, hY⟩ := iw
    let Pv : Nat → L2.St → Hp → Prop := fun i σ' H' => ∃ c G' S', SI X.K X.mg G0 H0 G' H' σ' (emb c) S' ∧ LR G1 H1 G' H' ∧ okS X.K X.mg k G0 H0 G' H' D (thenM (forM (fun c => unM u (mb c)) (ds.drop i) c) f S')
    refine for_it wk Pv ⟨c0, G1, S1, s1.weak w0, .refl _ _, h1⟩
      (fun i σ' H' _ ⟨c, G', S', _, lr, _⟩ => hG G' H' lr) ?_ ?_
    · rintro i x σ' H' H2 hi ⟨c, G', S', s', lr, h'⟩ y
      obtain ⟨hH, d, hd, rd⟩ := hY i G' H' x H2 hi lr y
      have s2 : SI X.K X.mg G0 H0 G' H2 σ' (emb c) S' := by
        rcases hH with e | ⟨p, o, hp, e⟩
        · rw [e]; exact s'
        · rw [e]; exact s'.alloc hp
      have l2 : LR G' H' G' H2 := by
        rcases hH with e | ⟨p, o, hp, e⟩
        · rw [e]; exact .refl _ _
        · rw [e]; exact LR.new hp
      have ed : ds.drop i = d :: ds.drop (i + 1) := by
        obtain ⟨hi', e⟩ := List.getElem?_eq_some_iff.mp hd
        rw [← e]
        exact List.drop_eq_getElem_cons hi'
      rw [ed] at h'
      have h2 := okS.from h' l2
      have h3 : okS X.K X.mg ⟨k.W, k.x, emb, emb, k.R⟩ G0 H0 G' H2 { D with nx := Pv (i + 1), ct := Pv (i + 1), bk := ur D } (unM u (mb c) d S') := by
        unfold thenM forM M.bind at h2
        cases q : unM u (mb c) d S' with
        | ok z S3 =>
          rw [q] at h2
          cases z with
          | nx c' => exact fun σ'' G'' H'' s'' l'' => ⟨c', G'', S3, s'', (lr.trans l2).trans l'', okS.from h2 l''⟩
          | cnt c' => exact fun σ'' G'' H'' s'' l'' => ⟨c', G'', S3, s'', (lr.trans l2).trans l'', okS.from h2 l''⟩
          | brk c' => exact fun σ'' G'' H'' s'' l'' => ⟨c', G0, H0, G'', S3, s'', okS.from h2 l''⟩
          | ret v => exact h2
        | err x S3 => rw [q] at h2; exact h2
        | bad => rw [q] at h2; exact h2
      unfold unM at h3
      cases q : u d with
      | none => rw [q] at h3; exact h3.elim
      | some us =>
        rw [q] at h3
        exact ht G0 H0 G' H2 σ' (emb c) S' x d us _ s2 rd q fun σ3 s3 _ => ⟨c, us, G0, H0, G', S', s3, h3⟩
    · rintro σ' H' ⟨c, G', S', s', lr, h'⟩
      rw [List.drop_length] at h'
      exact ⟨c, G0, H0, G', S', s', h'⟩
end
end Dl

namespace Dl
open PySem L2

/-! ### a list of a frame's own changes -/
section
variable {K : PySem.W.Frag} {mg : Str → Option Value} {G G0 G1 : Gh} {H H0 H1 : Hp} {S : MS} {σ : L2.St} {ρ : List Slot} {l : Addr} {o o' : HO}
theorem FR.putO (r : FR G0 H0 G H) (h : H0 l = none) : FR G0 H0 G (upd H l o') where
  pre := r.pre
  sa := r.sa
  sb := r.sb
  keep := fun b u e q => by rw [upd_ne (ne_of_none e h)]; exact r.keep b u e q
  cnew := r.cnew
  onew := r.onew
  oold := r.oold
  there := fun b u e => by
    obtain ⟨u', q⟩ := r.there b u e
    exact ⟨u', by rw [upd_ne (ne_of_none e h)]; exact q⟩
theorem Wf.putO (w : Wf K mg G H S) (hl : H l = some o) (hf : ¬ Fix o) (hO : G.O l) (hc : ¬ G.cell l) : Wf K mg G (upd H l o') S where
  len := w.len
  nd := w.nd
  cell := fun i c a h1 h2 => by
    have q := w.cell i c a h1 h2
    have ne : a ≠ l := fun e => hc (.inl (by rw [← e]; exact List.mem_of_getElem? h2))
    have r : LR G H G (upd H l o') := .put hl hf (.inr hO)
    cases c with
    | lst ds => obtain ⟨xs, e, z, t⟩ := q; exact ⟨xs, by rw [upd_ne ne]; exact e, z, t.lr r⟩
    | dic kvs => obtain ⟨xs, e, z, t⟩ := q; exact ⟨xs, by rw [upd_ne ne]; exact e, z, t.lr r⟩
    | ins c fs => obtain ⟨C, dx, gs, m, e, t⟩ := q; exact ⟨C, dx, gs, m, by rw [upd_ne ne]; exact e, t.lr r⟩
  live := fun b h => by
    obtain ⟨u, e⟩ := w.live b h
    exact (LR.put (o' := o') hl hf (.inr hO)).there b u e
  ha := by rw [upd_ne fun e => hc (.inr (.inl e.symm))]; exact w.ha
  hb := by rw [upd_ne fun e => hc (.inr (.inr e.symm))]; exact w.hb
  sab := w.sab
  na := w.na
  nb := w.nb
  zs := w.zs
theorem SI.putO (s : SI K mg G0 H0 G H σ ρ S) (hl : H l = some o) (hf : ¬ Fix o) (hO : G.O l) (hc : ¬ G.cell l) (h0 : H0 l = none) (n : ∀ (i : Nat) (ds : List D), ρ[i]? = some (.own ds) → σ[i]? ≠ some (some (V.ref l))) : SI K mg G0 H0 G (upd H l o') σ ρ S where
  fr := s.fr.putO h0
  live0 := s.live0
  wf := s.wf.putO hl hf hO hc
  len := s.len
  env := fun i x h => by
    have q := s.env i x h
    have r : LR G H G (upd H l o') := .put hl hf (.inr hO)
    cases x with
    | any => trivial
    | val d => obtain ⟨v, e, t⟩ := q; exact ⟨v, e, t.lr r⟩
    | own ds =>
      obtain ⟨m, xs, e, hm, z, t, ho, hc', h0'⟩ := q
      refine ⟨m, xs, e, ?_, z, t.lr r, ho, hc', h0'⟩
      rw [upd_ne fun e' => ?_]
      · exact hm
      · subst e'
        exact n i ds h e
    | exc a dd f d => obtain ⟨e, v, hd, n, t⟩ := q; exact ⟨e, v, r.keep _ _ hd (.inl n), n, t.lr r⟩
  apart := s.apart
def wipeR (ρ : List Slot) : List Nat → List Slot
  | [] => ρ
  | v :: vs => (wipeR ρ vs).set v .any
theorem SI.wipe (s : SI K mg G0 H0 G H σ ρ S) : ∀ vs : List Nat, SI K mg G0 H0 G H (wipe σ vs) (wipeR ρ vs) S
  | [] => s
  | v :: vs => by
    have ih := SI.wipe s vs
    unfold L2.wipe wipeR
    have key : ∀ (i : Nat) (x : Slot), ((wipeR ρ vs).set v .any)[i]? = some x → x = .any ∨ (v ≠ i ∧ (wipeR ρ vs)[i]? = some x) := fun i x h => by
      by_cases e : v = i
      · subst e
        by_cases hl : v < (wipeR ρ vs).length
        · rw [List.getElem?_set_self hl] at h; cases h; exact .inl rfl
        · rw [List.getElem?_eq_none (by rw [List.length_set]; omega)] at h; cases h
      · rw [List.getElem?_set_ne e] at h
        exact .inr ⟨e, h⟩
    refine ⟨ih.fr, ih.live0, ih.wf, by rw [List.length_set, List.length_set]; exact ih.len, fun i x h => ?_, fun i j ds es l n h1 h2 h3 => ?_⟩
    · rcases key i x h with e | ⟨ne, q⟩
      · subst e; trivial
      · rw [List.getElem?_set_ne ne]
        exact ih.env i x q
    · rcases key i _ h1 with e | ⟨ne, q⟩
      · cases e
      · rcases key j _ h2 with e | ⟨ne', q'⟩
        · cases e
        · rw [List.getElem?_set_ne ne] at h3
          rw [List.getElem?_set_ne ne']
          exact ih.apart i j ds es l n q q' h3
end

theorem wipe_idem {σ : L2.St} {vs : List Nat} : ∀ ws : List Nat, (∀ v ∈ ws, v ∈ vs) → L2.wipe (L2.wipe σ vs) ws = L2.wipe σ vs
  | [], _ => rfl
  | v :: ws, hv => by
    have ih := wipe_idem (σ := σ) ws fun w hw' => hv w (List.mem_cons_of_mem _ hw')
    have hvv := hv v List.mem_cons_self
    generalize hτ : L2.wipe σ vs = τ at ih ⊢
    show (L2.wipe τ ws).set v none = τ
    rw [ih]
    apply List.ext_getElem?
    intro j
    by_cases ej : v = j
    · subst ej
      by_cases hl : v < τ.length
      · rw [List.getElem?_set_self hl]
        cases qq : τ[v]? with
        | none => rw [List.getElem?_eq_none_iff] at qq; omega
        | some z =>
          cases z with
          | none => rfl
          | some z =>
            rw [← hτ] at qq
            exact absurd hvv (wipe_some qq).2
      · rw [List.getElem?_eq_none (by rw [List.length_set]; omega), List.getElem?_eq_none (by omega)]
    · rw [List.getElem?_set_ne ej]

/-! ### comprehensions -/
def compM (f : D → M (Option D)) : List D → M (List D)
  | [] => M.pure []
  | d :: ds => (f d).bind fun o => (compM f ds).bind fun r => M.pure (match o with | some x => x :: r | none => r)
/-- nothing is raised here -/
def calmM {α : Type} (m : M α) : M α := fun S => match m S with
  | .err _ _ => .bad
  | r => r
def eltM (mt : List D → M Bool) (me : List D → M D) (us : List D) : M (Option D) := (mt us).bind fun b => if b = true then (me us).bind fun x => M.pure (some x) else M.pure none
abbrev W0 : WX := fun _ _ _ _ => False
theorem okG_calm {K : PySem.W.Frag} {mg : Str → Option Value} {W : WX} {G0 G : Gh} {H0 H : Hp} {σ : L2.St} {ρ : List Slot} {S : MS} {α β : Type} {R : Gh → Hp → β → α → Prop} {Q : β → Hp → Prop} {m : M α} (h : okG K mg W R G0 H0 G H σ ρ Q (calmM m S)) : okG K mg W0 R G0 H0 G H σ ρ Q (m S) := by
  unfold calmM at h
  cases e : m S with
  | ok a S1 => rw [e] at h; exact h
  | err x S1 => rw [e] at h; exact h.elim
  | bad => rw [e] at h; exact h
section
variable {X : Cx} {W : WX} {ρ : List Slot} {tg iter elt : Expr} {ifs : List Expr} {scope : Scope} {own : List (Str × Nat)} {pos : Pos} {mi : M (List D)} {g : TG} {u : D → Option (List D)} {sl : List Slot → List D → List Slot} {is : List Nat} {mt : List D → M Bool} {me : List D → M D}
def lcM (mi : M (List D)) (u : D → Option (List D)) (mt : List D → M Bool) (me : List D → M D) : M (List D) := mi.bind fun ds => if szOk ds.length = true then compM (fun d => calmM (unM u (eltM mt me) d)) ds else M.bad
theorem lc_ok {K : PySem.W.Frag} {mg : Str → Option Value} {vs : List Nat} {σ : L2.St} {H : Hp} {Q : VK} (his : ∀ i ∈ is, i ∈ vs) (ht : TgD K mg g u sl is) (h : tN K mg W ρ (lcM mi u mt me) σ H Q) :
    tLc (tI K mg W ρ mi) g (fun σ H Q => ∃ us, tG K mg W0 RB (sl (wipeR ρ vs) us) (mt us) σ H Q) (fun σ H Q => ∃ us, tG K mg W0 (RD K) (sl (wipeR ρ vs) us) (me us) σ H Q) vs σ H Q := by
  obtain ⟨G0, H0, G, S, si, h⟩ := h
  refine ⟨G0, H0, G, S, si, ?_⟩
  unfold lcM M.bind at h
  cases e : mi S with
  | err x S1 => rw [e] at h; exact h
  | bad => rw [e] at h; exact h
  | ok ds S1 =>
    rw [e] at h
    by_cases hz : szOk ds.length = true
    case neg =>
      simp only [hz, if_false] at h
      exact h.elim
    simp only [hz, if_true] at h
    have hz' := sz_of hz
    intro J G1 H1 s1 f1 iw Dl hDl
    obtain ⟨Gd, Y, wk, hG, hY⟩ := iw
    let cm : D → M (Option D) := fun d => calmM (unM u (eltM mt me) d)
    have h : okN K mg W G0 H0 G H σ ρ Q (compM cm ds S1) := h
    let Pv : Nat → Hp → Prop := fun i H' => ∃ G' S' xs acc, SI K mg G0 H0 G' H' σ ρ S' ∧ FR G1 H1 G' H' ∧ H' Dl = some (.lst xs) ∧ xs.length ≤ i ∧ Reps K G' H' xs acc ∧ G'.O Dl ∧ ¬ G'.cell Dl ∧
      okN K mg W G0 H0 G H σ ρ Q (((compM cm (ds.drop i)).bind fun r => M.pure (acc ++ r)) S')
    refine lc_it (g := g) (tt := fun σ H Q => ∃ us, tG K mg W0 RB (sl (wipeR ρ vs) us) (mt us) σ H Q) (te := fun σ H Q => ∃ us, tG K mg W0 (RD K) (sl (wipeR ρ vs) us) (me us) σ H Q) (vs := vs) (σ := σ) (H1 := H1) (D := Dl) (Qd := fun H => Q (.ref Dl) H) wk Pv ?_ ?_ ?_ ?_
    · refine ⟨G1.own Dl, S1, [], [], s1.allocO hDl, .allocO hDl, upd_same, Nat.le_refl _, .nil, .inl rfl, fun c => s1.wf.fresh hDl (.inl c), ?_⟩
      rw [List.drop_zero]
      unfold M.bind
      cases q : compM cm ds S1 with
      | ok r S2 => rw [q] at h; exact h
      | err x S2 => rw [q] at h; exact h
      | bad => rw [q] at h; exact h
    · rintro i H' _ ⟨G', S', xs, acc, _, fr, _⟩
      exact hG G' H' fr.lr
    · rintro i x H' H2 hi ⟨G', S', xs, acc, s', fr, hD, hx, tx, hO, hc, h'⟩ y
      obtain ⟨hH, d, hd, rd⟩ := hY i G' H' x H2 hi fr.lr y
      have f2 : FR G' H' G' H2 := by
        rcases hH with e | ⟨p, o, hp, e⟩
        · rw [e]; exact .refl _ _
        · rw [e]; exact .alloc hp
      have s2 : SI K mg G0 H0 G' H2 σ ρ S' := by
        rcases hH with e | ⟨p, o, hp, e⟩
        · rw [e]; exact s'
        · rw [e]; exact s'.alloc hp
      have ed : ds.drop i = d :: ds.drop (i + 1) := by
        obtain ⟨hi', e⟩ := List.getElem?_eq_some_iff.mp hd
        rw [← e]
        exact List.drop_eq_getElem_cons hi'
      rw [ed] at h'
      have ow : ∀ (i : Nat) (ds : List D), ρ[i]? = some (.own ds) → σ[i]? ≠ some (some (V.ref Dl)) := s1.owns hDl
      have h0 : H0 Dl = none := s1.fr.free hDl
      -- the turn
      have bad : cm d S' = .bad → False := fun q => by
        unfold compM M.bind at h'
        simp only [q] at h'
        exact h'.elim
      cases qu : u d with
      | none => exact (bad (by show calmM (unM u (eltM mt me) d) S' = _; unfold calmM unM; rw [qu]; rfl)).elim
      | some us =>
        have qe : ∀ {r : Res (Option D)}, eltM mt me us S' = r → cm d S' = match r with | .err _ _ => (Res.bad : Res (Option D)) | r => r := fun {r} q => by
          show calmM (unM u (eltM mt me) d) S' = _
          unfold calmM unM
          rw [qu]
          rw [show (ofOpt (some us)).bind (eltM mt me) S' = eltM mt me us S' from rfl, q]
          cases r <;> rfl
        refine ht G0 H0 G' H2 (wipe σ vs) (wipeR ρ vs) S' x d us _ (s2.wipe vs) rd qu fun σ2 si2 hw => ⟨?_, us, G0, H0, G', S', si2, ?_⟩
        · rw [hw vs his]
          exact wipe_idem vs fun _ h => h
        · -- the test
          have hD2 : H2 Dl = some (.lst xs) := f2.keep _ _ hD (.inl hc)
          have fin : ∀ {o : Option D} {S3 : MS}, eltM mt me us S' = .ok o S3 → okN K mg W G0 H0 G H σ ρ Q (((compM cm (ds.drop (i + 1))).bind fun r => M.pure (acc ++ (match o with | some x => x :: r | none => r))) S3) := fun {o S3} q => by
            have q' := qe q
            unfold compM M.bind at h'
            simp only [q'] at h'
            unfold M.bind
            cases q2 : compM cm (ds.drop (i + 1)) S3 with
            | ok r S4 => simp only [q2] at h'; exact h'
            | err a b => simp only [q2] at h'; exact h'
            | bad => simp only [q2] at h'; exact h'
          cases qt : mt us S' with
          | err a b => exact (bad (qe (show eltM mt me us S' = .err a b by unfold eltM M.bind; rw [qt]))).elim
          | bad => exact (bad (qe (show eltM mt me us S' = .bad by unfold eltM M.bind; rw [qt]))).elim
          | ok b S3 =>
            intro b' G3 H3 s3 f3 eb
            cases eb
            have hD3 : H3 Dl = some (.lst xs) := f3.keep _ _ hD2 (.inl hc)
            cases b with
            | false =>
              refine ⟨G3, S3, xs, acc, s2.mono f3 s3.wf, fr.trans (f2.trans f3), hD3, by omega, tx.mono (f2.trans f3), (f2.trans f3).oold _ hO, fun c => ?_, ?_⟩
              · rcases f3.cnew _ c with y | y
                · exact hc y
                · rw [hD2] at y; cases y
              · exact fin (o := none) (by unfold eltM M.bind; rw [qt]; rfl)
            | true =>
              refine ⟨us, G0, H0, G3, S3, s3, ?_⟩
              cases qm : me us S3 with
              | err a b => exact (bad (qe (show eltM mt me us S' = .err a b by unfold eltM M.bind; rw [qt]; simp only [if_true]; rw [qm]))).elim
              | bad => exact (bad (qe (show eltM mt me us S' = .bad by unfold eltM M.bind; rw [qt]; simp only [if_true]; rw [qm]))).elim
              | ok y' S4 =>
                intro yv G4 H4 s4 f4 ry
                have f24 := f2.trans (f3.trans f4)
                have hc3 : ¬ G3.cell Dl := fun c => by
                  rcases f3.cnew _ c with y | y
                  · exact hc y
                  · rw [hD2] at y; cases y
                have hD4 : H4 Dl = some (.lst xs) := f4.keep _ _ hD3 (.inl hc3)
                have hc4 : ¬ G4.cell Dl := fun c => by
                  rcases f4.cnew _ c with y | y
                  · exact hc3 y
                  · rw [hD3] at y; cases y
                have hO4 : G4.O Dl := f24.oold _ hO
                have s5 : SI K mg G0 H0 G4 H4 σ ρ S4 := s2.mono (f3.trans f4) s4.wf
                have lr : LR G4 H4 G4 (upd H4 Dl (.lst (xs ++ [yv]))) := .put hD4 (fun z => z) (.inr hO4)
                refine ⟨xs, hD4, by omega, ?_⟩
                refine ⟨G4, S4, xs ++ [yv], acc ++ [y'], s5.putO hD4 (fun z => z) hO4 hc4 h0 ow, (fr.trans f24).putO hDl, upd_same, by rw [List.length_append, List.length_singleton]; omega, ?_, hO4, hc4, ?_⟩
                · exact ((tx.mono f24).append (.cons ry .nil)).lr lr
                · have z := fin (o := some y') (S3 := S4) (by unfold eltM M.bind; rw [qt]; simp only [if_true]; rw [qm]; rfl)
                  simpa only [List.append_assoc, List.singleton_append] using z
    · rintro H' ⟨G', S', xs, acc, s', fr, hD, hx, tx, hO, hc, h'⟩
      rw [List.drop_length] at h'
      have h' : okN K mg W G0 H0 G H σ ρ Q (.ok (acc ++ []) S') := h'
      rw [List.append_nil] at h'
      exact h' Dl xs G' H' s' (f1.trans fr) (f1.free hDl) hD (by omega) hO hc tx
/-- [elt for tg in iter if ..] -/
theorem en_lc (hN : X.N.Nodup) (ok : BlkOk X.N X.env.scope scope own) (hi : ID X W ρ tg iter mi) (ht : TgD X.K X.mg g u sl is) (his : ∀ i ∈ is, i ∈ own.map (·.2))
    (hg : ∀ (s : Shared) (H : Hp) (C : Addr) (cl : List (Str × Addr)) (fp : List Addr), PG (X.blk s H scope (compEnvC scope cl C X.env) fp) tg g)
    (hf : ∀ (s : Shared) (H : Hp) (C : Addr) (cl : List (Str × Addr)) (fp : List Addr) (us : List D), PTs (X.blk s H scope (compEnvC scope cl C X.env) fp) ifs (tG X.K X.mg W0 RB (sl (wipeR ρ (own.map (·.2))) us) (mt us)))
    (he : ∀ (s : Shared) (H : Hp) (C : Addr) (cl : List (Str × Addr)) (fp : List Addr) (us : List D), ED (X.blk s H scope (compEnvC scope cl C X.env) fp) W0 (sl (wipeR ρ (own.map (·.2))) us) elt (me us))
    (hc : X.calm = true := by rfl) (hs : ∀ x, foldedSetIterable iter X.env x = pure x := by intro _; rfl) : EN X W ρ (.ListComp elt [⟨tg, iter, ifs, 0⟩] scope pos) (lcM mi u mt me) :=
  PE.imp (pe_lc hc hN hi ok hg (fun s H C cl fp => ⟨fun pins s' σ H' Q I ⟨us, q⟩ => (hf s H C cl fp us).run pins s' σ H' Q I q⟩) (fun s H C cl fp => ⟨fun pins s' σ H' Q I ⟨us, q⟩ => (he s H C cl fp us).run pins s' σ H' Q I q⟩) hs) fun σ H Q h => lc_ok his ht h
theorem etf_nil {us : List D} {ρ' : List Slot} : PTs X [] (tG X.K X.mg W RB ρ' (M.pure true)) := ⟨fun pins s σ H Q I ⟨G0, H0, G, S, si, h⟩ => pts_nil.run pins s σ H Q I (okG.here h si rfl)⟩
theorem etf_one {c : Expr} {ρ' : List Slot} {t : M Bool} (h : ET X W ρ' c t) : PTs X [c] (tG X.K X.mg W RB ρ' t) := pts_one h
/-- y = [elt for ..] on one line -/
theorem ps_lc {i : Nat} {y : Str} {py spos : Pos} (hN : X.N.Nodup) (ok : BlkOk X.N X.env.scope scope own) (hi : ID X W ρ tg iter mi) (ht : TgD X.K X.mg g u sl is) (his : ∀ i ∈ is, i ∈ own.map (·.2))
    (hg : ∀ (s : Shared) (H : Hp) (C : Addr) (cl : List (Str × Addr)) (fp : List Addr), PG (X.blk s H scope (compEnvC scope cl C X.env) fp) tg g)
    (hf : ∀ (s : Shared) (H : Hp) (C : Addr) (cl : List (Str × Addr)) (fp : List Addr) (us : List D), PTs (X.blk s H scope (compEnvC scope cl C X.env) fp) ifs (tG X.K X.mg W0 RB (sl (wipeR ρ (own.map (·.2))) us) (mt us)))
    (he : ∀ (s : Shared) (H : Hp) (C : Addr) (cl : List (Str × Addr)) (fp : List Addr) (us : List D), ED (X.blk s H scope (compEnvC scope cl C X.env) fp) W0 (sl (wipeR ρ (own.map (·.2))) us) elt (me us))
    (hy : X.N[i]? = some y) (hyl : X.env.scope.names.lookup y = some .local) (hsw : swapsWith (.ListComp elt [⟨tg, iter, ifs, 0⟩] scope pos) (some (.Name y py)) spos.line X.env = pure true)
    (hc : X.calm = true := by rfl) (hs : ∀ x, foldedSetIterable iter X.env x = pure x := by intro _; rfl) :
    PS X (.Assign [.Name y py] (.ListComp elt [⟨tg, iter, ifs, 0⟩] scope pos) spos) (fun D σ H => tN X.K X.mg W ρ (lcM mi u mt me) σ H fun v H1 => D.nx (σ.set i (some v)) H1) :=
  PS.imp (ps_setLc hc hN hy hyl hsw hi ok hg (fun s H C cl fp => ⟨fun pins s' σ H' Q I ⟨us, q⟩ => (hf s H C cl fp us).run pins s' σ H' Q I q⟩) (fun s H C cl fp => ⟨fun pins s' σ H' Q I ⟨us, q⟩ => (he s H C cl fp us).run pins s' σ H' Q I q⟩) hs) fun D σ H h => lc_ok his ht h
end
end Dl

namespace Dl
open PySem L2

/-! ### lists of the frame's own, changed -/
section
variable {K : PySem.W.Frag} {mg : Str → Option Value} {G G0 G1 : Gh} {H H0 H1 : Hp} {S : MS} {σ : L2.St} {ρ : List Slot} {l : Addr} {o o' : HO}
theorem SI.ownPut (s : SI K mg G0 H0 G H σ ρ S) {i : Nat} {ds es : List D} {xs ys : List V} (hρ : ρ[i]? = some (.own ds)) (hσ : σ[i]? = some (some (.ref l))) (z : ys.length ≤ sizeLine) (t : Reps K G H ys es) :
    SI K mg G0 H0 G (upd H l (.lst ys)) σ (ρ.set i (.own es)) S ∧ LR G H G (upd H l (.lst ys)) := by
  obtain ⟨l', xs, e, hl, _, _, ho, hc, h0⟩ := s.env i _ hρ
  rw [hσ] at e; cases e
  have hi : i < ρ.length := (List.getElem?_eq_some_iff.mp hρ).1
  have na : ∀ (j : Nat) (fs : List D), (ρ.set i .any)[j]? = some (.own fs) → σ[j]? ≠ some (some (V.ref l)) := fun j fs ej q => by
    by_cases q' : i = j
    · subst q'
      rw [List.getElem?_set_self hi] at ej; cases ej
    · rw [List.getElem?_set_ne q'] at ej
      exact s.apart i j ds fs l q' hρ ej hσ q
  have lr : LR G H G (upd H l (.lst ys)) := .put hl (fun z => z) (.inr ho)
  have s1 := (s.weak (wk_set ρ i)).putO (o' := .lst ys) hl (fun z => z) ho hc h0 na
  have s2 := s1.setOwn (ds := es) i upd_same z ho hc h0 (t.lr lr) fun j fs nj ej => na j fs ej
  have e1 : σ.set i (some (.ref l)) = σ := by
    apply List.ext_getElem?
    intro j
    by_cases q : i = j
    · subst q
      rw [List.getElem?_set_self (by rw [s.len]; exact hi), hσ]
    · rw [List.getElem?_set_ne q]
  rw [e1, List.set_set] at s2
  exact ⟨s2, lr⟩
end
def szLt (n : Nat) : Bool := decide (n < 16777216)
theorem szLt_of {n : Nat} (h : szLt n = true) : n < sizeLine := by rw [sizeLine_eq]; exact of_decide_eq_true h
def gd {α : Type} (b : Bool) (m : M α) : M α := if b = true then m else M.bad
section
variable {X : Cx} {C L : Type} {k : Ct C L} {ρ : List Slot} {a b c e o : Expr} {es : List Expr} {m mo mi mv : M D} {pos p p2 cp ap : Pos} {rest sts : List Stmt}
theorem okS.gd {K : PySem.W.Frag} {mg : Str → Option Value} {G0 G : Gh} {H0 H : Hp} {D : Ends} {S : MS} {b : Bool} {m : M (Fl C L)} (h : okS K mg k G0 H0 G H D (Dl.gd b m S)) : b = true ∧ okS K mg k G0 H0 G H D (m S) := by
  unfold Dl.gd at h
  cases b with
  | true => exact ⟨rfl, h⟩
  | false => exact h.elim
/-- xs.append(e) -/
theorem sd_append (i : Nat) {x : Str} {ds : List D} {f : D → M (Fl C L)} (w : Wk ρ k.x) (hpe : PE X (.Call (.Attribute (.Name x p) "append" ap) [e] [] cp) (tBM X.K "list" rAppend (tVar i) (tCons (tG X.K X.mg k.W (RD X.K) ρ m) tNil)))
    (hr : ∀ d, SD X k (ρ.set i (.own (ds ++ [d]))) rest (f d)) (hρ : ρ[i]? = some (.own ds) := by rfl) (hs : swapsWith (.Call (.Attribute (.Name x p) "append" ap) [e] [] cp) none pos.line X.env = pure false := by rfl) :
    SD X k ρ (.Expr (.Call (.Attribute (.Name x p) "append" ap) [e] [] cp) pos :: rest) (m.bind fun d => gd (szLt ds.length) (f d)) := by
  let u : TS := fun D σ H => ∃ d, tS X.K X.mg k (ρ.set i (.own (ds ++ [d]))) (f d) D σ H
  have hu : PSs X rest u := ⟨fun pins s σ H D I ⟨d, q⟩ => (hr d).run pins s σ H D I q⟩
  refine PSs.imp (pss_cons (ps_expr hpe hs) hu) fun D σ H ⟨G0, H0, G, S, si, h⟩ => ?_
  obtain ⟨l, xs, e1, hl, z, t, ho, hc, h0⟩ := si.env i _ hρ
  refine ⟨.ref l, e1, .inl ⟨rfl, _, SqL.of hl⟩, G0, H0, G, S, si, okS.bind h w fun G1 H1 S1 v d s1 r1 h1 => ?_⟩
  obtain ⟨zz, h1⟩ := h1.gd
  obtain ⟨l', xs', e1', hl', z', t', ho', hc', h0'⟩ := s1.env i _ hρ
  rw [e1] at e1'; cases e1'
  have zl := szLt_of zz
  rw [← t'.length] at zl
  refine ⟨l, xs', v, rfl, rfl, hl', zl, d, ?_⟩
  obtain ⟨s2, lr⟩ := s1.ownPut (xs := xs') hρ e1 (ys := xs' ++ [v]) (by rw [List.length_append, List.length_singleton]; omega) (t'.append (.cons r1 .nil))
  exact ⟨G0, H0, G1, S1, s2, okS.from h1 lr⟩
/-- xs.extend(e), e a list -/
theorem sd_extend (i : Nat) {x : Str} {ds : List D} {f : List D → M (Fl C L)} (w : Wk ρ k.x) (hpe : PE X (.Call (.Attribute (.Name x p) "extend" ap) [e] [] cp) (tBM X.K "list" rExtend (tVar i) (tCons (tG X.K X.mg k.W (RD X.K) ρ m) tNil)))
    (hr : ∀ es, SD X k (ρ.set i (.own (ds ++ es))) rest (f es)) (hρ : ρ[i]? = some (.own ds) := by rfl) (hs : swapsWith (.Call (.Attribute (.Name x p) "extend" ap) [e] [] cp) none pos.line X.env = pure false := by rfl) :
    SD X k ρ (.Expr (.Call (.Attribute (.Name x p) "extend" ap) [e] [] cp) pos :: rest) (m.bind fun d => (asLst d).bind fun es => gd (szOk (ds.length + es.length)) (f es)) := by
  let u : TS := fun D σ H => ∃ d, tS X.K X.mg k (ρ.set i (.own (ds ++ d))) (f d) D σ H
  have hu : PSs X rest u := ⟨fun pins s σ H D I ⟨d, q⟩ => (hr d).run pins s σ H D I q⟩
  refine PSs.imp (pss_cons (ps_expr hpe hs) hu) fun D σ H ⟨G0, H0, G, S, si, h⟩ => ?_
  obtain ⟨l, xs, e1, hl, z, t, ho, hc, h0⟩ := si.env i _ hρ
  refine ⟨.ref l, e1, .inl ⟨rfl, _, SqL.of hl⟩, G0, H0, G, S, si, okS.bind h w fun G1 H1 S1 v d s1 r1 h1 => ?_⟩
  obtain ⟨l', xs', e1', hl', z', t', ho', hc', h0'⟩ := s1.env i _ hρ
  rw [e1] at e1'; cases e1'
  have key : ∀ {a : Addr} {ys : List V} {es : List Dl.D}, H1 a = some (.lst ys) → Reps X.K G1 H1 ys es → okS X.K X.mg k G0 H0 G1 H1 D (gd (szOk (ds.length + es.length)) (f es) S1) → rExtend (.ref l) [.ref a] H1 fun _ H2 => u D σ H2 := fun {a ys es} ha tt h1 => by
    obtain ⟨zz, h1⟩ := h1.gd
    have zl := sz_of zz
    rw [← t'.length, ← tt.length] at zl
    refine ⟨l, a, xs', ys, rfl, rfl, hl', ha, zl, es, ?_⟩
    obtain ⟨s2, lr⟩ := s1.ownPut (xs := xs') hρ e1 (ys := xs' ++ ys) (by rw [List.length_append]; exact zl) (t'.append tt)
    exact ⟨G0, H0, G1, S1, s2, okS.from h1 lr⟩
  cases r1 with
  | lst ha _ _ tt => exact key ha tt h1
  | ptr q =>
    rename_i a kk
    unfold asLst M.bind at h1
    cases qc : S1.cells[kk]? with
    | none => simp only [qc] at h1; exact h1.elim
    | some c =>
      have cr := s1.wf.cell kk c a qc q
      cases c with
      | lst es =>
        simp only [qc] at h1
        obtain ⟨ys, hy, _, tt⟩ := cr
        exact key hy tt h1
      | dic _ => simp only [qc] at h1; exact h1.elim
      | ins _ _ => simp only [qc] at h1; exact h1.elim
  | _ => exact h1.elim
end

/-! ### what stands at a pointer changes -/
def MS.put (S : MS) (k : Nat) (c : Cell) : MS := { S with cells := S.cells.set k c }
section
variable {K : PySem.W.Frag} {mg : Str → Option Value} {G G0 G1 : Gh} {H H0 H1 : Hp} {S : MS} {σ : L2.St} {ρ : List Slot} {a : Addr} {o o' : HO} {k : Nat} {c : Cell}
theorem FR.putC (hk : G.φ[k]? = some a) (ha : H a = some o) (hf : ¬ Fix o) : FR G H G (upd H a o') where
  pre := List.prefix_rfl
  sa := rfl
  sb := rfl
  keep := fun b u e q => by
    rw [upd_ne fun z => ?_]
    · exact e
    · subst z
      rw [ha] at e; cases e
      exact q.elim (fun y => y (.inl (List.mem_of_getElem? hk))) hf
  cnew := fun _ h => .inl h
  onew := fun _ h => .inl h
  oold := fun _ h => h
  there := fun b u e => by
    by_cases z : b = a
    · rw [z]; exact ⟨o', upd_same⟩
    · exact ⟨u, by rw [upd_ne z]; exact e⟩
theorem Wf.putC (w : Wf K mg G H S) (hk : G.φ[k]? = some a) (ha : H a = some o) (hf : ¬ Fix o) (hc : CellRep K mg G (upd H a o') a c) : Wf K mg G (upd H a o') (S.put k c) where
  len := by show _ = (S.cells.set k c).length; rw [List.length_set]; exact w.len
  nd := w.nd
  cell := fun i c' b h1 h2 => by
    have h1 : (S.cells.set k c)[i]? = some c' := h1
    have hkl : k < S.cells.length := by rw [← w.len]; exact (List.getElem?_eq_some_iff.mp hk).1
    by_cases e : k = i
    · subst e
      rw [List.getElem?_set_self hkl] at h1
      cases h1
      rw [hk] at h2; cases h2
      exact hc
    · rw [List.getElem?_set_ne e] at h1
      have q := w.cell i c' b h1 h2
      have ne : b ≠ a := fun z => e (by
        subst z
        have e1 := List.getElem?_eq_some_iff.mp hk
        have e2 := List.getElem?_eq_some_iff.mp h2
        exact (List.getElem_inj w.nd).mp (e1.2.trans e2.2.symm))
      have r : LR G H G (upd H a o') := .put ha hf (.inl (.inl (List.mem_of_getElem? hk)))
      cases c' with
      | lst ds => obtain ⟨xs, e, z, t⟩ := q; exact ⟨xs, by rw [upd_ne ne]; exact e, z, t.lr r⟩
      | dic kvs => obtain ⟨xs, e, z, t⟩ := q; exact ⟨xs, by rw [upd_ne ne]; exact e, z, t.lr r⟩
      | ins c fs => obtain ⟨C, dx, gs, m, e, t⟩ := q; exact ⟨C, dx, gs, m, by rw [upd_ne ne]; exact e, t.lr r⟩
  live := fun b h => by
    obtain ⟨u, e⟩ := w.live b h
    exact (FR.putC (o' := o') hk ha hf).there b u e
  ha := by
    have ne : G.sa ≠ a := fun z => w.na (by rw [z]; exact List.mem_of_getElem? hk)
    rw [upd_ne ne]; exact w.ha
  hb := by
    have ne : G.sb ≠ a := fun z => w.nb (by rw [z]; exact List.mem_of_getElem? hk)
    rw [upd_ne ne]; exact w.hb
  sab := w.sab
  na := w.na
  nb := w.nb
  zs := w.zs
theorem SI.putC (s : SI K mg G0 H0 G H σ ρ S) (hk : G.φ[k]? = some a) (ha : H a = some o) (hf : ¬ Fix o) (hc : CellRep K mg G (upd H a o') a c) : SI K mg G0 H0 G (upd H a o') σ ρ (S.put k c) := s.mono (.putC hk ha hf) (s.wf.putC hk ha hf hc)
end
/-- o[i] = v, a list at a pointer -/
def setI (o i v : D) : M Unit := fun S => match o, i with
  | .ptr k, .int i => match S.cells[k]? with
    | some (.lst ds) => match ixN ds.length i with
      | some j => .ok () (S.put k (.lst (ds.set j v)))
      | none => .bad
    | _ => .bad
  | _, _ => .bad
section
variable {X : Cx} {C L : Type} {k : Ct C L} {ρ : List Slot} {a b c e o i : Expr} {es : List Expr} {m mo mi mv : M D} {pos p p2 cp ap : Pos} {rest sts : List Stmt}
theorem sd_setI {mr : M (Fl C L)} (w : Wk ρ k.x) (hr : SD X k ρ rest mr)
    (hps : PS X (.Assign [.Subscript o i p] e pos) (tAsg (tG X.K X.mg k.W (RD X.K) ρ mv) (gSub (tG X.K X.mg k.W (RD X.K) ρ mo) (tG X.K X.mg k.W (RD X.K) ρ mi) rSetL))) :
    SD X k ρ (.Assign [.Subscript o i p] e pos :: rest) (mv.bind fun v => mo.bind fun o => mi.bind fun i => (setI o i v).bind fun _ => mr) := by
  refine PSs.imp (pss_cons hps hr) fun D σ H ⟨G0, H0, G, S, si, h⟩ => ?_
  refine ⟨G0, H0, G, S, si, okS.bind h w fun G1 H1 S1 v d s1 r1 h1 => ⟨G0, H0, G1, S1, s1, ?_⟩⟩
  -- the value is kept while the object and the place are looked up
  have key : ∀ {G2 : Gh} {H2 : Hp} {S2 : MS} {ov iv : V} {od id : Dl.D}, SI X.K X.mg G0 H0 G2 H2 σ ρ S2 → Rep X.K G2 H2 v d → Rep X.K G2 H2 ov od → Rep X.K G2 H2 iv id → okS X.K X.mg k G0 H0 G2 H2 D ((setI od id d).bind (fun _ => mr) S2) →
      rSetL ov iv v H2 fun H3 => tS X.K X.mg k ρ mr D σ H3 := fun {G2 H2 S2 ov iv od id} s2 rv ro ri h => by
    unfold setI M.bind at h
    cases ro with
    | ptr q =>
      rename_i a kk
      cases ri with
      | int n =>
        cases qc : S2.cells[kk]? with
        | none => simp only [qc] at h; exact h.elim
        | some c =>
          have cr := s2.wf.cell kk c a qc q
          cases c with
          | lst es =>
            obtain ⟨ys, hy, zy, tt⟩ := cr
            cases qi : ixN es.length n with
            | none => simp only [qc, qi] at h; exact h.elim
            | some j =>
              simp only [qc, qi] at h
              have lr : LR G2 H2 G2 (upd H2 a (.lst (ys.set j v))) := .put hy (fun z => z) (.inl (.inl (List.mem_of_getElem? q)))
              refine ⟨a, ys, n, j, rfl, rfl, hy, by rw [tt.length]; exact qi, ?_⟩
              refine ⟨G0, H0, G2, S2.put kk (.lst (es.set j d)), s2.putC q hy (fun z => z) ⟨_, upd_same, by rw [List.length_set]; exact zy, (tt.set rv j).lr lr⟩, okS.from h lr⟩
          | dic _ => simp only [qc] at h; exact h.elim
          | ins _ _ => simp only [qc] at h; exact h.elim
      | _ => exact h.elim
    | _ => exact h.elim
  refine okS.bind2 h1 w fun G2 H2 S2 ov od s2 f2 r2 h2 => ⟨G0, H0, G2, S2, s2, okS.bind2 h2 w fun G3 H3 S3 iv id s3 f3 r3 h3 => ?_⟩
  exact key s3 (r1.mono (f2.trans f3)) (r2.mono f3) r3 h3
end
end Dl

namespace Dl
open PySem L2

/-! ### instances -/
section
variable {K : PySem.W.Frag} {G : Gh} {H : Hp}
theorem FReps.look : ∀ {gs : List (Str × V)} {fs : List (Str × D)} {f : Str}, FReps K G H gs fs → (∀ d, fs.lookup f = some d → ∃ v, gs.lookup f = some v ∧ Rep K G H v d) ∧ (fs.lookup f = none → gs.lookup f = none)
  | _, _, f, .nil => ⟨fun d h => (by cases h), fun _ => rfl⟩
  | _, _, f, .cons (k := k) r t => by
    have ih := FReps.look (f := f) t
    by_cases e : f = k
    · subst e
      refine ⟨fun d h => ?_, fun h => ?_⟩
      · rw [List.lookup_cons_self] at h ⊢
        cases h
        exact ⟨_, rfl, r⟩
      · rw [List.lookup_cons_self] at h; cases h
    · have q : (f == k) = false := by simpa using e
      refine ⟨fun d h => ?_, fun h => ?_⟩
      · simp only [List.lookup, q] at h ⊢
        exact ih.1 d h
      · simp only [List.lookup, q] at h ⊢
        exact ih.2 h
theorem FReps.length : ∀ {gs : List (Str × V)} {fs : List (Str × D)}, FReps K G H gs fs → gs.length = fs.length
  | _, _, .nil => rfl
  | _, _, .cons _ t => by rw [List.length_cons, List.length_cons, FReps.length t]
def putFD (f : Str) (v : D) : List (Str × D) → List (Str × D)
  | [] => [(f, v)]
  | (g, w) :: r => if g = f then (g, v) :: r else (g, w) :: putFD f v r
theorem FReps.put {f : Str} {v : V} {d : D} (r : Rep K G H v d) : ∀ {gs : List (Str × V)} {fs : List (Str × D)}, FReps K G H gs fs → FReps K G H (putF f v gs) (putFD f d fs)
  | _, _, .nil => .cons r .nil
  | _, _, .cons (k := k) q t => by
    unfold putF putFD
    by_cases e : k = f
    · rw [if_pos e, if_pos e]; exact .cons r t
    · rw [if_neg e, if_neg e]; exact .cons q (FReps.put r t)
end
/-- e.f of an instance of the class c -/
def dFld (c f : Str) (d : D) : M D := fun S => match d with
  | .ptr k => match S.cells[k]? with
    | some (.ins c' fs) => if c' = c then (match fs.lookup f with
      | some d => .ok d S
      | none => .bad) else .bad
    | _ => .bad
  | _ => .bad
/-- it is an instance of the class c without an attribute m of its own -/
def isA (c m : Str) (d : D) : M Unit := fun S => match d with
  | .ptr k => match S.cells[k]? with
    | some (.ins c' fs) => if c' = c then (match fs.lookup m with
      | some _ => .bad
      | none => .ok () S) else .bad
    | _ => .bad
  | _ => .bad
def setF (c f : Str) (o v : D) : M Unit := fun S => match o with
  | .ptr k => match S.cells[k]? with
    | some (.ins c' fs) => if c' = c then (if fs.length < 900 then .ok () (S.put k (.ins c (putFD f v fs))) else .bad) else .bad
    | _ => .bad
  | _ => .bad
/-- what is known of a class -/
structure CI (K : PySem.W.Frag) (mg : Str → Option Value) (c : Str) (C : Addr) : Prop where
  mg : mg c = some (.ref C)
  cl : Cls K C
theorem ins_of {K : PySem.W.Frag} {mg : Str → Option Value} {G : Gh} {H : Hp} {S : MS} {v : V} {k : Nat} {c : Str} {C : Addr} {fs : List (Str × D)} (w : Wf K mg G H S) (r : Rep K G H v (.ptr k)) (e : S.cells[k]? = some (.ins c fs)) (T : mg c = some (.ref C)) :
    ∃ a dx gs, v = .ref a ∧ G.φ[k]? = some a ∧ H a = some (.ins C dx gs) ∧ FReps K G H gs fs := by
  cases r with
  | ptr q =>
    obtain ⟨C', dx, gs, m, h, t⟩ := w.cell k _ _ e q
    rw [T] at m; cases m
    exact ⟨_, dx, gs, rfl, q, h, t⟩
section
variable {X : Cx} {W : WX} {ρ : List Slot} {a b c e o : Expr} {es : List Expr} {m mo mv : M D} {ms : List (M D)} {pos p apos p2 : Pos}
theorem ed_fld {cn f : Str} {CA : Addr} (T : CI X.K X.mg cn CA) (n : NoAttr X.K CA f) (he : ED X W ρ e m) (hb : attributeBase e f X.env (eval e X.env) = eval e X.env := by rfl) : ED X W ρ (.Attribute e f pos) (una (dFld cn f) m) :=
  PE.imp (pe_fld he hb) fun σ H Q ⟨G0, H0, G, S, si, h⟩ => ⟨G0, H0, G, S, si, okG.bind h fun G1 H1 S1 x d s1 f1 r1 h1 => by
    unfold dFld at h1
    cases d with
    | ptr k =>
      cases q : S1.cells[k]? with
      | none => simp only [q] at h1; exact h1.elim
      | some cc =>
        cases cc with
        | ins c' fs =>
          simp only [q] at h1
          by_cases ec : c' = cn
          · subst ec
            simp only [if_true] at h1
            obtain ⟨a, dx, gs, ev, _, ha, t⟩ := ins_of s1.wf r1 q T.mg
            cases ql : fs.lookup f with
            | none => simp only [ql] at h1; exact h1.elim
            | some d' =>
              simp only [ql] at h1
              obtain ⟨v, hv, rv⟩ := t.look.1 d' ql
              exact ⟨a, CA, dx, gs, v, ev, ha, T.cl, n, hv, okG.here h1 s1 rv⟩
          · rw [if_neg ec] at h1; exact h1.elim
        | lst _ => simp only [q] at h1; exact h1.elim
        | dic _ => simp only [q] at h1; exact h1.elim
    | _ => exact h1.elim⟩
variable {C L : Type} {k : Ct C L} {rest : List Stmt}
/-- o.f = e -/
theorem sd_fld {cn f : Str} {CA : Addr} {mr : M (Fl C L)} (w : Wk ρ k.x) (T : CI X.K X.mg cn CA) (n : NoAttr X.K CA f) (ho : ED X k.W ρ o mo) (he : ED X k.W ρ e mv) (hr : SD X k ρ rest mr) (hs : swapsWith e (some (.Attribute o f p)) pos.line X.env = pure false := by rfl) :
    SD X k ρ (.Assign [.Attribute o f p] e pos :: rest) (mv.bind fun v => mo.bind fun o => (setF cn f o v).bind fun _ => mr) :=
  PSs.imp (pss_cons (ps_fld ho he hs) hr) fun D σ H ⟨G0, H0, G, S, si, h⟩ => ⟨G0, H0, G, S, si, okS.bind2 h w fun G1 H1 S1 v d s1 f1 r1 h1 => ⟨G0, H0, G1, S1, s1, okS.bind2 h1 w fun G2 H2 S2 ov od s2 f2 r2 h2 => by
    have rv : Rep X.K G2 H2 v d := Rep.mono f2 r1
    unfold setF M.bind at h2
    cases od with
    | ptr kk =>
      cases q : S2.cells[kk]? with
      | none => simp only [q] at h2; exact h2.elim
      | some cc =>
        cases cc with
        | ins c' fs =>
          simp only [q] at h2
          by_cases ec : c' = cn
          · subst ec
            simp only [if_true] at h2
            by_cases hz : fs.length < 900
            · rw [if_pos hz] at h2
              obtain ⟨a, dx, gs, ev, hk, ha, t⟩ := ins_of s2.wf r2 q T.mg
              have lr : LR G2 H2 G2 (upd H2 a (.ins CA dx (putF f v gs))) := .put ha (fun z => z) (.inl (.inl (List.mem_of_getElem? hk)))
              refine ⟨a, CA, dx, gs, ev, ha, T.cl, n, by rw [t.length]; omega, ?_⟩
              exact ⟨G0, H0, G2, _, s2.putC (c := .ins c' (putFD f d fs)) hk ha (fun z => z) ⟨CA, dx, _, T.mg, upd_same, (FReps.put rv t).lr lr⟩, okS.from h2 lr⟩
            · rw [if_neg hz] at h2; exact h2.elim
          · rw [if_neg ec] at h2; exact h2.elim
        | lst _ => simp only [q] at h2; exact h2.elim
        | dic _ => simp only [q] at h2; exact h2.elim
    | _ => exact h2.elim⟩⟩

/-- the side conditions of calls: no star among the arguments -/
abbrev NS1 (X : Cx) (e : Expr) (es : List Expr) : Prop := starEach (e :: es) X.env = (false, eval e X.env) :: starEach es X.env
abbrev NS2 (X : Cx) (pos : Pos) (es : List Expr) : Prop := (backTo pos (starEach es X.env)).any (·.1) = false
/-- how the call of a method runs -/
abbrev MC (X : Cx) (o : Expr) (mn : Str) (apos pos : Pos) (es : List Expr) (pl : Sem Bool) : Prop :=
  eval (.Call (.Attribute o mn apos) es [] pos) X.env = (eval o X.env >>= fun ov => standAt apos.atName >>= fun _ => holding [ov] (getMethod ov mn pl) >>= fun fb => callWith pos fb.1 fb.2 (backTo pos (starEach es X.env)) (backToKw pos (keywordEach [] X.env)))
/-! ### methods -/
def tMethV (C : Addr) (m : Str) (sp : Sp) (E : L2.St → XK) (ta : TE) (t : TA) : TE := fun σ H Q => ta σ H fun x H1 => ∃ a dx fs, x = .ref a ∧ H1 a = some (.ins C dx fs) ∧ fs.lookup m = none ∧ t σ H1 fun vs H2 => sp (x :: vs) H2 Q (E σ)
theorem pe_methV {CX : CXT} {kk : Nat} {f CA : Addr} {fd : FuncData} {ps : List Str} {sp : Sp} {E : L2.St → XK} {mn : Str} {ta : TE} {t : TA} {pl : Sem Bool} (he : PE X o ta) (c : Cls X.K CA) (hm : Meth X.K CA mn f) (F : FnOk X.prog X.w X.K X.mg X.base CX kk f fd ps sp) (hr : Room kk X.A) (hb : Binds X.K fd ps []) (hx : ∀ σ, PassesAt CX X σ (E σ)) (ha : PA X (e :: es) t)
    (hst : NS1 X e es := by rfl) (hpl : NS2 X pos es := by rfl)
    (ht : MC X o mn apos pos (e :: es) pl := by rfl) :
    PE X (.Call (.Attribute o mn apos) (e :: es) [] pos) (tMethV CA mn sp E ta t) := by
  constructor
  intro pins s σ H Q I h
  refine PySem.W.methodCall_KW (pl := pl) (wpAny_mono (he.run pins s σ H _ I h) ?_ fun _ _ z => z) ht
  rintro u t1 ⟨x, H1, J1, rx, a, dx, fs, ex, ea, nl, w⟩
  subst ex
  cases rx
  refine getmeth_ok J1 ea c hm nl (PySem.W.callWith_K (first := [.ref a]) (h₀ := X.base) I.ok.mod.kin hm.kp (wpAny_mono (ha.run pos pins t1 σ H1 _ J1 w) ?_ fun _ _ z => z) hst hpl)
  rintro us t2 ⟨vs, H2, J2, rs, w2⟩
  exact ⟨J2.kIn, run_fnS (vs := V.ref a :: vs) (us := Value.ref a :: us) F hr hb (hx σ) J2 (.cons rfl rs) w2⟩
theorem pe_methV0 {CX : CXT} {kk : Nat} {f CA : Addr} {fd : FuncData} {ps : List Str} {sp : Sp} {E : L2.St → XK} {mn : Str} {ta : TE} {pl : Sem Bool} (he : PE X o ta) (c : Cls X.K CA) (hm : Meth X.K CA mn f) (F : FnOk X.prog X.w X.K X.mg X.base CX kk f fd ps sp) (hr : Room kk X.A) (hb : Binds X.K fd ps []) (hx : ∀ σ, PassesAt CX X σ (E σ))
    (ht : MC X o mn apos pos [] pl := by rfl) :
    PE X (.Call (.Attribute o mn apos) [] [] pos) (tMethV CA mn sp E ta tNil) := by
  constructor
  intro pins s σ H Q I h
  refine PySem.W.methodCall_KW (pl := pl) (wpAny_mono (he.run pins s σ H _ I h) ?_ fun _ _ z => z) ht
  rintro u t1 ⟨x, H1, J1, rx, a, dx, fs, ex, ea, nl, w⟩
  subst ex
  cases rx
  exact getmeth_ok J1 ea c hm nl (PySem.W.callWith_K0 (first := [.ref a]) J1.kIn hm.kp (run_fnS (us := [.ref a]) (vs := [.ref a]) F hr hb (hx σ) J1 (.cons rfl .nil) w))
def methM (cn mn : Str) (g : List D → M D) (mo : M D) (ms : List (M D)) : M D := mo.bind fun o => (isA cn mn o).bind fun _ => (argsM ms).bind fun ds => g (o :: ds)
theorem args_len : ∀ {ms : List (M D)} {S S1 : MS} {ds : List D}, argsM ms S = .ok ds S1 → ds.length = ms.length
  | [], S, S1, ds, e => by cases e; rfl
  | m :: ms, S, S1, ds, e => by
    unfold argsM M.bind at e
    cases e1 : m S with
    | ok d S2 =>
      rw [e1] at e
      simp only at e
      cases e2 : argsM ms S2 with
      | ok ds' S3 =>
        rw [e2] at e
        cases e
        rw [List.length_cons, List.length_cons, args_len e2]
      | err _ _ => rw [e2] at e; cases e
      | bad => rw [e2] at e; cases e
    | err _ _ => rw [e1] at e; cases e
    | bad => rw [e1] at e; cases e
theorem isA_ok {K : PySem.W.Frag} {mg : Str → Option Value} {α β : Type} {R : Gh → Hp → β → α → Prop} {G0 G : Gh} {H0 H : Hp} {σ : L2.St} {S : MS} {Q : β → Hp → Prop} {cn mn : Str} {CA : Addr} {v : V} {d : D} {f : Unit → M α} (si : SI K mg G0 H0 G H σ ρ S) (r : Rep K G H v d) (T : mg cn = some (.ref CA))
    (h : okG K mg W R G0 H0 G H σ ρ Q ((isA cn mn d).bind f S)) : (∃ a dx gs, v = .ref a ∧ H a = some (.ins CA dx gs) ∧ gs.lookup mn = none) ∧ okG K mg W R G0 H0 G H σ ρ Q (f () S) := by
  unfold isA M.bind at h
  cases d with
  | ptr k =>
    cases q : S.cells[k]? with
    | none => simp only [q] at h; exact h.elim
    | some cc =>
      cases cc with
      | ins c' fs =>
        simp only [q] at h
        by_cases ec : c' = cn
        · subst ec
          simp only [if_true] at h
          obtain ⟨a, dx, gs, ev, _, ha, t⟩ := ins_of si.wf r q T
          cases ql : fs.lookup mn with
          | none => simp only [ql] at h; exact ⟨⟨a, dx, gs, ev, ha, t.look.2 ql⟩, h⟩
          | some d' => simp only [ql] at h; exact h.elim
        · rw [if_neg ec] at h; exact h.elim
      | lst _ => simp only [q] at h; exact h.elim
      | dic _ => simp only [q] at h; exact h.elim
  | _ => exact h.elim
theorem ed_meth {kk n : Nat} {f CA : Addr} {fd : FuncData} {ps : List Str} {g : List D → M D} {cn mn : Str} {pl : Sem Bool} (T : CI X.K X.mg cn CA) (hm : Meth X.K CA mn f) (F : FnOk X.prog X.w X.K X.mg X.base (L2.CX X.prog X.w) kk f fd ps (spD X.K X.mg n g)) (tk : Takes X W) (hr : Room kk X.A) (hb : Binds X.K fd ps []) (ho : ED X W ρ o mo) (ha : EA X W ρ (e :: es) (argsM ms)) (hl : ms.length + 1 = n := by rfl)
    (hst : NS1 X e es := by rfl) (hpl : NS2 X pos es := by rfl)
    (ht : MC X o mn apos pos (e :: es) pl := by rfl) :
    ED X W ρ (.Call (.Attribute o mn apos) (e :: es) [] pos) (methM cn mn g mo ms) :=
  PE.imp (pe_methV (pl := pl) ho T.cl hm F hr hb (fun σ => passAt tk σ) ha hst hpl ht) fun σ H Q ⟨G0, H0, G, S, si, h⟩ => ⟨G0, H0, G, S, si, okG.bind h fun G1 H1 S1 x d s1 f1 r1 h1 => by
    obtain ⟨⟨a, dx, gs, ev, ea, el⟩, h1⟩ := isA_ok s1 r1 T.mg h1
    refine ⟨a, dx, gs, ev, ea, el, G0, H0, G1, S1, s1, ?_⟩
    unfold M.bind at h1
    cases q : argsM ms S1 with
    | ok ds S2 =>
      rw [q] at h1
      exact fun vs G2 H2 s2 f2 r2 => ⟨G2, S2, d :: ds, by rw [List.length_cons, args_len q, hl], .cons (Rep.mono f2 r1) r2, s2.wf, okF_of (okG.from h1 f2) s2⟩
    | err _ _ => rw [q] at h1; exact h1
    | bad => rw [q] at h1; exact h1⟩
theorem ed_meth0 {kk : Nat} {f CA : Addr} {fd : FuncData} {ps : List Str} {g : List D → M D} {cn mn : Str} {pl : Sem Bool} (T : CI X.K X.mg cn CA) (hm : Meth X.K CA mn f) (F : FnOk X.prog X.w X.K X.mg X.base (L2.CX X.prog X.w) kk f fd ps (spD X.K X.mg 1 g)) (tk : Takes X W) (hr : Room kk X.A) (hb : Binds X.K fd ps []) (ho : ED X W ρ o mo)
    (ht : MC X o mn apos pos [] pl := by rfl) :
    ED X W ρ (.Call (.Attribute o mn apos) [] [] pos) (methM cn mn g mo []) :=
  PE.imp (pe_methV0 (pl := pl) ho T.cl hm F hr hb (fun σ => passAt tk σ) ht) fun σ H Q ⟨G0, H0, G, S, si, h⟩ => ⟨G0, H0, G, S, si, okG.bind h fun G1 H1 S1 x d s1 f1 r1 h1 => by
    obtain ⟨⟨a, dx, gs, ev, ea, el⟩, h1⟩ := isA_ok s1 r1 T.mg h1
    exact ⟨a, dx, gs, ev, ea, el, G1, S1, [d], rfl, .cons r1 .nil, s1.wf, okF_of h1 s1⟩⟩

/-! ### a new instance -/
def newM (cn : Str) (g : List D → M D) (ms : List (M D)) : M D := (argsM ms).bind fun ds S => match g (.ptr S.cells.length :: ds) { S with cells := S.cells ++ [.ins cn []] } with
  | .ok .non S' => .ok (.ptr S.cells.length) S'
  | .ok _ _ => .bad
  | .err e S' => .err e S'
  | .bad => .bad
theorem alloc_ins {K : PySem.W.Frag} {mg : Str → Option Value} {G : Gh} {H : Hp} {S : MS} {x dx CA : Addr} {cn : Str} (w : Wf K mg G H S) (hx : H x = none) (hd : H dx = none) (ne : dx ≠ x) (T : mg cn = some (.ref CA)) :
    FR G H { G with φ := G.φ ++ [x] } (upd (upd H dx (.own x)) x (.ins CA dx [])) ∧ Wf K mg { G with φ := G.φ ++ [x] } (upd (upd H dx (.own x)) x (.ins CA dx [])) { S with cells := S.cells ++ [.ins cn []] } := by
  have keep : ∀ b u, H b = some u → (upd (upd H dx (.own x)) x (.ins CA dx [])) b = some u := fun b u e => by rw [upd_ne (ne_of_none e hx), upd_ne (ne_of_none e hd)]; exact e
  have cc : ∀ b, Gh.cell { G with φ := G.φ ++ [x] } b → G.cell b ∨ b = x := fun b h => by
    rcases h with h | h | h
    · rcases List.mem_append.mp h with k | h
      · exact .inl (.inl k)
      · exact Or.inr (List.mem_singleton.mp h)
    · exact .inl (.inr (.inl h))
    · exact .inl (.inr (.inr h))
  have fr : FR G H { G with φ := G.φ ++ [x] } (upd (upd H dx (.own x)) x (.ins CA dx [])) :=
    ⟨List.prefix_append _ _, rfl, rfl, fun b u e _ => keep b u e, fun b h => (cc b h).elim .inl fun e => by rw [e]; exact .inr hx, fun b h => .inl h, fun b h => h, fun b u e => ⟨u, keep b u e⟩⟩
  have nx : ∀ b, G.mu b → b ≠ x := fun b h e => by
    obtain ⟨u, q⟩ := w.live b h
    rw [e, hx] at q; cases q
  refine ⟨fr, ⟨?_, ?_, ?_, ?_, keep _ _ w.ha, keep _ _ w.hb, w.sab, ?_, ?_, w.zs⟩⟩
  · show (G.φ ++ [x]).length = (S.cells ++ [Cell.ins cn []]).length
    rw [List.length_append, List.length_append, w.len]
    rfl
  · show (G.φ ++ [x]).Nodup
    rw [List.nodup_append]
    refine ⟨w.nd, by simp, fun a ha b hb => ?_⟩
    have e : b = x := by simpa using hb
    rw [e]
    exact nx a (.inl (.inl ha))
  · intro i c a h1 h2
    have h1 : (S.cells ++ [Cell.ins cn []])[i]? = some c := h1
    have h2 : (G.φ ++ [x])[i]? = some a := h2
    by_cases hi : i < S.cells.length
    · rw [List.getElem?_append_left hi] at h1
      rw [List.getElem?_append_left (by rw [w.len]; exact hi)] at h2
      have q := w.cell i c a h1 h2
      cases c with
      | lst ds => obtain ⟨xs, e, z, t⟩ := q; exact ⟨xs, keep _ _ e, z, t.mono fr⟩
      | dic kvs => obtain ⟨xs, e, z, t⟩ := q; exact ⟨xs, keep _ _ e, z, t.mono fr⟩
      | ins c fs => obtain ⟨C, dx, gs, m, e, t⟩ := q; exact ⟨C, dx, gs, m, keep _ _ e, t.mono fr⟩
    · rw [List.getElem?_append_right (by omega)] at h1
      rw [List.getElem?_append_right (by rw [w.len]; omega)] at h2
      have ei : i - S.cells.length = 0 := by
        have := (List.getElem?_eq_some_iff.mp h1).1
        simp at this
        omega
      rw [ei] at h1
      rw [w.len, ei] at h2
      cases h1; cases h2
      exact ⟨CA, dx, [], T, upd_same, .nil⟩
  · intro b h
    rcases h with h | h
    · rcases cc b h with h | h
      · obtain ⟨u, e⟩ := w.live b (.inl h)
        exact ⟨u, keep _ _ e⟩
      · rw [h]; exact ⟨_, upd_same⟩
    · obtain ⟨u, e⟩ := w.live b (.inr h)
      exact ⟨u, keep _ _ e⟩
  · intro h
    rcases List.mem_append.mp (show G.sa ∈ G.φ ++ [x] from h) with h | h
    · exact w.na h
    · exact nx G.sa (.inl (.inr (.inl rfl))) (by simpa using h)
  · intro h
    rcases List.mem_append.mp (show G.sb ∈ G.φ ++ [x] from h) with h | h
    · exact w.nb h
    · exact nx G.sb (.inl (.inr (.inr rfl))) (by simpa using h)
def tMakeV (C : Addr) (sp : Sp) (E : L2.St → XK) (t : TA) : TE := fun σ H Q => t σ H fun vs H1 => ∀ x dx, H1 x = none → H1 dx = none → dx ≠ x →
  sp (.ref x :: vs) (upd (upd H1 dx (.own x)) x (.ins C dx [])) (fun v H2 => v = .non ∧ Q (.ref x) H2) (E σ)
theorem pe_makeV {CX : CXT} {kk : Nat} {f CA : Addr} {fd : FuncData} {ps : List Str} {sp : Sp} {E : L2.St → XK} {x : Str} {t : TA} (M : Mk X.K CA f) (F : FnOk X.prog X.w X.K X.mg X.base CX kk f fd ps sp) (hr : Room (kk + 1) X.A) (hg : Gl X x) (hm : X.mg x = some (.ref CA)) (hb : Binds X.K fd ps []) (hx : ∀ σ, PassesAt CX X σ (E σ))
    (ha : PA X (e :: es) t) (hdb : (x == ("__debug__" : Str)) = false := by decide) (he : NS1 X e es := by rfl) (hpl : NS2 X pos es := by rfl) :
    PE X (.Call (.Name x p) (e :: es) [] pos) (tMakeV CA sp E t) := by
  constructor
  intro pins s σ H Q I h
  refine wpAny_Call_Name_kw (ld_glob I hg hm (PySem.W.callWith_K (h₀ := X.base) I.ok.mod.kin M.kp (wpAny_mono (ha.run pos pins s σ H _ I h) ?_ fun _ _ z => z) he hpl) hdb)
  rintro us t1 ⟨vs, H1, J1, rs, w⟩
  refine ⟨J1.kIn, ?_⟩
  -- the new instance stands at n, its dict ahead of it
  generalize en : t1.heap.objs.size + 1 = n
  have w0 := w n t1.heap.objs.size (J1.hok.fresh (by rw [← en]; exact Nat.le_succ _)) (J1.hok.fresh (Nat.le_refl _)) (by rw [← en]; exact (Nat.succ_ne_self _).symm)
  have J2 := Inv.made (C := CA) J1
  rw [en] at J2
  have rs' : Vals (V.ref n :: vs) (Value.ref n :: us) := .cons rfl rs
  have ln : (Value.ref n :: us).length = ps.length := by rw [← rs'.length]; exact F.len _ _ _ _ w0
  have bd := hb _ (Value.ref n :: us) J2.kIn (by rw [List.append_nil]; exact ln)
  rw [List.append_nil] at bd
  have run := F.run _ X.stack _ _ ⟨Value.ref n :: us, []⟩ (Value.ref n :: us) _ _ (E σ) (hr.make CA us []) (J2.env0.make CA us []) bd rs' w0
  subst en
  refine wpAny_call (make_map (f := f) J1.kIn M.makes M.init (beq_iff_eq.mp M.fn) (codeAny_mono run ?_))
  rintro (z | fl) t2 post
  · exact hx σ pins _ _ z t2 J2 post
  · cases fl with
    | ret u =>
      obtain ⟨v, H', J3, rv, ev, w3⟩ := J2.after post
      subst ev
      exact ⟨rv, ⟨.ref (t1.heap.objs.size + 1), H', J3, rfl, w3⟩⟩
    | _ => exact post.elim
theorem ed_make {kk n : Nat} {f CA : Addr} {fd : FuncData} {ps : List Str} {g : List D → M D} {x : Str} (T : CI X.K X.mg x CA) (mk : Mk X.K CA f) (F : FnOk X.prog X.w X.K X.mg X.base (L2.CX X.prog X.w) kk f fd ps (spD X.K X.mg n g)) (tk : Takes X W) (hr : Room (kk + 1) X.A) (hb : Binds X.K fd ps []) (ha : EA X W ρ (e :: es) (argsM ms)) (hl : ms.length + 1 = n := by rfl) (hg : Gl X x := by rfl)
    (hdb : (x == ("__debug__" : Str)) = false := by decide) (he : NS1 X e es := by rfl) (hpl : NS2 X pos es := by rfl) :
    ED X W ρ (.Call (.Name x p) (e :: es) [] pos) (newM x g ms) :=
  PE.imp (pe_makeV mk F hr hg T.mg hb (fun σ => passAt tk σ) ha hdb he hpl) fun σ H Q ⟨G0, H0, G, S, si, h⟩ => ⟨G0, H0, G, S, si, by
    unfold newM M.bind at h
    cases q : argsM ms S with
    | err _ _ => rw [q] at h; exact h
    | bad => rw [q] at h; exact h
    | ok ds S1 =>
      rw [q] at h
      intro vs G1 H1 s1 f1 r1 x' dx hx hd ne
      have h := okG.from h f1
      obtain ⟨fr, wf⟩ := alloc_ins s1.wf hx hd ne T.mg
      refine ⟨{ G1 with φ := G1.φ ++ [x'] }, _, .ptr S1.cells.length :: ds, by rw [List.length_cons, args_len q, hl], .cons (.ptr ?_) (r1.mono fr), wf, ?_⟩
      · show (G1.φ ++ [x'])[S1.cells.length]? = some x'
        rw [← s1.wf.len, List.getElem?_append_right (Nat.le_refl _), Nat.sub_self]
        rfl
      · simp only at h
        cases qg : g (.ptr S1.cells.length :: ds) { S1 with cells := S1.cells ++ [.ins x []] } with
        | ok d S2 =>
          rw [qg] at h
          intro v G2 H2 fr2 wf2 rv
          cases d with
          | non =>
            cases rv
            refine ⟨rfl, h (.ref x') G2 H2 (s1.mono (fr.trans fr2) wf2) (fr.trans fr2) (.ptr ?_)⟩
            obtain ⟨t, e⟩ := fr2.pre
            rw [← e]
            show ((G1.φ ++ [x']) ++ t)[S1.cells.length]? = some x'
            rw [List.append_assoc, ← s1.wf.len, List.getElem?_append_right (Nat.le_refl _), Nat.sub_self]
            rfl
          | _ => exact h.elim
        | err _ _ =>
          rw [qg] at h
          exact fun cls da G2 H2 fr2 wf2 r2 => h cls da G2 H2 (s1.mono (fr.trans fr2) wf2) (fr.trans fr2) r2
        | bad => rw [qg] at h; exact h⟩
end
end Dl

namespace Dl
open PySem L2

/-! ### errors -/
/-- the __init__ of an error: self.f = f -/
def spExc (C : Addr) (f : Str) : Sp := fun vs H Q _ => ∃ a v, vs = [.ref a, v] ∧ H a = some (exo a C none) ∧ ∀ dx, H dx = none → dx ≠ a → Q .non (upd (upd H dx (exd dx [(f, v)])) a (exo a C (some dx)))
/-- what is known of an error's class -/
structure XI (P : Program) (w : World) (K : PySem.W.Frag) (mg : Str → Option Value) (base : Heap) (c f : Str) (C fI : Addr) (fd : FuncData) : Prop where
  hm : mg c = some (.ref C)
  ox : OexC K C
  nf : PySem.W.findIn K (.ref C) f = some none
  iC : PySem.W.findIn K (.ref C) "__init__" = some (some (.ref fI))
  tI : PySem.W.typeIn K (.ref fI) = some (.type "function")
  ok : FnOk P w K mg base (L2.CX P w) 1 fI fd ["self", f] (spExc C f)
  bd : Binds K fd ["self", f] []
theorem ok_exc {P : Program} {w : World} {K : PySem.W.Frag} {mg : Str → Option Value} {base : Heap} {x f : Str} {st : Stmt} {fI C : Addr} {fd : FuncData} {p1 p2 p3 p4 : Pos} (F : Fun K "__init__" x st fI fd) (S : FnScope ["self", f] ["self", f] (defScope st)) (hb : defBody st = [.Assign [.Attribute (.Name "self" p1) f p2] (.Name f p3) p4])
    (T : OexC K C) (n : PySem.W.findIn K (.ref C) f = some none) (hl1 : (defScope st).names.lookup ("self" : Str) = some .local := by rfl) (hl2 : (defScope st).names.lookup f = some .local := by rfl) (hd : (f == ("__debug__" : Str)) = false := by decide) (hcd : (f == ("__classdict__" : Str)) = false := by decide) : FnOk P w K mg base (L2.CX P w) 1 fI fd ["self", f] (spExc C f) := by
  refine F.okX S (fun vs H Q E h => ?_) (fun cdv A outer s H vs Q E hr h => ?_)
  · obtain ⟨a, v, rfl, _⟩ := h
    rfl
  · obtain ⟨a, v, rfl, ha, q⟩ := h
    rw [hb]
    refine ⟨_, pss_one (ps_ost (pv 0 rfl (.inl hl1)) (pv 1 rfl (.inl hl2) hd hcd)), v, rfl, .ref a, rfl, a, C, rfl, T, n, .inl ⟨ha, fun dx hd ne => ?_⟩⟩
    exact q dx hd ne
section
variable {X : Cx} {C L : Type} {k : Ct C L} {ρ : List Slot} {a b c e o : Expr} {es : List Expr} {m mo mi mv : M D} {pos p p2 cp ap : Pos} {rest sts : List Stmt}
/-- raise C(e) -/
theorem sd_raise {x f : Str} {CA fI : Addr} {fd : FuncData} (w : Wk ρ k.x) (T : XI X.prog X.w X.K X.mg X.base x f CA fI fd) (tk : Takes X k.W) (hr : Room 2 X.A) (he : ED X k.W ρ e m) (hc : X.calm = true := by rfl) (hg : Gl X x := by rfl)
    (hdb : (x == ("__debug__" : Str)) = false := by decide) (hst : starEach (e :: []) X.env = (false, eval e X.env) :: starEach [] X.env := by rfl) (hpl : (backTo p2 (starEach [] X.env)).any (·.1) = false := by rfl) :
    SD X k ρ (.Raise (some (.Call (.Name x p) [e] [] p2)) none pos :: rest) (m.bind fun d => M.raise ⟨x, f, d⟩) := by
  refine PSs.imp (pss_cons (ps_raise hc tk (pmk_oex T.ox T.iC T.tI T.ok hr T.bd .nil passL hg T.hm (pa_cons he pa_nil hst) hdb hst hpl)) pss_never) fun D σ H ⟨G0, H0, G, S, si, h⟩ => ?_
  refine ⟨G0, H0, G, S, si, okS.bind2 h w fun G1 H1 S1 v d s1 f1 r1 h1 => ?_⟩
  refine ⟨by show 1 ≤ 1000; decide, fun a ha => ⟨a, v, rfl, upd_same, fun dx hdx ne => ⟨rfl, dx, [(f, v)], upd_same, ?_, ?_, ?_⟩⟩⟩
  · rw [upd_ne ne, upd_same]
  · rw [upd_ne ne] at hdx; exact hdx
  · have hdx' : H1 dx = none := by rw [upd_ne ne] at hdx; exact hdx
    have eH : upd (del (upd (upd (upd H1 a (exo a CA none)) dx (exd dx [(f, v)])) a (exo a CA (some dx))) a) dx (.xd [(f, v)]) = upd H1 dx (.xd [(f, v)]) := by
      funext b
      by_cases e1 : b = dx
      · rw [e1, upd_same, upd_same]
      · rw [upd_ne e1, upd_ne e1]
        by_cases e2 : b = a
        · rw [e2, del_same, ha]
        · rw [del_ne e2, upd_ne e2, upd_ne e1, upd_ne e2]
    rw [eH]
    exact h1 (.ref CA) (some dx) σ G1 _ ((s1.weak w).alloc hdx') (FR.alloc hdx').lr ⟨CA, dx, v, T.hm, rfl, rfl, upd_same, s1.wf.fresh hdx', Rep.mono (.alloc hdx') r1⟩
/-- try .. except x as n: what is raised of the class x is handled; that of the classes in no goes on -/
def tryM {α : Type} (x f : Str) (no : List Str) (m : M α) (hd : D → M α) : M α := fun S => match m S with
  | .err e S' => if e.cls = x then (if e.fld = f then calmM (hd e.val) S' else .bad) else if no.contains e.cls = true then .err e S' else .bad
  | r => r
theorem sd_try {J : Type} (emb : J → List Slot) (ρx : List Slot) {x n f : Str} {CA : Addr} {no : List Str} {i : Nat} {body suite : List Stmt} {b₀ : Stmt} {np pos' : Pos} {mb : M (Fl J L)} {mh : D → M (Fl J L)} {fr : J → M (Fl C L)}
    (w : Wk ρ k.x) (wx : Wk ρx k.x) (hmg : X.mg x = some (.ref CA)) (tk : Takes X k.W) (hN : X.N.Nodup)
    (hyes : PySem.W.exmOne X.K (.ref CA) (.ref CA) = some true) (hno : ∀ y ∈ no, ∀ C', X.mg y = some (.ref C') → PySem.W.exmOne X.K (.ref C') (.ref CA) = some false)
    (hb : ∀ (W : WX) (pn : List (Addr × Obj)) (xe : Value → Shared → Prop), Takes (X.tr pn xe) W → PassesOwn (model X.prog X.w) X.A X.env xe → SD (X.tr pn xe) (⟨W, ρx, emb, k.embL, k.R⟩ : Ct J L) ρ body mb)
    (hsu : ∀ (a dd : Addr) (oe : Obj) (d : D) (pn : List (Addr × Obj)), Zc (.ref CA) (some dd) oe → (∃ vs, oe.data = .fields vs) → SD (X.suite a ((a, oe) :: pn)) (⟨W0, List.replicate ρx.length .any, emb, k.embL, k.R⟩ : Ct J L) (ρx.set i (.exc a dd f d)) (b₀ :: suite) (mh d))
    (hr : ∀ c, SD X k (emb c) rest (fr c))
    (he : ∀ c, (emb c)[i]? = some .any) (hel : ∀ l, (k.embL l)[i]? = some .any ∨ (k.embL l)[i]? = none)
    (hi : X.N[i]? = some n := by rfl) (hln : X.env.kindOf n = some .local := by rfl) (hgx : Gl X x := by rfl) (hdx : (x == ("__debug__" : Str)) = false := by decide) (hs : X.stack = X.env :: X.outer := by rfl) (hf : X.env.frame = some X.env.locals := by rfl) :
    SD X k ρ (.Try body [.ExceptHandler (some (.Name x np)) (some n) (b₀ :: suite) pos'] [] [] pos :: rest) (thenM (tryM x f no mb mh) fr) := by
  let ur : TS := fun D σ H => ∃ c, tS X.K X.mg k (emb c) (fr c) D σ H
  have hur : PSs X rest ur := ⟨fun pins s σ H D I ⟨c, q⟩ => (hr c).run pins s σ H D I q⟩
  let ts : Addr → Value → Option Addr → TS := fun a cls d D σ H => ∃ dd dat, cls = .ref CA ∧ d = some dd ∧ tS X.K X.mg (⟨W0, List.replicate ρx.length .any, emb, k.embL, k.R⟩ : Ct J L) (ρx.set i (.exc a dd f dat)) (mh dat) D σ H
  have hts : ∀ (a : Addr) (oe : Obj) (cls : Value) (d : Option Addr) (pn : List (Addr × Obj)), Zc cls d oe → (∃ vs, oe.data = .fields vs) → PSs (X.suite a ((a, oe) :: pn)) (b₀ :: suite) (ts a cls d) := fun a oe cls d pn hz hv => ⟨fun pins s σ H D I ⟨dd, dat, e1, e2, q⟩ => by
    subst e1 e2
    exact (hsu a dd oe dat pn hz hv).run pins s σ H D I q⟩
  refine PSs.imp (pss_cons (ps_try_as (tb := fun W => tS X.K X.mg (⟨W, ρx, emb, k.embL, k.R⟩ : Ct J L) ρ mb) hs hf hN hi hln ⟨hgx, hdx, .inl hmg⟩ tk hb hts) hur) fun D σ H ⟨G0, H0, G, S, si, h⟩ => ?_
  have h1 : okS X.K X.mg (k.to emb) G0 H0 G H { D with nx := ur D } (tryM x f no mb mh S) := okS.then h (fun c S1 σ G H si _ h => ⟨c, G0, H0, G, S1, si, h⟩) rfl rfl rfl
  refine ⟨G0, H0, G, S, si, ?_⟩
  unfold tryM at h1
  cases q : mb S with
  | ok z S1 => rw [q] at h1; cases z <;> exact h1
  | bad => rw [q] at h1; exact h1
  | err er S1 =>
    rw [q] at h1
    intro cls da σ' G' H' s' lr erep
    obtain ⟨C', dd, v, hC, e1, e2, hdd, hmu, rv⟩ := erep
    subst e1 e2
    simp only at h1
    by_cases ec : er.cls = x
    · rw [if_pos ec] at h1
      by_cases ef : er.fld = f
      case neg => rw [if_neg ef] at h1; exact h1.elim
      rw [if_pos ef] at h1
      rw [ef] at hdd
      rw [ec, hmg] at hC; cases hC
      refine ⟨true, hyes, fun _ a ha => ?_, (fun z => nomatch z)⟩
      refine ⟨dd, er.val, rfl, rfl, G0, H0, G', S1, ?_, ?_⟩
      · -- the name holds the error
        have hlen : σ'.length = ρx.length := s'.len
        refine ⟨s'.fr, s'.live0, s'.wf, by rw [List.length_set, List.length_set]; exact s'.len, fun j y hy => ?_, fun j j' ds es l nj h1 h2 h3 => ?_⟩
        · by_cases ej : i = j
          · subst ej
            by_cases hl : i < ρx.length
            · rw [List.getElem?_set_self hl] at hy
              cases hy
              exact ⟨List.getElem?_set_self (by rw [hlen]; exact hl), v, hdd, hmu, rv⟩
            · rw [List.getElem?_eq_none (by rw [List.length_set]; omega)] at hy; cases hy
          · rw [List.getElem?_set_ne ej] at hy ⊢
            exact s'.env j y hy
        · have ne : ∀ {c : Nat} {fs : List Dl.D}, (ρx.set i (.exc a dd f er.val))[c]? = some (.own fs) → i ≠ c ∧ ρx[c]? = some (.own fs) := fun {c fs} h => by
            by_cases e : i = c
            · subst e
              by_cases hl : i < ρx.length
              · rw [List.getElem?_set_self hl] at h; cases h
              · rw [List.getElem?_eq_none (by rw [List.length_set]; omega)] at h; cases h
            · rw [List.getElem?_set_ne e] at h
              exact ⟨e, h⟩
          obtain ⟨n1, q1⟩ := ne h1
          obtain ⟨n2, q2⟩ := ne h2
          rw [List.getElem?_set_ne n1] at h3
          rw [List.getElem?_set_ne n2]
          exact s'.apart j j' ds es l nj q1 q2 h3
      · -- behind the suite the name is gone
        have gone : ∀ {σ2 : L2.St} {G2 : Gh} {H2 : Hp} {S2 : MS} {ρ2 : List Slot}, SI X.K X.mg G0 H0 G2 H2 σ2 ρ2 S2 → (ρ2[i]? = some .any ∨ ρ2[i]? = none) → SI X.K X.mg G0 H0 G2 H2 (σ2.set i none) ρ2 S2 := fun {σ2 G2 H2 S2 ρ2} s2 hρ => by
          have noti : ∀ {j : Nat} {y : Slot}, ρ2[j]? = some y → y ≠ .any → i ≠ j := fun {j y} hy ny e => by
            subst e
            rcases hρ with hρ | hρ
            · rw [hρ] at hy; cases hy; exact ny rfl
            · rw [hρ] at hy; cases hy
          refine ⟨s2.fr, s2.live0, s2.wf, by rw [List.length_set]; exact s2.len, fun j y hy => ?_, fun j j' ds es l nj h1 h2 h3 => ?_⟩
          · cases y with
            | any => trivial
            | val d => rw [List.getElem?_set_ne (noti hy (fun z => nomatch z))]; exact s2.env j _ hy
            | own d => rw [List.getElem?_set_ne (noti hy (fun z => nomatch z))]; exact s2.env j _ hy
            | exc _ _ _ _ => rw [List.getElem?_set_ne (noti hy (fun z => nomatch z))]; exact s2.env j _ hy
          · rw [List.getElem?_set_ne (noti h1 (fun z => nomatch z))] at h3
            rw [List.getElem?_set_ne (noti h2 (fun z => nomatch z))]
            exact s2.apart j j' ds es l nj h1 h2 h3
        have h2 := okS.from h1 lr
        unfold calmM at h2
        cases qh : mh er.val S1 with
        | ok z S2 =>
          rw [qh] at h2
          cases z with
          | nx c => exact fun σ3 G3 H3 s3 l3 => h2 _ G3 H3 (gone s3 (.inl (he c))) l3
          | ret d => exact h2
          | brk l => exact fun σ3 G3 H3 s3 l3 => h2 _ G3 H3 (gone s3 (hel l)) l3
          | cnt l => exact fun σ3 G3 H3 s3 l3 => h2 _ G3 H3 (gone s3 (hel l)) l3
        | err _ _ => rw [qh] at h2; exact h2.elim
        | bad => rw [qh] at h2; exact h2
    · rw [if_neg ec] at h1
      by_cases en : no.contains er.cls = true
      · rw [if_pos en] at h1
        refine ⟨false, hno _ (by simpa using en) C' hC, (fun z => nomatch z), fun _ => ?_⟩
        exact h1 _ _ σ' G' H' (s'.weak wx) lr ⟨C', dd, v, hC, rfl, rfl, hdd, hmu, rv⟩
      · rw [if_neg en] at h1; exact h1.elim
/-- e.f of a caught error -/
theorem ed_xf {W : WX} {i : Nat} {n f : Str} {CA aa dd : Addr} {oe : Obj} {d : D} {pn : List (Addr × Obj)} {np : Pos} (T : XfC X.K CA) (hno : PySem.W.findIn X.K (.ref CA) f = some none) (hz : Zc (.ref CA) (some dd) oe) (hv : ∃ vs, oe.data = .fields vs)
    (hρ : ρ[i]? = some (.exc aa dd f d)) (hN : X.N[i]? = some n := by rfl) (hvis : Vis X.env.scope n := by first | exact Or.inl rfl | exact Or.inr (Or.inl rfl) | exact Or.inr (Or.inr rfl)) (hd : (n == ("__debug__" : Str)) = false := by decide) (hcd : (n == ("__classdict__" : Str)) = false := by decide)
    (hb : attributeBase (.Name n np) f X.env (eval (.Name n np) X.env) = eval (.Name n np) X.env := by rfl) :
    ED (X.suite aa ((aa, oe) :: pn)) W ρ (.Attribute (.Name n np) f pos) (M.pure d) :=
  PE.imp (pe_xf T hno hz hv (pv i hN hvis hd hcd) hb) fun σ H Q ⟨G0, H0, G, S, si, h⟩ => by
    obtain ⟨e, v, hdd, hmu, rv⟩ := si.env i _ hρ
    exact ⟨_, e, rfl, rfl, dd, _, v, rfl, hdd, by rw [List.lookup_cons_self], okG.here h si rv⟩
end
end Dl

namespace Dl
open PySem L2

/-! ### a def as a computation -/
def finM (m : M (Fl Unit Empty)) : M D := m.bind fun z => match z with
  | .nx _ => M.pure .non
  | .ret d => M.pure d
  | .brk l => l.elim
  | .cnt l => l.elim
/-- the context of a def's body -/
def Ct.fn (K : PySem.W.Frag) (n : Nat) (E : XK) : Ct Unit Empty := ⟨fun cls d _ H => E cls d H, List.replicate n .any, fun _ => List.replicate n .any, fun l => l.elim, fun _ G H v d => Rep K G H v d⟩
/-- a new list is handed back, which nobody else knows -/
def RNw (K : PySem.W.Frag) : Hp → Gh → Hp → V → D → Prop := fun H0 G H v d => ∃ l xs ds, d = .lst ds ∧ v = .ref l ∧ H0 l = none ∧ H l = some (.lst xs) ∧ xs.length ≤ sizeLine ∧ G.O l ∧ ¬ G.cell l ∧ Reps K G H xs ds
def Ct.fnN (K : PySem.W.Frag) (n : Nat) (E : XK) : Ct Unit Empty := ⟨fun cls d _ H => E cls d H, List.replicate n .any, fun _ => List.replicate n .any, fun l => l.elim, RNw K⟩
def finN (m : M (Fl Unit Empty)) : M (List D) := m.bind fun z => match z with
  | .ret (.lst ds) => M.pure ds
  | _ => M.bad
def args (n : Nat) (ds : List D) : List Slot := ds.map .val ++ List.replicate (n - ds.length) .any
section
variable {P : Program} {w : World} {K : PySem.W.Frag} {base : Heap} {mg : Str → Option Value}
theorem si_start {G : Gh} {H : Hp} {S : MS} {N : List Str} {vs : List V} {ds : List D} (wf : Wf K mg G H S) (r : Reps K G H vs ds) : SI K mg G H G H (L2.start N vs) (args N.length ds) S where
  fr := .refl G H
  live0 := wf.live
  wf := wf
  len := by unfold L2.start args; rw [List.length_append, List.length_append, List.length_map, List.length_map, List.length_replicate, List.length_replicate, r.length]
  env := fun i s h => by
    unfold args at h
    by_cases hi : i < ds.length
    · rw [List.getElem?_append_left (by rw [List.length_map]; exact hi), List.getElem?_map] at h
      cases q : ds[i]? with
      | none => rw [q] at h; cases h
      | some d =>
        rw [q] at h
        cases h
        obtain ⟨v, hv, rv⟩ := r.get q
        refine ⟨v, ?_, rv⟩
        unfold L2.start
        rw [List.getElem?_append_left (by rw [List.length_map, r.length]; exact hi), List.getElem?_map, hv]
        rfl
    · rw [List.getElem?_append_right (by rw [List.length_map]; omega), List.getElem?_replicate] at h
      split at h
      · cases h; trivial
      · cases h
  apart := fun i j ds' es l n h1 => by
    unfold args at h1
    by_cases hi : i < ds.length
    · rw [List.getElem?_append_left (by rw [List.length_map]; exact hi), List.getElem?_map] at h1
      cases q : ds[i]? with
      | none => rw [q] at h1; cases h1
      | some d => rw [q] at h1; cases h1
    · rw [List.getElem?_append_right (by rw [List.length_map]; omega), List.getElem?_replicate] at h1
      split at h1
      · cases h1
      · cases h1
/-- THE RULE for a def: its body's computation -/
theorem fn_of_D {x qual : Str} {st : Stmt} {f : Addr} {fd : FuncData} {N ps : List Str} {k : Nat} {g : List D → M D} (F : Fun K x qual st f fd) (S : FnScope N ps (defScope st))
    (hb : ∀ (ds : List D), ds.length = ps.length → ∀ (cdv : Value) (A : Around) (outer : List Env) (s : Shared) (H : Hp) (E : XK), Room k (A.deeper (PyProof.Rows.envOfC qual (defScope st) s.heap.objs.size f cdv)) →
      Takes (cxOf (L2.CX P w) P w K mg base N qual (defScope st) f cdv A outer s H E) (fun cls d _ H => E cls d H) → PassesOwn (model P w) (A.deeper (PyProof.Rows.envOfC qual (defScope st) s.heap.objs.size f cdv)) (PyProof.Rows.envOfC qual (defScope st) s.heap.objs.size f cdv) (cxOf (L2.CX P w) P w K mg base N qual (defScope st) f cdv A outer s H E).xe →
      ∃ m : M (Fl Unit Empty), g ds = finM m ∧ SD (cxOf (L2.CX P w) P w K mg base N qual (defScope st) f cdv A outer s H E) (Ct.fn K N.length E) (args N.length ds) (defBody st) m) :
    FnOk P w K mg base (L2.CX P w) (k + 1) f fd ps (spD K mg ps.length g) := by
  refine F.okX S (fun vs H Q E h => spD_len h) (fun cdv A outer s H vs Q E hr h => ?_)
  obtain ⟨G, S', ds, hl, r, wf, h⟩ := h
  obtain ⟨m, e, hm⟩ := hb ds hl cdv A outer s H E hr (takes_of rfl rfl rfl rfl) (passes_of rfl)
  refine ⟨_, hm, G, H, G, S', si_start wf r, ?_⟩
  rw [e] at h
  unfold finM M.bind at h
  cases q : m S' with
  | ok z S1 =>
    rw [q] at h
    cases z with
    | nx c => exact fun σ G' H' s' _ => h .non G' H' s'.fr s'.wf .non
    | ret d => exact fun v G' H' fr wf r => h v G' H' fr wf r
    | brk l => exact l.elim
    | cnt l => exact l.elim
  | err x S1 =>
    rw [q] at h
    exact fun cls da σ G' H' s' _ r => h cls da G' H' s'.fr s'.wf r
  | bad => rw [q] at h; exact h
end

section
variable (K : PySem.W.Frag) (mg : Str → Option Value)
def okFN (G : Gh) (H : Hp) (Q : VK) (E : XK) : Res (List D) → Prop
  | .ok ds S => ∀ l xs G' H', FR G H G' H' → Wf K mg G' H' S → H l = none → H' l = some (.lst xs) → xs.length ≤ sizeLine → G'.O l → ¬ G'.cell l → Reps K G' H' xs ds → Q (.ref l) H'
  | .err e S => ∀ cls da G' H', FR G H G' H' → Wf K mg G' H' S → ErrRep K mg G' H' e cls da → E cls da H'
  | .bad => False
def spN (n : Nat) (f : List D → M (List D)) : Sp := fun vs H Q E => ∃ G S ds, ds.length = n ∧ Reps K G H vs ds ∧ Wf K mg G H S ∧ okFN K mg G H Q E (f ds S)
end
section
variable {P : Program} {w : World} {K : PySem.W.Frag} {base : Heap} {mg : Str → Option Value}
theorem fn_of_N {x qual : Str} {st : Stmt} {f : Addr} {fd : FuncData} {N ps : List Str} {k : Nat} {g : List D → M (List D)} (F : Fun K x qual st f fd) (S : FnScope N ps (defScope st))
    (hb : ∀ (ds : List D), ds.length = ps.length → ∀ (cdv : Value) (A : Around) (outer : List Env) (s : Shared) (H : Hp) (E : XK), Room k (A.deeper (PyProof.Rows.envOfC qual (defScope st) s.heap.objs.size f cdv)) →
      Takes (cxOf (L2.CX P w) P w K mg base N qual (defScope st) f cdv A outer s H E) (fun cls d _ H => E cls d H) → PassesOwn (model P w) (A.deeper (PyProof.Rows.envOfC qual (defScope st) s.heap.objs.size f cdv)) (PyProof.Rows.envOfC qual (defScope st) s.heap.objs.size f cdv) (cxOf (L2.CX P w) P w K mg base N qual (defScope st) f cdv A outer s H E).xe →
      ∃ m : M (Fl Unit Empty), g ds = finN m ∧ SD (cxOf (L2.CX P w) P w K mg base N qual (defScope st) f cdv A outer s H E) (Ct.fnN K N.length E) (args N.length ds) (defBody st) m) :
    FnOk P w K mg base (L2.CX P w) (k + 1) f fd ps (spN K mg ps.length g) := by
  refine F.okX S (fun vs H Q E h => ?_) (fun cdv A outer s H vs Q E hr h => ?_)
  · obtain ⟨G, S', ds, hl, r, _⟩ := h
    rw [r.length, hl]
  obtain ⟨G, S', ds, hl, r, wf, h⟩ := h
  obtain ⟨m, e, hm⟩ := hb ds hl cdv A outer s H E hr (takes_of rfl rfl rfl rfl) (passes_of rfl)
  refine ⟨_, hm, G, H, G, S', si_start wf r, ?_⟩
  rw [e] at h
  unfold finN M.bind at h
  cases q : m S' with
  | ok z S1 =>
    rw [q] at h
    cases z with
    | nx c => exact h.elim
    | ret d =>
      intro v G' H' fr wf r
      obtain ⟨l, xs, ds, rfl, rfl, hn, hl, z, ho, hc, t⟩ := r
      exact h l xs G' H' fr wf hn hl z ho hc t
    | brk l => exact l.elim
    | cnt l => exact l.elim
  | err x S1 =>
    rw [q] at h
    exact fun cls da σ G' H' s' _ r => h cls da G' H' s'.fr s'.wf r
  | bad => rw [q] at h; exact h
end

/-! ### what a caller must know of defs, methods, classes, errors -/
section
variable (P : Program) (w : World) (K : PySem.W.Frag) (mg : Str → Option Value) (base : Heap)
def FI (x : Str) (ps : List Str) (k : Nat) (g : List D → M D) : Prop :=
  ∃ f fd, mg x = some (.ref f) ∧ PySem.W.keepIn K (.ref f) = true ∧ Binds K fd ps [] ∧ FnOk P w K mg base (L2.CX P w) k f fd ps (spD K mg ps.length g)
def FN (x : Str) (ps : List Str) (k : Nat) (g : List D → M (List D)) : Prop :=
  ∃ f fd, mg x = some (.ref f) ∧ PySem.W.keepIn K (.ref f) = true ∧ Binds K fd ps [] ∧ FnOk P w K mg base (L2.CX P w) k f fd ps (spN K mg ps.length g)
def MI (c m : Str) (ps : List Str) (k : Nat) (g : List D → M D) : Prop :=
  ∃ C f fd, CI K mg c C ∧ Meth K C m f ∧ Binds K fd ps [] ∧ FnOk P w K mg base (L2.CX P w) k f fd ps (spD K mg ps.length g)
def KI (c : Str) (ps : List Str) (k : Nat) (g : List D → M D) : Prop :=
  ∃ C f fd, CI K mg c C ∧ Mk K C f ∧ Binds K fd ps [] ∧ FnOk P w K mg base (L2.CX P w) k f fd ps (spD K mg ps.length g)
def EI (c f : Str) : Prop := ∃ C fI fd, XI P w K mg base c f C fI fd
/-- what a clause that catches an error must know -/
def EX (c f : Str) : Prop := ∃ C, mg c = some (.ref C) ∧ PySem.W.exmOne K (.ref C) (.ref C) = some true ∧ XfC K C ∧ PySem.W.findIn K (.ref C) f = some none
/-- a field that no class has as an attribute of its own -/
def NA (c f : Str) : Prop := ∃ C, CI K mg c C ∧ NoAttr K C f
end
section
variable {X : Cx} {W : WX} {ρ : List Slot} {a b c e o : Expr} {es : List Expr} {m mo mv : M D} {ms : List (M D)} {pos p apos p2 : Pos}
theorem ed_callF {x : Str} {ps : List Str} {k : Nat} {g : List D → M D} (F : FI X.prog X.w X.K X.mg X.base x ps k g) (tk : Takes X W) (hr : Room k X.A) (ha : EA X W ρ (e :: es) (argsM ms)) (hl : ms.length = ps.length := by rfl) (hn : (e :: es).length = ps.length := by rfl) (hg : Gl X x := by rfl)
    (hdb : (x == ("__debug__" : Str)) = false := by decide) (he : NS1 X e es := by rfl) (hpl : NS2 X pos es := by rfl) :
    ED X W ρ (.Call (.Name x p) (e :: es) [] pos) (callM g ms) := by
  obtain ⟨f, fd, h1, h2, h3, h4⟩ := F
  exact ed_call h4 tk hr h1 h2 h3 ha hn hg hdb he hpl hl
theorem en_callN {x : Str} {ps : List Str} {k : Nat} {g : List D → M (List D)} (F : FN X.prog X.w X.K X.mg X.base x ps k g) (tk : Takes X W) (hr : Room k X.A) (ha : EA X W ρ (e :: es) (argsM ms)) (hl : ms.length = ps.length := by rfl) (hg : Gl X x := by rfl)
    (hdb : (x == ("__debug__" : Str)) = false := by decide) (he : NS1 X e es := by rfl) (hpl : NS2 X pos es := by rfl) :
    EN X W ρ (.Call (.Name x p) (e :: es) [] pos) ((argsM ms).bind g) := by
  obtain ⟨f, fd, h1, h2, h3, h4⟩ := F
  refine PE.imp (pe_callS h4 hr hg h1 h2 h3 (fun σ => passAt tk σ) ha hdb he hpl) fun σ H Q ⟨G0, H0, G, S, si, h⟩ => ⟨G0, H0, G, S, si, ?_⟩
  unfold M.bind at h
  cases q : argsM ms S with
  | ok ds S1 =>
    rw [q] at h
    refine fun vs G1 H1 s1 f1 r1 => ⟨G1, S1, ds, by rw [args_len q, hl], r1, s1.wf, ?_⟩
    have h : okN X.K X.mg W G0 H0 G1 H1 σ ρ Q (g ds S1) := okN.from h f1
    cases qg : g ds S1 with
    | ok es S2 =>
      rw [qg] at h
      exact fun l xs G' H' fr wf n hl' z ho hc t => h l xs G' H' (s1.mono fr wf) fr n hl' z ho hc t
    | err _ _ =>
      rw [qg] at h
      exact fun cls da G' H' fr wf r => h cls da G' H' (s1.mono fr wf) fr r
    | bad =>
      rw [qg] at h
      exact h
  | err _ _ => rw [q] at h; exact h
  | bad => rw [q] at h; exact h
theorem ed_methF {cn mn : Str} {ps : List Str} {k : Nat} {g : List D → M D} {pl : Sem Bool} (F : MI X.prog X.w X.K X.mg X.base cn mn ps k g) (tk : Takes X W) (hr : Room k X.A) (ho : ED X W ρ o mo) (ha : EA X W ρ (e :: es) (argsM ms)) (hl : ms.length + 1 = ps.length := by rfl)
    (hst : NS1 X e es := by rfl) (hpl : NS2 X pos es := by rfl)
    (ht : MC X o mn apos pos (e :: es) pl := by rfl) :
    ED X W ρ (.Call (.Attribute o mn apos) (e :: es) [] pos) (methM cn mn g mo ms) := by
  obtain ⟨C, f, fd, h1, h2, h3, h4⟩ := F
  exact ed_meth (pl := pl) h1 h2 h4 tk hr h3 ho ha hl hst hpl ht
theorem ed_methF0 {cn mn sn : Str} {k : Nat} {g : List D → M D} {pl : Sem Bool} (F : MI X.prog X.w X.K X.mg X.base cn mn [sn] k g) (tk : Takes X W) (hr : Room k X.A) (ho : ED X W ρ o mo)
    (ht : MC X o mn apos pos [] pl := by rfl) :
    ED X W ρ (.Call (.Attribute o mn apos) [] [] pos) (methM cn mn g mo []) := by
  obtain ⟨C, f, fd, h1, h2, h3, h4⟩ := F
  exact ed_meth0 (pl := pl) h1 h2 h4 tk hr h3 ho ht
theorem ed_makeF {x : Str} {ps : List Str} {k : Nat} {g : List D → M D} (F : KI X.prog X.w X.K X.mg X.base x ps k g) (tk : Takes X W) (hr : Room (k + 1) X.A) (ha : EA X W ρ (e :: es) (argsM ms)) (hl : ms.length + 1 = ps.length := by rfl) (hg : Gl X x := by rfl)
    (hdb : (x == ("__debug__" : Str)) = false := by decide) (he : NS1 X e es := by rfl) (hpl : NS2 X pos es := by rfl) :
    ED X W ρ (.Call (.Name x p) (e :: es) [] pos) (newM x g ms) := by
  obtain ⟨C, f, fd, h1, h2, h3, h4⟩ := F
  exact ed_make h1 h2 h4 tk hr h3 ha hl hg hdb he hpl
theorem ed_fldF {cn f : Str} (T : NA X.K X.mg cn f) (he : ED X W ρ e m) (hb : attributeBase e f X.env (eval e X.env) = eval e X.env := by rfl) : ED X W ρ (.Attribute e f pos) (una (dFld cn f) m) := by
  obtain ⟨C, h1, h2⟩ := T
  exact ed_fld h1 h2 he hb
variable {C L : Type} {k : Ct C L} {rest : List Stmt}
theorem sd_fldF {cn f : Str} {mr : M (Fl C L)} (w : Wk ρ k.x) (T : NA X.K X.mg cn f) (ho : ED X k.W ρ o mo) (he : ED X k.W ρ e mv) (hr : SD X k ρ rest mr) (hs : swapsWith e (some (.Attribute o f p)) pos.line X.env = pure false := by rfl) :
    SD X k ρ (.Assign [.Attribute o f p] e pos :: rest) (mv.bind fun v => mo.bind fun o => (setF cn f o v).bind fun _ => mr) := by
  obtain ⟨CA, h1, h2⟩ := T
  exact sd_fld w h1 h2 ho he hr hs
theorem sd_raiseF {x f : Str} (w : Wk ρ k.x) (T : EI X.prog X.w X.K X.mg X.base x f) (tk : Takes X k.W) (hr : Room 2 X.A) (he : ED X k.W ρ e m) (hc : X.calm = true := by rfl) (hg : Gl X x := by rfl)
    (hdb : (x == ("__debug__" : Str)) = false := by decide) (hst : starEach (e :: []) X.env = (false, eval e X.env) :: starEach [] X.env := by rfl) (hpl : (backTo p2 (starEach [] X.env)).any (·.1) = false := by rfl) :
    SD X k ρ (.Raise (some (.Call (.Name x p) [e] [] p2)) none pos :: rest) (m.bind fun d => M.raise ⟨x, f, d⟩) := by
  obtain ⟨CA, fI, fd, T⟩ := T
  exact sd_raise w T tk hr he hc hg hdb hst hpl
end

/-! ### the law's stream -/
def fill : List Int → Int → Int → List Int × Int × Int
  | [], cur, mix => ([], cur, mix)
  | x :: xs, cur, mix => if cur = 0 then (if x < 10 ^ 18 then fill xs 0 ((mix * 31 + x + 7) % 2147483647) else (xs, x, mix)) else (x :: xs, cur, mix)
def Strm.full (s : Strm) : Strm := let f := fill s.xs s.cur s.mix; ⟨f.1, f.2.1, s.cnt, f.2.2⟩
def Strm.mixd (s : Strm) : Int := ((s.mix + 104729 * (s.cnt + 1) + 17) ^ 5) % 2147483629
def Strm.last (s : Strm) : Int := ((s.mixd * 48271 + 40503 * (s.cnt + 1) * (s.cnt + 1) + 13) ^ 3) % 1000000007
def Strm.take (s : Strm) (n : Int) : Int := if 0 < s.full.cur then s.full.cur % n else s.full.last % n
def Strm.next (s : Strm) (n : Int) : Strm := if 0 < s.full.cur then { s.full with cur := s.full.cur / n } else { s.full with cnt := s.full.cnt + 1 }
/-- a stream from which so many numbers may be drawn -/
def Strm.good (s : Strm) : Bool := decide (0 ≤ s.mix) && decide (s.mix < 2147483647) && decide (0 ≤ s.cnt) && decide (s.cnt < 8388607) && decide (0 ≤ s.cur)
def drawD (st n : D) : M D := fun S => match st, n with
  | .strm, .int n => if (decide (0 < n) && decide (n < 1073741824) && S.st.good) = true then .ok (.int (S.st.take n)) { S with st := S.st.next n } else .bad
  | _, _ => .bad
theorem fill_mix : ∀ (xs : List Int) (cur mix : Int), 0 ≤ mix → mix < 2147483647 → 0 ≤ (fill xs cur mix).2.2 ∧ (fill xs cur mix).2.2 < 2147483647
  | [], cur, mix, h1, h2 => ⟨h1, h2⟩
  | x :: xs, cur, mix, h1, h2 => by
    unfold fill
    by_cases e : cur = 0
    · rw [if_pos e]
      by_cases q : x < 10 ^ 18
      · rw [if_pos q]
        exact fill_mix xs 0 _ (Int.emod_nonneg _ (by decide)) (Int.emod_lt_of_pos _ (by decide))
      · rw [if_neg q]; exact ⟨h1, h2⟩
    · rw [if_neg e]; exact ⟨h1, h2⟩
theorem fill_cur : ∀ (xs : List Int) (cur mix : Int), 0 ≤ cur → 0 ≤ (fill xs cur mix).2.1
  | [], cur, mix, h => h
  | x :: xs, cur, mix, h => by
    unfold fill
    by_cases e : cur = 0
    · rw [if_pos e]
      by_cases q : x < 10 ^ 18
      · rw [if_pos q]; exact fill_cur xs 0 _ (Int.le_refl _)
      · rw [if_neg q]
        have : (10 : Int) ^ 18 ≤ x := Int.not_lt.mp q
        exact Int.le_trans (by decide) this
    · rw [if_neg e]; exact h
end Dl

namespace Dl
open PySem L2

/-! ### new lists -/
section
variable {X : Cx} {W : WX} {ρ : List Slot} {a b c e o : Expr} {es : List Expr} {m mo mv ma mb : M D} {ms : List (M D)} {pos p apos p2 : Pos} {tc : M Bool} {na nb : M (List D)}
theorem en_if (hc : ET X W ρ c tc) (ha : EN X W ρ a na) (hb : EN X W ρ b nb) : EN X W ρ (.IfExp c a b pos) (ifM tc na nb) :=
  PE.imp (pe_ifExp hc ha hb) fun σ H Q ⟨G0, H0, G, S, si, h⟩ => ⟨G0, H0, G, S, si, okN.bind h fun G1 H1 S1 x d s1 f1 r1 h1 => by
    cases r1
    cases x with
    | true => exact ⟨G0, H0, G1, S1, s1, h1⟩
    | false => exact ⟨G0, H0, G1, S1, s1, h1⟩⟩
/-- xs * n, a new list -/
def repM (a : M (List D)) (b : M D) : M (List D) := a.bind fun ds => b.bind fun k => match k with
  | .int k => gd (decide (-(2 ^ 63) ≤ k) && decide (k < 2 ^ 63) && szOk (ds.length * k.toNat)) (M.pure (List.replicate k.toNat ds).flatten)
  | _ => M.bad
theorem en_rep (ha : EN X W ρ a na) (hb : ED X W ρ b mb) : EN X W ρ (.BinOp a .Mult b pos) (repM na mb) :=
  PE.imp (pe_op op_rep ha hb) fun σ H Q ⟨G0, H0, G, S, si, h⟩ => ⟨G0, H0, G, S, si, by
    unfold repM M.bind at h
    cases q : na S with
    | err _ _ => rw [q] at h; exact h
    | bad => rw [q] at h; exact h
    | ok ds S1 =>
      rw [q] at h
      intro l xs G1 H1 s1 f1 hn hl z ho hc t
      have h := okN.from h f1
      refine ⟨G0, H0, G1, S1, s1, okN.bind (m := mb) h fun G2 H2 S2 x d s2 f2 r2 h2 => ?_⟩
      cases r2 with
      | int k =>
        by_cases zz : (decide (-(2 ^ 63) ≤ k) && decide (k < 2 ^ 63) && szOk (ds.length * k.toNat)) = true
        · simp only [gd, zz, if_true] at h2
          simp only [Bool.and_eq_true, decide_eq_true_eq] at zz
          have z' := sz_of zz.2
          have hl2 : H2 l = some (.lst xs) := f2.keep _ _ hl (.inl hc)
          have t2 := t.mono f2
          rw [← t.length] at z'
          exact ⟨l, k, xs, rfl, rfl, hl2, zz.1.1, zz.1.2, z', fun p hp => okN.new h2 s2 hp (by simp only [List.length_flatten, List.map_replicate, List.sum_replicate_nat]; rw [Nat.mul_comm]; exact z') (t2.rep _)⟩
        · simp only [gd, zz, if_false] at h2
          exact h2.elim
      | _ => exact h2.elim⟩
/-- a new list that will change: it gets a pointer -/
def boxM (m : M (List D)) : M D := m.bind fun ds S => .ok (.ptr S.cells.length) { S with cells := S.cells ++ [.lst ds] }
theorem box_ok {K : PySem.W.Frag} {mg : Str → Option Value} {G0 G : Gh} {H0 H : Hp} {σ : L2.St} {S : MS} {l : Addr} {xs : List V} {ds : List D} (s : SI K mg G0 H0 G H σ ρ S) (hl : H l = some (.lst xs)) (z : xs.length ≤ sizeLine) (ho : G.O l) (hc : ¬ G.cell l) (h0 : H0 l = none) (t : Reps K G H xs ds)
    (own : ∀ (i : Nat) (es : List D), ρ[i]? = some (.own es) → σ[i]? ≠ some (some (V.ref l))) :
    SI K mg G0 H0 { G with φ := G.φ ++ [l], O := fun b => b ≠ l ∧ G.O b } H σ ρ { S with cells := S.cells ++ [.lst ds] } ∧ Rep K { G with φ := G.φ ++ [l], O := fun b => b ≠ l ∧ G.O b } H (.ref l) (.ptr S.cells.length) := by
  let G' : Gh := { G with φ := G.φ ++ [l], O := fun b => b ≠ l ∧ G.O b }
  have cc : ∀ b, G'.cell b → G.cell b ∨ b = l := fun b h => by
    rcases h with h | h | h
    · rcases List.mem_append.mp h with k | h
      · exact .inl (.inl k)
      · exact Or.inr (List.mem_singleton.mp h)
    · exact .inl (.inr (.inl h))
    · exact .inl (.inr (.inr h))
  have mm : ∀ b, G'.mu b → G.mu b := fun b h => by
    rcases h with h | h
    · rcases cc b h with h | h
      · exact .inl h
      · rw [h]; exact .inr ho
    · exact .inr h.2
  have lr : LR G H G' H := ⟨List.prefix_append _ _, rfl, rfl, fun _ _ h _ => h, fun b h => .inl (mm b h), fun _ u h => ⟨u, h⟩⟩
  have ne0 : ∀ b, G0.O b → b ≠ l := fun b hb e => by
    obtain ⟨u, q⟩ := s.live0 b (.inr hb)
    rw [e, h0] at q; cases q
  have fr : FR G0 H0 G' H := ⟨s.fr.pre.trans (List.prefix_append _ _), s.fr.sa, s.fr.sb, s.fr.keep, fun b h => by
      rcases cc b h with h | h
      · exact s.fr.cnew b h
      · rw [h]; exact .inr h0, fun b h => s.fr.onew b h.2, fun b h => ⟨ne0 b h, s.fr.oold b h⟩, s.fr.there⟩
  have wf : Wf K mg G' H { S with cells := S.cells ++ [.lst ds] } := by
    refine ⟨?_, ?_, ?_, fun b h => s.wf.live b (mm b h), s.wf.ha, s.wf.hb, s.wf.sab, ?_, ?_, s.wf.zs⟩
    · show (G.φ ++ [l]).length = (S.cells ++ [Cell.lst ds]).length
      rw [List.length_append, List.length_append, s.wf.len]; rfl
    · show (G.φ ++ [l]).Nodup
      rw [List.nodup_append]
      refine ⟨s.wf.nd, by simp, fun a ha b hb => ?_⟩
      have e : b = l := by simpa using hb
      rw [e]
      intro e'
      exact hc (.inl (by rw [← e']; exact ha))
    · intro i c a h1 h2
      have h1 : (S.cells ++ [Cell.lst ds])[i]? = some c := h1
      have h2 : (G.φ ++ [l])[i]? = some a := h2
      by_cases hi : i < S.cells.length
      · rw [List.getElem?_append_left hi] at h1
        rw [List.getElem?_append_left (by rw [s.wf.len]; exact hi)] at h2
        have q := s.wf.cell i c a h1 h2
        cases c with
        | lst ds => obtain ⟨xs, e, z, t⟩ := q; exact ⟨xs, e, z, t.lr lr⟩
        | dic kvs => obtain ⟨xs, e, z, t⟩ := q; exact ⟨xs, e, z, t.lr lr⟩
        | ins c fs => obtain ⟨C, dx, gs, m, e, t⟩ := q; exact ⟨C, dx, gs, m, e, t.lr lr⟩
      · rw [List.getElem?_append_right (by omega)] at h1
        rw [List.getElem?_append_right (by rw [s.wf.len]; omega)] at h2
        have ei : i - S.cells.length = 0 := by
          have := (List.getElem?_eq_some_iff.mp h1).1
          simp at this
          omega
        rw [ei] at h1
        rw [s.wf.len, ei] at h2
        cases h1; cases h2
        exact ⟨xs, hl, z, t.lr lr⟩
    · intro h
      rcases List.mem_append.mp (show G.sa ∈ G.φ ++ [l] from h) with h | h
      · exact s.wf.na h
      · exact hc (.inr (.inl (by simpa using Eq.symm (List.mem_singleton.mp h))))
    · intro h
      rcases List.mem_append.mp (show G.sb ∈ G.φ ++ [l] from h) with h | h
      · exact s.wf.nb h
      · exact hc (.inr (.inr (by simpa using Eq.symm (List.mem_singleton.mp h))))
  refine ⟨⟨fr, s.live0, wf, s.len, fun i x h => ?_, s.apart⟩, .ptr ?_⟩
  · have q := s.env i x h
    cases x with
    | any => trivial
    | val d => obtain ⟨v, e, t⟩ := q; exact ⟨v, e, t.lr lr⟩
    | own es =>
      obtain ⟨m, ys, e, hm, zm, tm, hom, hcm, h0m⟩ := q
      have ne : m ≠ l := fun e' => own i es h (by rw [← e']; exact e)
      refine ⟨m, ys, e, hm, zm, tm.lr lr, ⟨ne, hom⟩, fun q' => ?_, h0m⟩
      rcases cc m q' with q' | q'
      · exact hcm q'
      · exact ne q'
    | exc a dd f d => obtain ⟨e, v, hd, n, t⟩ := q; exact ⟨e, v, hd, fun z => n (mm _ z), t.lr lr⟩
  · show (G.φ ++ [l])[S.cells.length]? = some l
    rw [← s.wf.len, List.getElem?_append_right (Nat.le_refl _), Nat.sub_self]
    rfl
theorem ed_box {mn : M (List D)} (h : EN X W ρ e mn) : ED X W ρ e (boxM mn) :=
  PE.imp h fun σ H Q ⟨G0, H0, G, S, si, h⟩ => ⟨G0, H0, G, S, si, by
    unfold boxM M.bind at h
    cases q : mn S with
    | ok ds S1 =>
      rw [q] at h
      intro l xs G' H' s f n e z ho hc t
      obtain ⟨s2, r2⟩ := box_ok s e z ho hc (si.fr.free n) t (si.owns n)
      refine h (.ref l) _ H' s2 ?_ r2
      refine ⟨f.pre.trans (List.prefix_append _ _), f.sa, f.sb, f.keep, fun b hb => ?_, fun b hb => f.onew b hb.2, fun b hb => ⟨fun e' => ?_, f.oold b hb⟩, f.there⟩
      · rcases hb with hb | hb | hb
        · rcases List.mem_append.mp hb with k | hb
          · exact f.cnew b (.inl k)
          · have e' : b = l := by simpa using hb
            rw [e']; exact .inr n
        · exact f.cnew b (.inr (.inl hb))
        · exact f.cnew b (.inr (.inr hb))
      · obtain ⟨u, w⟩ := si.wf.live b (.inr hb)
        rw [e', n] at w; cases w
    | err _ _ => rw [q] at h; exact h
    | bad => rw [q] at h; exact h⟩
variable {C L : Type} {k : Ct C L} {rest : List Stmt}
/-- return a new list -/
theorem sd_retNew {mn : M (List D)} (w : Wk ρ k.x) (he : EN X k.W ρ e mn) (hR : k.R = RNw X.K := by rfl) : SD X k ρ (.Return (some e) pos :: rest) (retM (frz mn)) :=
  PSs.imp (pss_cons (ps_ret he) pss_never) fun D σ H ⟨G0, H0, G, S, si, h⟩ => ⟨G0, H0, G, S, si, by
    unfold retM frz M.bind at h
    cases q : mn S with
    | ok ds S1 =>
      simp only [q] at h
      intro l xs G' H' s f n e z ho hc t
      exact h (.ref l) G' H' s.fr s.wf (by rw [hR]; exact ⟨l, xs, ds, rfl, rfl, si.fr.free n, e, z, ho, hc, t⟩)
    | err _ _ =>
      simp only [q] at h
      exact fun cls da G' H' s f r => h cls da σ G' H' (s.weak w) f.lr r
    | bad => simp only [q] at h; exact h⟩
/-- return what was built -/
theorem sd_retOwn (i : Nat) {x : Str} {ds : List D} {np : Pos} (hR : k.R = RNw X.K := by rfl) (hρ : ρ[i]? = some (.own ds) := by rfl) (hN : X.N[i]? = some x := by rfl) (hv : Vis X.env.scope x := by first | exact Or.inl rfl | exact Or.inr (Or.inl rfl) | exact Or.inr (Or.inr rfl))
    (hd : (x == ("__debug__" : Str)) = false := by decide) (hcd : (x == ("__classdict__" : Str)) = false := by decide) : SD X k ρ (.Return (some (.Name x np)) pos :: rest) (M.pure (.ret (.lst ds))) :=
  PSs.imp (pss_cons (ps_ret (pv i hN hv hd hcd)) pss_never) fun D σ H ⟨G0, H0, G, S, si, h⟩ => by
    obtain ⟨l, xs, e, hl, z, t, ho, hc, h0⟩ := si.env i _ hρ
    exact ⟨.ref l, e, h (.ref l) G H si.fr si.wf (by rw [hR]; exact ⟨l, xs, ds, rfl, rfl, h0, hl, z, ho, hc, t⟩)⟩

/-! ### is, chains, in -/
def dIsB (b : Bool) : D → M D
  | .bl c => M.pure (.bl (decide (c = b)))
  | _ => M.bad
theorem ed_isB {j : Nat} {bb : Bool} {pos' : Pos} (ha : ED X W ρ a ma) : ED X W ρ (.Compare a [.Is] [.Constant (.bool bb) j pos'] pos) (una (dIsB bb) ma) :=
  PE.imp (pe_cmpR op_isBl ha pe_bl (nomark _)) fun σ H Q ⟨G0, H0, G, S, si, h⟩ => ⟨G0, H0, G, S, si, okG.bind h fun G1 H1 S1 x d s1 f1 r1 h1 => by
    cases r1 with
    | bl c => exact ⟨c, bb, rfl, rfl, okG.here h1 s1 (.bl _)⟩
    | _ => exact h1.elim⟩
def chainM (f g : D → D → M D) (a b c : M D) : M D := a.bind fun x => b.bind fun y => (f x y).bind fun z => (asB z).bind fun k => if k = true then c.bind fun w => g y w else M.pure (.bl false)
end
end Dl

namespace Dl
open PySem L2

/-! ### the forms in which loops are told -/
def on1 {α : Type} (f : D → M α) : List D → M α
  | [a] => f a
  | _ => M.bad
def on2 {α : Type} (f : D → D → M α) : List D → M α
  | [a, b] => f a b
  | _ => M.bad
def on3 {α : Type} (f : D → D → D → M α) : List D → M α
  | [a, b, c] => f a b c
  | _ => M.bad
def un2 {α : Type} (f : D → D → M α) : D → M α
  | .tup ds => on2 f ds
  | _ => M.bad
def un3 {α : Type} (f : D → D → D → M α) : D → M α
  | .tup ds => on3 f ds
  | _ => M.bad
theorem un1_eq {α : Type} (f : D → M α) : unM u1 (on1 f) = f := by
  funext d
  rfl
theorem un2_eq {α : Type} (f : D → D → M α) : unM (uT 2) (on2 f) = un2 f := by
  funext d
  cases d with
  | tup ds =>
    match ds with
    | [] => rfl
    | [_] => rfl
    | [_, _] => rfl
    | _ :: _ :: _ :: _ => unfold unM uT uN; simp [un2, on2]; rfl
  | _ => rfl
theorem un3_eq {α : Type} (f : D → D → D → M α) : unM (uT 3) (on3 f) = un3 f := by
  funext d
  cases d with
  | tup ds =>
    match ds with
    | [] => rfl
    | [_] => rfl
    | [_, _] => rfl
    | [_, _, _] => rfl
    | _ :: _ :: _ :: _ :: _ => unfold unM uT uN; simp [un3, on3]; rfl
  | _ => rfl
section
variable {X : Cx} {W : WX} {ρ : List Slot} {a b c e o tg iter elt : Expr} {es ifs : List Expr} {m mo mv ma : M D} {ms : List (M D)} {pos p apos p2 : Pos} {mi : M (List D)} {C L J : Type} {k : Ct C L} {rest body : List Stmt} {f : J → M (Fl C L)}
theorem sd_for1 (i : Nat) (emb : J → List Slot) (c0 : J) {mb : J → D → M (Fl J J)} (w : Wk ρ k.x) (w0 : Wk ρ (emb c0)) (hp : PassesOwn (model X.prog X.w) X.A X.env X.xe) (hi : ID X k.W ρ tg iter mi) (hg : PG X tg (gName i))
    (hb : ∀ c d, SD X ⟨k.W, k.x, emb, emb, k.R⟩ ((emb c).set i (.val d)) body (mb c d)) (hr : ∀ c, SD X k (emb c) rest (f c)) (hc : X.calm = true := by rfl) (hs : ∀ x, foldedSetIterable iter X.env x = pure x := by intro _; rfl) :
    SD X k ρ (.For tg iter body [] pos :: rest) (mi.bind fun ds => thenM (forM mb ds c0) f) := by
  have h := sd_for (pos := pos) (mb := fun c => on1 (mb c)) emb c0 w w0 hp hi hg (tg_name i) (fun c ds => match ds with
    | [d] => hb c d
    | [] => sd_bad
    | _ :: _ :: _ => sd_bad) hr hc hs
  simp only [un1_eq] at h
  exact h
theorem sd_for2 (i j : Nat) (emb : J → List Slot) (c0 : J) {mb : J → D → D → M (Fl J J)} (w : Wk ρ k.x) (w0 : Wk ρ (emb c0)) (hp : PassesOwn (model X.prog X.w) X.A X.env X.xe) (hi : ID X k.W ρ tg iter mi) (hg : PG X tg (gTup X.K 2 (gN [i, j])))
    (hb : ∀ c d d', SD X ⟨k.W, k.x, emb, emb, k.R⟩ (((emb c).set i (.val d)).set j (.val d')) body (mb c d d')) (hr : ∀ c, SD X k (emb c) rest (f c)) (hc : X.calm = true := by rfl) (hs : ∀ x, foldedSetIterable iter X.env x = pure x := by intro _; rfl) :
    SD X k ρ (.For tg iter body [] pos :: rest) (mi.bind fun ds => thenM (forM (fun c => un2 (mb c)) ds c0) f) := by
  have h := sd_for (pos := pos) (mb := fun c => on2 (mb c)) emb c0 w w0 hp hi hg (tg_tup [i, j]) (fun c ds => match ds with
    | [d, d'] => hb c d d'
    | [] => sd_bad
    | [_] => sd_bad
    | _ :: _ :: _ :: _ => sd_bad) hr hc hs
  have e : (fun c => unM (uT [i, j].length) (on2 (mb c))) = fun c => un2 (mb c) := funext fun c => un2_eq (mb c)
  rw [e] at h
  exact h
theorem sd_for3 (i j l : Nat) (emb : J → List Slot) (c0 : J) {mb : J → D → D → D → M (Fl J J)} (w : Wk ρ k.x) (w0 : Wk ρ (emb c0)) (hp : PassesOwn (model X.prog X.w) X.A X.env X.xe) (hi : ID X k.W ρ tg iter mi) (hg : PG X tg (gTup X.K 3 (gN [i, j, l])))
    (hb : ∀ c d d' d'', SD X ⟨k.W, k.x, emb, emb, k.R⟩ ((((emb c).set i (.val d)).set j (.val d')).set l (.val d'')) body (mb c d d' d'')) (hr : ∀ c, SD X k (emb c) rest (f c)) (hc : X.calm = true := by rfl) (hs : ∀ x, foldedSetIterable iter X.env x = pure x := by intro _; rfl) :
    SD X k ρ (.For tg iter body [] pos :: rest) (mi.bind fun ds => thenM (forM (fun c => un3 (mb c)) ds c0) f) := by
  have h := sd_for (pos := pos) (mb := fun c => on3 (mb c)) emb c0 w w0 hp hi hg (tg_tup [i, j, l]) (fun c ds => match ds with
    | [d, d', d''] => hb c d d' d''
    | [] => sd_bad
    | [_] => sd_bad
    | [_, _] => sd_bad
    | _ :: _ :: _ :: _ :: _ => sd_bad) hr hc hs
  have e : (fun c => unM (uT [i, j, l].length) (on3 (mb c))) = fun c => un3 (mb c) := funext fun c => un3_eq (mb c)
  rw [e] at h
  exact h
theorem pg_tup2 {x y : Str} {i j : Nat} {kk : Nat} {p1 p2 p3 : Pos} (hc : X.calm = true) (h1 : PG X (.Name x p1) (gName i)) (h2 : PG X (.Name y p2) (gName j)) (e1 : (assignEach (.Name x p1 :: [.Name y p2]) X.env).map (·.2) = assign (.Name x p1) X.env :: (assignEach [.Name y p2] X.env).map (·.2) := by rfl)
    (e2 : (assignEach (.Name y p2 :: []) X.env).map (·.2) = assign (.Name y p2) X.env :: (assignEach [] X.env).map (·.2) := by rfl) (hn : (assignEach [.Name x p1, .Name y p2] X.env).length = 2 := by rfl) (hst : (assignEach [.Name x p1, .Name y p2] X.env).findIdx? (·.1) = none := by rfl) :
    PG X (.Tuple [.Name x p1, .Name y p2] kk p3) (gTup X.K 2 (gN [i, j])) := pg_tup hc (pgs_cons h1 (pgs_cons h2 pgs_nil e2) e1) hn hst
theorem pg_tup3 {x y z : Str} {i j l : Nat} {kk : Nat} {p1 p2 p3 p4 : Pos} (hc : X.calm = true) (h1 : PG X (.Name x p1) (gName i)) (h2 : PG X (.Name y p2) (gName j)) (h3 : PG X (.Name z p4) (gName l)) (e1 : (assignEach (.Name x p1 :: [.Name y p2, .Name z p4]) X.env).map (·.2) = assign (.Name x p1) X.env :: (assignEach [.Name y p2, .Name z p4] X.env).map (·.2) := by rfl)
    (e2 : (assignEach (.Name y p2 :: [.Name z p4]) X.env).map (·.2) = assign (.Name y p2) X.env :: (assignEach [.Name z p4] X.env).map (·.2) := by rfl) (e3 : (assignEach (.Name z p4 :: []) X.env).map (·.2) = assign (.Name z p4) X.env :: (assignEach [] X.env).map (·.2) := by rfl)
    (hn : (assignEach [.Name x p1, .Name y p2, .Name z p4] X.env).length = 3 := by rfl) (hst : (assignEach [.Name x p1, .Name y p2, .Name z p4] X.env).findIdx? (·.1) = none := by rfl) :
    PG X (.Tuple [.Name x p1, .Name y p2, .Name z p4] kk p3) (gTup X.K 3 (gN [i, j, l])) := pg_tup hc (pgs_cons h1 (pgs_cons h2 (pgs_cons h3 pgs_nil e3) e2) e1) hn hst
end
/-! ### comprehensions -/
def mapC (f : D → M D) : List D → M (List D)
  | [] => M.pure []
  | d :: ds => (calmM (f d)).bind fun x => (mapC f ds).bind fun r => M.pure (x :: r)
def filC (t : D → M Bool) (f : D → M D) : List D → M (List D)
  | [] => M.pure []
  | d :: ds => (calmM (t d)).bind fun b => if b = true then (calmM (f d)).bind fun x => (filC t f ds).bind fun r => M.pure (x :: r) else filC t f ds
def mapL (mi : M (List D)) (f : D → M D) : M (List D) := mi.bind fun ds => gd (szOk ds.length) (mapC f ds)
def filL (mi : M (List D)) (t : D → M Bool) (f : D → M D) : M (List D) := mi.bind fun ds => gd (szOk ds.length) (filC t f ds)
theorem comp_fil {u : D → Option (List D)} {mt : List D → M Bool} {me : List D → M D} : ∀ ds : List D, compM (fun d => calmM (unM u (eltM mt me) d)) ds = filC (unM u mt) (unM u me) ds
  | [] => rfl
  | d :: ds => by
    have ih := comp_fil (u := u) (mt := mt) (me := me) ds
    funext S
    unfold compM filC
    rw [ih]
    cases q : u d with
    | none =>
      have e1 : unM u (eltM mt me) d = M.bad := by unfold unM; rw [q]; rfl
      have e2 : unM u mt d = M.bad := by unfold unM; rw [q]; rfl
      rw [e1, e2]
      rfl
    | some us =>
      have e1 : unM u (eltM mt me) d = eltM mt me us := by unfold unM; rw [q]; rfl
      have e2 : unM u mt d = mt us := by unfold unM; rw [q]; rfl
      have e3 : unM u me d = me us := by unfold unM; rw [q]; rfl
      rw [e1, e2, e3]
      unfold eltM M.bind calmM
      cases qt : mt us S with
      | err _ _ => simp only [qt]
      | bad => simp only [qt]
      | ok b S1 =>
        cases b with
        | false =>
          simp only [qt, M.pure, Bool.false_eq_true, if_false]
          cases filC (unM u mt) (unM u me) ds S1 <;> rfl
        | true =>
          simp only [qt, M.pure, if_true]
          cases qm : me us S1 with
          | err _ _ => simp only [qm]
          | bad => simp only [qm]
          | ok x S2 => simp only [qm]
theorem fil_map {f : D → M D} : ∀ ds : List D, filC (fun _ => M.pure true) f ds = mapC f ds
  | [] => rfl
  | d :: ds => by
    have ih := fil_map (f := f) ds
    unfold filC mapC
    rw [ih]
    rfl
theorem filC_none {u : D → Option (List D)} {f : D → M D} (h : ∀ d S, u d = none → f d S = .bad) : ∀ ds : List D, filC (unM u fun _ => M.pure true) f ds = mapC f ds
  | [] => rfl
  | d :: ds => by
    have ih := filC_none h ds
    funext S
    unfold filC mapC
    rw [ih]
    cases q : u d with
    | some us =>
      have e : unM u (fun _ => M.pure true) d = M.pure true := by unfold unM; rw [q]; rfl
      rw [e]
      rfl
    | none =>
      have e : unM u (fun _ => M.pure true) d = M.bad := by unfold unM; rw [q]; rfl
      rw [e]
      unfold M.bind calmM
      rw [h d S q]
      rfl
section
variable {X : Cx} {W : WX} {ρ : List Slot} {tg iter elt : Expr} {ifs : List Expr} {scope : Scope} {own : List (Str × Nat)} {pos : Pos} {mi : M (List D)}
theorem lc_fil {u : D → Option (List D)} {mt : List D → M Bool} {me : List D → M D} : lcM mi u mt me = filL mi (unM u mt) (unM u me) := by
  unfold lcM filL gd
  congr 1
  funext ds
  rw [comp_fil]
/-- one name -/
theorem en_lc1 (i : Nat) {me : D → M D} (hN : X.N.Nodup) (ok : BlkOk X.N X.env.scope scope own) (hi : ID X W ρ tg iter mi) (his : i ∈ own.map (·.2))
    (hg : ∀ (s : Shared) (H : Hp) (C : Addr) (cl : List (Str × Addr)) (fp : List Addr), PG (X.blk s H scope (compEnvC scope cl C X.env) fp) tg (gName i))
    (he : ∀ (s : Shared) (H : Hp) (C : Addr) (cl : List (Str × Addr)) (fp : List Addr) (d : D), ED (X.blk s H scope (compEnvC scope cl C X.env) fp) W0 ((wipeR ρ (own.map (·.2))).set i (.val d)) elt (me d))
    (hc : X.calm = true := by rfl) (hs : ∀ x, foldedSetIterable iter X.env x = pure x := by intro _; rfl) : EN X W ρ (.ListComp elt [⟨tg, iter, [], 0⟩] scope pos) (mapL mi me) := by
  have h := en_lc (pos := pos) (W := W) (mt := fun _ => M.pure true) (me := on1 me) hN ok hi (tg_name i) (fun j hj => by rw [List.mem_singleton.mp hj]; exact his) hg (fun s H C cl fp us => etf_nil (us := us)) (fun s H C cl fp ds => match ds with
    | [d] => he s H C cl fp d
    | [] => ed_bad
    | _ :: _ :: _ => ed_bad) hc hs
  rw [lc_fil, un1_eq] at h
  have e : filL mi (unM u1 fun _ => M.pure true) me = mapL mi me := by unfold filL mapL; congr 1; funext ds; rw [filC_none (fun d S q => by cases q)]
  rw [e] at h
  exact h
theorem en_lc1f (i : Nat) {c : Expr} {mt : D → M Bool} {me : D → M D} (hN : X.N.Nodup) (ok : BlkOk X.N X.env.scope scope own) (hi : ID X W ρ tg iter mi) (his : i ∈ own.map (·.2))
    (hg : ∀ (s : Shared) (H : Hp) (C : Addr) (cl : List (Str × Addr)) (fp : List Addr), PG (X.blk s H scope (compEnvC scope cl C X.env) fp) tg (gName i))
    (ht : ∀ (s : Shared) (H : Hp) (C : Addr) (cl : List (Str × Addr)) (fp : List Addr) (d : D), ET (X.blk s H scope (compEnvC scope cl C X.env) fp) W0 ((wipeR ρ (own.map (·.2))).set i (.val d)) c (mt d))
    (he : ∀ (s : Shared) (H : Hp) (C : Addr) (cl : List (Str × Addr)) (fp : List Addr) (d : D), ED (X.blk s H scope (compEnvC scope cl C X.env) fp) W0 ((wipeR ρ (own.map (·.2))).set i (.val d)) elt (me d))
    (hc : X.calm = true := by rfl) (hs : ∀ x, foldedSetIterable iter X.env x = pure x := by intro _; rfl) : EN X W ρ (.ListComp elt [⟨tg, iter, [c], 0⟩] scope pos) (filL mi mt me) := by
  have h := en_lc (pos := pos) (W := W) (mt := on1 mt) (me := on1 me) hN ok hi (tg_name i) (fun j hj => by rw [List.mem_singleton.mp hj]; exact his) hg (fun s H C cl fp ds => match ds with
    | [d] => etf_one (ht s H C cl fp d)
    | [] => etf_one et_bad
    | _ :: _ :: _ => etf_one et_bad) (fun s H C cl fp ds => match ds with
    | [d] => he s H C cl fp d
    | [] => ed_bad
    | _ :: _ :: _ => ed_bad) hc hs
  rw [lc_fil, un1_eq, un1_eq] at h
  exact h
/-- two names -/
theorem en_lc2 (i j : Nat) {me : D → D → M D} (hN : X.N.Nodup) (ok : BlkOk X.N X.env.scope scope own) (hi : ID X W ρ tg iter mi) (his : i ∈ own.map (·.2)) (hjs : j ∈ own.map (·.2))
    (hg : ∀ (s : Shared) (H : Hp) (C : Addr) (cl : List (Str × Addr)) (fp : List Addr), PG (X.blk s H scope (compEnvC scope cl C X.env) fp) tg (gTup X.K 2 (gN [i, j])))
    (he : ∀ (s : Shared) (H : Hp) (C : Addr) (cl : List (Str × Addr)) (fp : List Addr) (d d' : D), ED (X.blk s H scope (compEnvC scope cl C X.env) fp) W0 (((wipeR ρ (own.map (·.2))).set i (.val d)).set j (.val d')) elt (me d d'))
    (hc : X.calm = true := by rfl) (hs : ∀ x, foldedSetIterable iter X.env x = pure x := by intro _; rfl) : EN X W ρ (.ListComp elt [⟨tg, iter, [], 0⟩] scope pos) (mapL mi (un2 me)) := by
  have h := en_lc (pos := pos) (W := W) (mt := fun _ => M.pure true) (me := on2 me) hN ok hi (tg_tup [i, j]) (fun l hl => by
      rcases List.mem_cons.mp hl with e | hl
      · rw [e]; exact his
      · rw [List.mem_singleton.mp hl]; exact hjs) hg (fun s H C cl fp us => etf_nil (us := us)) (fun s H C cl fp ds => match ds with
    | [d, d'] => he s H C cl fp d d'
    | [] => ed_bad
    | [_] => ed_bad
    | _ :: _ :: _ :: _ => ed_bad) hc hs
  rw [lc_fil] at h
  have e0 : unM (uT [i, j].length) (on2 me) = un2 me := un2_eq me
  rw [e0] at h
  have e : filL mi (unM (uT [i, j].length) fun _ => M.pure true) (un2 me) = mapL mi (un2 me) := by
    unfold filL mapL; congr 1; funext ds
    rw [filC_none (fun d S q => by rw [← e0]; unfold unM; rw [q]; rfl)]
  rw [e] at h
  exact h
end
end Dl

namespace Dl
open PySem L2

section
variable {X : Cx} {ρ : List Slot} {a b c e o tg iter elt : Expr} {es ifs : List Expr} {m mo mv ma : M D} {ms : List (M D)} {pos p apos p2 : Pos} {C L : Type} {k : Ct C L} {rest : List Stmt} {st : Stmt}
/-- a new list is stored at a name, by a statement of its own kind -/
theorem sd_ofLc (i : Nat) {mn : M (List D)} {f : List D → M (Fl C L)} (w : Wk ρ k.x) (hps : PS X st (fun D σ H => tN X.K X.mg k.W ρ mn σ H fun v H1 => D.nx (σ.set i (some v)) H1)) (hr : ∀ ds, SD X k (ρ.set i (.val (.lst ds))) rest (f ds)) :
    SD X k ρ (st :: rest) (mn.bind f) := by
  let u : TS := fun D σ H => ∃ d, tS X.K X.mg k (ρ.set i (.val (.lst d))) (f d) D σ H
  have hu : PSs X rest u := ⟨fun pins s σ H D I ⟨d, q⟩ => (hr d).run pins s σ H D I q⟩
  refine PSs.imp (pss_cons hps hu) fun D σ H ⟨G0, H0, G, S, si, h⟩ => ⟨G0, H0, G, S, si, okS.bindN h w fun l xs G1 H1 S1 ds s1 f1 n hl z ho hc t h1 => ?_⟩
  have s2 := s1.let (si.fr.free n) (si.owns n)
  exact ⟨ds, G0, H0, G1.let l, S1, s2.set i (.lst hl z (fun q => q.elim hc fun y => y.1 rfl) t.let), okS.from h1 LR.let⟩
theorem sd_ofLcO (i : Nat) {mn : M (List D)} {f : List D → M (Fl C L)} (w : Wk ρ k.x) (hps : PS X st (fun D σ H => tN X.K X.mg k.W ρ mn σ H fun v H1 => D.nx (σ.set i (some v)) H1)) (hr : ∀ ds, SD X k (ρ.set i (.own ds)) rest (f ds)) :
    SD X k ρ (st :: rest) (mn.bind f) := by
  let u : TS := fun D σ H => ∃ d, tS X.K X.mg k (ρ.set i (.own d)) (f d) D σ H
  have hu : PSs X rest u := ⟨fun pins s σ H D I ⟨d, q⟩ => (hr d).run pins s σ H D I q⟩
  refine PSs.imp (pss_cons hps hu) fun D σ H ⟨G0, H0, G, S, si, h⟩ => ⟨G0, H0, G, S, si, okS.bindN h w fun l xs G1 H1 S1 ds s1 f1 n hl z ho hc t h1 => ?_⟩
  exact ⟨ds, G0, H0, G1, S1, s1.setOwn i hl z ho hc (si.fr.free n) t fun j fs _ e => si.owns n j fs e, h1⟩
/-- a, b = e1, e2 -/
theorem sd_par2 (i j : Nat) {f : D → D → M (Fl C L)} (w : Wk ρ k.x) (hps : PS X st (tPar i j (tG X.K X.mg k.W (RDs X.K) ρ (argsM ms)))) (hr : ∀ d d', SD X k ((ρ.set i (.val d)).set j (.val d')) rest (f d d')) :
    SD X k ρ (st :: rest) ((argsM ms).bind (on2 f)) := by
  let u : TS := fun D σ H => ∃ d d', tS X.K X.mg k ((ρ.set i (.val d)).set j (.val d')) (f d d') D σ H
  have hu : PSs X rest u := ⟨fun pins s σ H D I ⟨d, d', q⟩ => (hr d d').run pins s σ H D I q⟩
  refine PSs.imp (pss_cons hps hu) fun D σ H ⟨G0, H0, G, S, si, h⟩ => ⟨G0, H0, G, S, si, okS.bind h w fun G1 H1 S1 vs ds s1 r1 h1 => ?_⟩
  cases r1 with
  | nil => exact h1.elim
  | cons r1 t =>
    cases t with
    | nil => exact h1.elim
    | cons r2 t =>
      cases t with
      | cons _ _ => exact h1.elim
      | nil => exact ⟨_, _, rfl, _, _, G0, H0, G1, S1, (s1.set i r1).set j r2, h1⟩
theorem sd_par3 (i j l : Nat) {f : D → D → D → M (Fl C L)} (w : Wk ρ k.x) (hps : PS X st (tPar3 i j l (tG X.K X.mg k.W (RDs X.K) ρ (argsM ms)))) (hr : ∀ d d' d'', SD X k (((ρ.set i (.val d)).set j (.val d')).set l (.val d'')) rest (f d d' d'')) :
    SD X k ρ (st :: rest) ((argsM ms).bind (on3 f)) := by
  let u : TS := fun D σ H => ∃ d d' d'', tS X.K X.mg k (((ρ.set i (.val d)).set j (.val d')).set l (.val d'')) (f d d' d'') D σ H
  have hu : PSs X rest u := ⟨fun pins s σ H D I ⟨d, d', d'', q⟩ => (hr d d' d'').run pins s σ H D I q⟩
  refine PSs.imp (pss_cons hps hu) fun D σ H ⟨G0, H0, G, S, si, h⟩ => ⟨G0, H0, G, S, si, okS.bind h w fun G1 H1 S1 vs ds s1 r1 h1 => ?_⟩
  cases r1 with
  | nil => exact h1.elim
  | cons r1 t =>
    cases t with
    | nil => exact h1.elim
    | cons r2 t =>
      cases t with
      | nil => exact h1.elim
      | cons r3 t =>
        cases t with
        | cons _ _ => exact h1.elim
        | nil => exact ⟨_, _, _, rfl, _, _, _, G0, H0, G1, S1, ((s1.set i r1).set j r2).set l r3, h1⟩
/-- a, b = e -/
theorem sd_unp2 (i j : Nat) {f : D → D → M (Fl C L)} (w : Wk ρ k.x) (hps : PS X st (tAsg (tG X.K X.mg k.W (RD X.K) ρ m) (gTup X.K 2 (gN [i, j])))) (hr : ∀ d d', SD X k ((ρ.set i (.val d)).set j (.val d')) rest (f d d')) :
    SD X k ρ (st :: rest) (m.bind (un2 f)) := by
  let u : TS := fun D σ H => ∃ d d', tS X.K X.mg k ((ρ.set i (.val d)).set j (.val d')) (f d d') D σ H
  have hu : PSs X rest u := ⟨fun pins s σ H D I ⟨d, d', q⟩ => (hr d d').run pins s σ H D I q⟩
  refine PSs.imp (pss_cons hps hu) fun D σ H ⟨G0, H0, G, S, si, h⟩ => ⟨G0, H0, G, S, si, okS.bind h w fun G1 H1 S1 v d s1 r1 h1 => ?_⟩
  cases d with
  | tup ds =>
    match ds, h1 with
    | [a, b], h1 => exact tg_tup (mg := X.mg) [i, j] G0 H0 G1 H1 σ ρ S1 v _ [a, b] _ s1 r1 rfl fun σ' s' _ => ⟨a, b, G0, H0, G1, S1, s', h1⟩
    | [], h1 => exact h1.elim
    | [_], h1 => exact h1.elim
    | _ :: _ :: _ :: _, h1 => exact h1.elim
  | _ => exact h1.elim
theorem sd_unp3 (i j l : Nat) {f : D → D → D → M (Fl C L)} (w : Wk ρ k.x) (hps : PS X st (tAsg (tG X.K X.mg k.W (RD X.K) ρ m) (gTup X.K 3 (gN [i, j, l])))) (hr : ∀ d d' d'', SD X k (((ρ.set i (.val d)).set j (.val d')).set l (.val d'')) rest (f d d' d'')) :
    SD X k ρ (st :: rest) (m.bind (un3 f)) := by
  let u : TS := fun D σ H => ∃ d d' d'', tS X.K X.mg k (((ρ.set i (.val d)).set j (.val d')).set l (.val d'')) (f d d' d'') D σ H
  have hu : PSs X rest u := ⟨fun pins s σ H D I ⟨d, d', d'', q⟩ => (hr d d' d'').run pins s σ H D I q⟩
  refine PSs.imp (pss_cons hps hu) fun D σ H ⟨G0, H0, G, S, si, h⟩ => ⟨G0, H0, G, S, si, okS.bind h w fun G1 H1 S1 v d s1 r1 h1 => ?_⟩
  cases d with
  | tup ds =>
    match ds, h1 with
    | [a, b, c], h1 => exact tg_tup (mg := X.mg) [i, j, l] G0 H0 G1 H1 σ ρ S1 v _ [a, b, c] _ s1 r1 rfl fun σ' s' _ => ⟨a, b, c, G0, H0, G1, S1, s', h1⟩
    | [], h1 => exact h1.elim
    | [_], h1 => exact h1.elim
    | [_, _], h1 => exact h1.elim
    | _ :: _ :: _ :: _ :: _, h1 => exact h1.elim
  | _ => exact h1.elim
/-- x += e, x -= e (ints) -/
def dPlus : D → D → M D
  | .int i, .int j => M.pure (.int (i + j))
  | _, _ => M.bad
theorem sd_augAdd (i : Nat) {d : D} {f : D → M (Fl C L)} (w : Wk ρ k.x) (hps : PS X st (tAug i (tG X.K X.mg k.W (RD X.K) ρ m) (ipI fun i j => i + j))) (hr : ∀ d, SD X k (ρ.set i (.val d)) rest (f d)) (hρ : ρ[i]? = some (.val d) := by rfl) :
    SD X k ρ (st :: rest) ((m.bind fun y => dPlus d y).bind f) := by
  let u : TS := fun D σ H => ∃ d, tS X.K X.mg k (ρ.set i (.val d)) (f d) D σ H
  have hu : PSs X rest u := ⟨fun pins s σ H D I ⟨d, q⟩ => (hr d).run pins s σ H D I q⟩
  refine PSs.imp (pss_cons hps hu) fun D σ H ⟨G0, H0, G, S, si, h⟩ => ?_
  obtain ⟨v, ev, rv⟩ := si.env i _ hρ
  have h' : okS X.K X.mg k G0 H0 G H D ((m.bind fun y => (dPlus d y).bind f) S) := by
    have e : ((m.bind fun y => dPlus d y).bind f) S = (m.bind fun y => (dPlus d y).bind f) S := by
      unfold M.bind
      cases m S <;> rfl
    rw [← e]; exact h
  refine ⟨v, ev, G0, H0, G, S, si, okS.bind2 h' w fun G1 H1 S1 y dy s1 f1 r1 h1 => ?_⟩
  have rv' : Rep X.K G1 H1 v d := Rep.mono f1 rv
  cases rv' with
  | int n =>
    cases r1 with
    | int n' => exact ⟨n, n', rfl, rfl, _, G0, H0, G1, S1, s1.set i (.int _), h1⟩
    | _ => exact h1.elim
  | _ => exact h1.elim
end
section
variable {X : Cx} {W : WX} {ρ : List Slot} {tg iter elt : Expr} {ifs : List Expr} {scope : Scope} {own : List (Str × Nat)} {pos : Pos} {mi : M (List D)} {i : Nat} {y : Str} {py spos : Pos}
theorem ps_lc1 (j : Nat) {me : D → M D} (hN : X.N.Nodup) (ok : BlkOk X.N X.env.scope scope own) (hi : ID X W ρ tg iter mi) (his : j ∈ own.map (·.2))
    (hg : ∀ (s : Shared) (H : Hp) (C : Addr) (cl : List (Str × Addr)) (fp : List Addr), PG (X.blk s H scope (compEnvC scope cl C X.env) fp) tg (gName j))
    (he : ∀ (s : Shared) (H : Hp) (C : Addr) (cl : List (Str × Addr)) (fp : List Addr) (d : D), ED (X.blk s H scope (compEnvC scope cl C X.env) fp) W0 ((wipeR ρ (own.map (·.2))).set j (.val d)) elt (me d))
    (hy : X.N[i]? = some y) (hyl : X.env.scope.names.lookup y = some .local) (hsw : swapsWith (.ListComp elt [⟨tg, iter, [], 0⟩] scope pos) (some (.Name y py)) spos.line X.env = pure true)
    (hc : X.calm = true := by rfl) (hs : ∀ x, foldedSetIterable iter X.env x = pure x := by intro _; rfl) : PS X (.Assign [.Name y py] (.ListComp elt [⟨tg, iter, [], 0⟩] scope pos) spos) (fun D σ H => tN X.K X.mg W ρ (mapL mi me) σ H fun v H1 => D.nx (σ.set i (some v)) H1) := by
  have h := ps_lc (W := W) (mt := fun _ => M.pure true) (me := on1 me) hN ok hi (tg_name j) (fun l hl => by rw [List.mem_singleton.mp hl]; exact his) hg (fun s H C cl fp us => etf_nil (us := us)) (fun s H C cl fp ds => match ds with
    | [d] => he s H C cl fp d
    | [] => ed_bad
    | _ :: _ :: _ => ed_bad) hy hyl hsw hc hs
  rw [lc_fil, un1_eq] at h
  have e : filL mi (unM u1 fun _ => M.pure true) me = mapL mi me := by unfold filL mapL; congr 1; funext ds; rw [filC_none (fun d S q => by cases q)]
  rw [e] at h
  exact h
theorem ps_lc1f (j : Nat) {c : Expr} {mt : D → M Bool} {me : D → M D} (hN : X.N.Nodup) (ok : BlkOk X.N X.env.scope scope own) (hi : ID X W ρ tg iter mi) (his : j ∈ own.map (·.2))
    (hg : ∀ (s : Shared) (H : Hp) (C : Addr) (cl : List (Str × Addr)) (fp : List Addr), PG (X.blk s H scope (compEnvC scope cl C X.env) fp) tg (gName j))
    (ht : ∀ (s : Shared) (H : Hp) (C : Addr) (cl : List (Str × Addr)) (fp : List Addr) (d : D), ET (X.blk s H scope (compEnvC scope cl C X.env) fp) W0 ((wipeR ρ (own.map (·.2))).set j (.val d)) c (mt d))
    (he : ∀ (s : Shared) (H : Hp) (C : Addr) (cl : List (Str × Addr)) (fp : List Addr) (d : D), ED (X.blk s H scope (compEnvC scope cl C X.env) fp) W0 ((wipeR ρ (own.map (·.2))).set j (.val d)) elt (me d))
    (hy : X.N[i]? = some y) (hyl : X.env.scope.names.lookup y = some .local) (hsw : swapsWith (.ListComp elt [⟨tg, iter, [c], 0⟩] scope pos) (some (.Name y py)) spos.line X.env = pure true)
    (hc : X.calm = true := by rfl) (hs : ∀ x, foldedSetIterable iter X.env x = pure x := by intro _; rfl) : PS X (.Assign [.Name y py] (.ListComp elt [⟨tg, iter, [c], 0⟩] scope pos) spos) (fun D σ H => tN X.K X.mg W ρ (filL mi mt me) σ H fun v H1 => D.nx (σ.set i (some v)) H1) := by
  have h := ps_lc (W := W) (mt := on1 mt) (me := on1 me) hN ok hi (tg_name j) (fun l hl => by rw [List.mem_singleton.mp hl]; exact his) hg (fun s H C cl fp ds => match ds with
    | [d] => etf_one (ht s H C cl fp d)
    | [] => etf_one et_bad
    | _ :: _ :: _ => etf_one et_bad) (fun s H C cl fp ds => match ds with
    | [d] => he s H C cl fp d
    | [] => ed_bad
    | _ :: _ :: _ => ed_bad) hy hyl hsw hc hs
  rw [lc_fil, un1_eq, un1_eq] at h
  exact h
end
end Dl

namespace Dl
open PySem L2

def ar1N (f : D → M (List D)) : List D → M (List D)
  | [a] => f a
  | _ => M.bad
def ar2N (f : D → D → M (List D)) : List D → M (List D)
  | [a, b] => f a b
  | _ => M.bad
def ar3N (f : D → D → D → M (List D)) : List D → M (List D)
  | [a, b, c] => f a b c
  | _ => M.bad
section
variable {X : Cx} {W : WX} {ρ : List Slot} {a b c e o : Expr} {ma mb mc : M D} {pos : Pos}
theorem ed_chain {op op' : CmpOp} {r r' : R2} {f g : D → D → M D} (ho : OpR X (compareOp op) r) (hd : OpD X.K X.mg r f) (ho' : OpR X (compareOp op') r') (hd' : OpD X.K X.mg r' g) (ha : ED X W ρ a ma) (hb : ED X W ρ b mb) (hc : ED X W ρ c mc)
    (hm : lastMarks [op, op'] [b, c] = false := by with_unfolding_all rfl) : ED X W ρ (.Compare a [op, op'] [b, c] pos) (chainM f g ma mb mc) :=
  PE.imp (pe_chain ho ho' ha hb hc hm) fun σ H Q ⟨G0, H0, G, S, si, h⟩ => ⟨G0, H0, G, S, si, okG.bind h fun G1 H1 S1 x d s1 f1 r1 h1 => ⟨G0, H0, G1, S1, s1, okG.bind h1 fun G2 H2 S2 y d' s2 f2 r2 h2 => by
    refine hd W G0 H0 G2 H2 σ ρ S2 x y d d' _ s2 (Rep.mono f2 r1) r2 ?_
    refine okG.bind (R := RD X.K) h2 fun G3 H3 S3 z dz s3 f3 r3 h3 => ?_
    cases r3 with
    | bl k =>
      refine ⟨k, rfl, ?_⟩
      cases k with
      | false => exact okG.here h3 s3 (.bl false)
      | true =>
        show tG X.K X.mg W (RD X.K) ρ mc σ H3 _
        exact ⟨G0, H0, G3, S3, s3, okG.bind h3 fun G4 H4 S4 w dw s4 f4 r4 h4 => hd' W G0 H0 G4 H4 σ ρ S4 y w d' dw Q s4 (Rep.mono (f3.trans f4) r2) r4 h4⟩
    | _ => exact h3.elim⟩⟩
theorem et_lt (ha : ED X W ρ a ma) (hb : ED X W ρ b mb) : ET X W ρ (.Compare a [.Lt] [b] pos) (tst (bin dLt ma mb)) := et_cmp op_lt opd_cmp ha hb
theorem et_le (ha : ED X W ρ a ma) (hb : ED X W ρ b mb) : ET X W ρ (.Compare a [.LtE] [b] pos) (tst (bin dLe ma mb)) := et_cmp op_le opd_cmp ha hb
theorem et_gt (ha : ED X W ρ a ma) (hb : ED X W ρ b mb) : ET X W ρ (.Compare a [.Gt] [b] pos) (tst (bin dGt ma mb)) := et_cmp op_gt opd_cmp ha hb
theorem et_ge (ha : ED X W ρ a ma) (hb : ED X W ρ b mb) : ET X W ρ (.Compare a [.GtE] [b] pos) (tst (bin dGe ma mb)) := et_cmp op_ge opd_cmp ha hb
theorem et_eq {k : Nat} (hr : Room k X.A) (ha : ED X W ρ a ma) (hb : ED X W ρ b mb) : ET X W ρ (.Compare a [.Eq] [b] pos) (tst (bin dEq ma mb)) := et_cmp (op_eqD hr.units) opd_eq ha hb
theorem et_ne {k : Nat} (hr : Room k X.A) (ha : ED X W ρ a ma) (hb : ED X W ρ b mb) : ET X W ρ (.Compare a [.NotEq] [b] pos) (tst (bin dNe ma mb)) := et_cmp (op_neD hr.units) opd_ne ha hb
theorem et_isN {j : Nat} {pos' : Pos} (ha : ED X W ρ a ma) : ET X W ρ (.Compare a [.Is] [.Constant .none j pos'] pos) (tst (una dIsN ma)) :=
  PT.imp (pt_cmp (pc_isN ha)) fun σ H Q ⟨G0, H0, G, S, si, h⟩ => ⟨G0, H0, G, S, si, by
    have h' : okG X.K X.mg W RB G0 H0 G H σ ρ Q ((ma.bind fun d => (dIsN d).bind asB) S) := by
      have e : (ma.bind fun d => (dIsN d).bind asB) S = tst (una dIsN ma) S := by unfold tst una M.bind; cases ma S <;> rfl
      rw [e]; exact h
    exact okG.bind h' fun G1 H1 S1 x d s1 f1 r1 h1 => by
      rw [(rep_non r1).1] at h1
      exact ⟨_, rfl, okG.here h1 s1 rfl⟩⟩
theorem et_notN {j : Nat} {pos' : Pos} (ha : ED X W ρ a ma) : ET X W ρ (.Compare a [.IsNot] [.Constant .none j pos'] pos) (tst (una dNotN ma)) :=
  PT.imp (pt_cmp (pc_notN ha)) fun σ H Q ⟨G0, H0, G, S, si, h⟩ => ⟨G0, H0, G, S, si, by
    have h' : okG X.K X.mg W RB G0 H0 G H σ ρ Q ((ma.bind fun d => (dNotN d).bind asB) S) := by
      have e : (ma.bind fun d => (dNotN d).bind asB) S = tst (una dNotN ma) S := by unfold tst una M.bind; cases ma S <;> rfl
      rw [e]; exact h
    exact okG.bind h' fun G1 H1 S1 x d s1 f1 r1 h1 => by
      rw [(rep_non r1).2] at h1
      exact ⟨_, rfl, okG.here h1 s1 rfl⟩⟩
theorem et_isB {j : Nat} {bb : Bool} {pos' : Pos} (ha : ED X W ρ a ma) : ET X W ρ (.Compare a [.Is] [.Constant (.bool bb) j pos'] pos) (tst (una (dIsB bb) ma)) :=
  PT.imp (pt_cmpR op_isBl ha pe_bl (nomark _)) fun σ H Q ⟨G0, H0, G, S, si, h⟩ => ⟨G0, H0, G, S, si, by
    have h' : okG X.K X.mg W RB G0 H0 G H σ ρ Q ((ma.bind fun d => (dIsB bb d).bind asB) S) := by
      have e : (ma.bind fun d => (dIsB bb d).bind asB) S = tst (una (dIsB bb) ma) S := by unfold tst una M.bind; cases ma S <;> rfl
      rw [e]; exact h
    exact okG.bind h' fun G1 H1 S1 x d s1 f1 r1 h1 => by
      cases r1 with
      | bl c => exact ⟨c, bb, rfl, rfl, _, rfl, okG.here h1 s1 rfl⟩
      | _ => exact h1.elim⟩
theorem et_chain {op op' : CmpOp} {r r' : R2} {f g : D → D → M D} (ho : OpR X (compareOp op) r) (hd : OpD X.K X.mg r f) (ho' : OpR X (compareOp op') r') (hd' : OpD X.K X.mg r' g) (ha : ED X W ρ a ma) (hb : ED X W ρ b mb) (hc : ED X W ρ c mc)
    (hm : lastMarks [op, op'] [b, c] = false := by with_unfolding_all rfl) : ET X W ρ (.Compare a [op, op'] [b, c] pos) (tst (chainM f g ma mb mc)) :=
  PT.imp (pt_chain ho ho' ha hb hc hm) fun σ H Q ⟨G0, H0, G, S, si, h⟩ => by
    have h' : tG X.K X.mg W (RD X.K) ρ (chainM f g ma mb mc) σ H fun x H' => ∃ k, x = .bl k ∧ Q k H' := ⟨G0, H0, G, S, si, okG.bind h fun G1 H1 S1 x d s1 f1 r1 h1 => by
      cases r1 with
      | bl k => exact ⟨k, rfl, okG.here h1 s1 rfl⟩
      | _ => exact h1.elim⟩
    obtain ⟨G0, H0, G, S, si, h⟩ := h'
    exact ⟨G0, H0, G, S, si, okG.bind h fun G1 H1 S1 x d s1 f1 r1 h1 => ⟨G0, H0, G1, S1, s1, okG.bind h1 fun G2 H2 S2 y d' s2 f2 r2 h2 => by
      refine hd W G0 H0 G2 H2 σ ρ S2 x y d d' _ s2 (Rep.mono f2 r1) r2 ?_
      refine okG.bind (R := RD X.K) h2 fun G3 H3 S3 z dz s3 f3 r3 h3 => ?_
      cases r3 with
      | bl k =>
        refine ⟨k, rfl, ?_⟩
        cases k with
        | false => exact okG.here h3 s3 (.bl false)
        | true =>
          show tG X.K X.mg W (RD X.K) ρ mc σ H3 _
          exact ⟨G0, H0, G3, S3, s3, okG.bind h3 fun G4 H4 S4 w dw s4 f4 r4 h4 => hd' W G0 H0 G4 H4 σ ρ S4 y w d' dw _ s4 (Rep.mono (f3.trans f4) r2) r4 h4⟩
      | _ => exact h3.elim⟩⟩
end

/-! ### the law -/
def rLst (K : PySem.W.Frag) : List V → Hp → VK → Prop := fun xs H Q => ∃ p ys, xs = [.ref p] ∧ (SqL K H p ys ∨ SqT K H p ys) ∧ ∀ l, H l = none → Q (.ref l) (upd H l (.lst ys))
def spL (K : PySem.W.Frag) : Sp := fun vs H Q _ => ∃ (a : Addr) (ns : List Int), vs = [.ref a] ∧ SqL K H a (ns.map V.int) ∧ ns.length ≤ 63 ∧ ∀ H', Q (.bl true) H'
def S0 (ns : List Int) : MS := ⟨[], ⟨ns, 0, 0, 0⟩⟩
section
variable {P : Program} {w : World} {K : PySem.W.Frag} {base : Heap} {mg : Str → Option Value}
theorem fn_law {x qual sn : Str} {st : Stmt} {f : Addr} {fd : FuncData} {N : List Str} {k : Nat} {m : M (Fl Unit Empty)} (F : Fun K x qual st f fd) (S : FnScope N [sn] (defScope st)) (hN : 2 ≤ N.length)
    (hm : ∀ ns : List Int, ns.length ≤ 63 → ∃ S', finM m (S0 ns) = .ok (.bl true) S')
    (hb : ∀ (cdv : Value) (A : Around) (outer : List Env) (s : Shared) (H : Hp) (E : XK), Room k (A.deeper (PyProof.Rows.envOfC qual (defScope st) s.heap.objs.size f cdv)) →
      Takes (cxOf (L2.CX P w) P w K mg base N qual (defScope st) f cdv A outer s H E) (fun cls d _ H => E cls d H) → PassesOwn (model P w) (A.deeper (PyProof.Rows.envOfC qual (defScope st) s.heap.objs.size f cdv)) (PyProof.Rows.envOfC qual (defScope st) s.heap.objs.size f cdv) (cxOf (L2.CX P w) P w K mg base N qual (defScope st) f cdv A outer s H E).xe →
      ∃ st0 rest, defBody st = st0 :: rest ∧ PS (cxOf (L2.CX P w) P w K mg base N qual (defScope st) f cdv A outer s H E) st0 (tAsg (tLst (tCons (tCB (rLst K) (tCons (tVar 0) tNil)) (tCons (tC (.int 0)) (tCons (tC (.int 0)) (tCons (tC (.int 0)) tNil))))) (gName 1)) ∧
        SD (cxOf (L2.CX P w) P w K mg base N qual (defScope st) f cdv A outer s H E) (Ct.fn K N.length E) (.any :: .val .strm :: List.replicate (N.length - 2) .any) rest m) :
    FnOk P w K mg base (L2.CX P w) (k + 1) f fd [sn] (spL K) := by
  refine F.okX S (fun vs H Q E h => ?_) (fun cdv A outer s H vs Q E hr h => ?_)
  · obtain ⟨a, ns, rfl, _⟩ := h
    rfl
  obtain ⟨a, ns, rfl, hS, hl, hQ⟩ := h
  obtain ⟨st0, rest, eb, h0, h1⟩ := hb cdv A outer s H E hr (takes_of rfl rfl rfl rfl) (passes_of rfl)
  rw [eb]
  refine ⟨_, pss_cons h0 h1, ?_⟩
  refine ⟨.ref a, ?_, a, ns.map V.int, rfl, .inl hS, fun l hl' => ⟨by show 4 ≤ sizeLine; rw [sizeLine_eq]; decide, fun p hp => ?_⟩⟩
  · unfold L2.start
    rfl
  have npl : l ≠ p := fun e => by rw [← e, upd_same] at hp; cases hp
  let G : Gh := ⟨[], p, l, fun _ => False⟩
  let H2 : Hp := upd (upd H l (.lst (ns.map V.int))) p (.lst [.ref l, .int 0, .int 0, .int 0])
  have hcell : ∀ b, G.mu b → b = p ∨ b = l := fun b h => by
    rcases h with (h | h | h) | h
    · cases h
    · exact .inl h
    · exact .inr h
    · exact h.elim
  have hH2l : H2 l = some (.lst (ns.map V.int)) := by show upd _ p _ l = _; rw [upd_ne npl, upd_same]
  have hlive : ∀ b, G.mu b → ∃ o, H2 b = some o := fun b h => by
    rcases hcell b h with e | e
    · rw [e]; exact ⟨_, upd_same⟩
    · rw [e]; exact ⟨_, hH2l⟩
  have wf : Wf K mg G H2 (S0 ns) := ⟨rfl, .nil, (fun i c a h => by cases h), hlive, upd_same, hH2l, Ne.symm npl, (fun h => by cases h), (fun h => by cases h), Nat.le_trans hl (by decide)⟩
  obtain ⟨S', hm⟩ := hm ns hl
  have si : SI K mg G H2 G H2 ((L2.start N [V.ref a]).set 1 (some (.ref p))) (.any :: .val .strm :: List.replicate (N.length - 2) .any) (S0 ns) := by
    refine ⟨.refl _ _, hlive, wf, ?_, fun i x h => ?_, fun i j ds es l' n h => ?_⟩
    · rw [List.length_set]
      unfold L2.start
      simp only [List.length_append, List.length_map, List.length_replicate, List.length_cons, List.length_nil]
      omega
    · match i, h with
      | 0, h => cases h; trivial
      | 1, h =>
        cases h
        refine ⟨.ref p, ?_, .strm⟩
        rw [List.getElem?_set_self]
        unfold L2.start
        simp only [List.length_append, List.length_map, List.length_replicate, List.length_cons, List.length_nil]
        omega
      | i + 2, h =>
        have h : (List.replicate (N.length - 2) Slot.any)[i]? = some x := h
        rw [List.getElem?_replicate] at h
        split at h
        · cases h; trivial
        · cases h
    · match i, h with
      | 0, h => cases h
      | 1, h => cases h
      | i + 2, h =>
        have h : (List.replicate (N.length - 2) Slot.any)[i]? = some (.own ds) := h
        rw [List.getElem?_replicate] at h
        split at h
        · cases h
        · cases h
  refine ⟨G, H2, G, S0 ns, si, ?_⟩
  unfold finM M.bind at hm
  cases q : m (S0 ns) with
  | ok z S1 =>
    rw [q] at hm
    cases z with
    | nx c => cases hm
    | ret d =>
      cases hm
      intro v G' H' _ _ r
      cases r
      exact hQ H'
    | brk l => exact l.elim
    | cnt l => exact l.elim
  | err x S1 => rw [q] at hm; cases hm
  | bad => rw [q] at hm; cases hm
end
/-- an own class of errors in an except clause that names it -/
theorem exm_self {K : PySem.W.Frag} {C : Addr} {cls : Value} {b : Bool} (hs : PySem.W.subIn K (.ref C) (.type "BaseException") = some true) (hd : PySem.W.hasDictIn K C = true) (hy : PySem.W.typeIn K (.ref C) = some (.type "type")) (h4 : PySem.W.subIn K cls (.ref C) = some b) : PySem.W.exmOne K cls (.ref C) = some b := by
  have hc : (PySem.W.clsIn K C).isSome = true := by
    unfold PySem.W.hasDictIn at hd
    cases e : PySem.W.clsIn K C with
    | none => rw [e] at hd; exact hd
    | some c => rfl
  unfold PySem.W.exmOne
  rw [hs, if_pos (by rfl)]
  unfold PySem.W.kitCls
  simp only [hc, hy]
  exact h4
end Dl

/-! what a computation over plain data comes to: no program in sight -/
namespace Dl
open PySem L2

@[irreducible] def Wp {α : Type} (m : M α) (S : MS) (Q : α → MS → Prop) (E : Err → MS → Prop) : Prop := match m S with
  | .ok a S' => Q a S'
  | .err e S' => E e S'
  | .bad => False
abbrev NoE : Err → MS → Prop := fun _ _ => False
section
variable {α β : Type} {S : MS} {Q : α → MS → Prop} {E : Err → MS → Prop}
theorem wp_eq (m : M α) {a : α} {S' : MS} (e : m S = .ok a S') (q : Q a S') : Wp m S Q E := by unfold Wp; rw [e]; exact q
theorem wp_err (m : M α) {x : Err} {S' : MS} (e : m S = .err x S') (q : E x S') : Wp m S Q E := by unfold Wp; rw [e]; exact q
@[simp] theorem wp_pure {a : α} : Wp (M.pure a) S Q E ↔ Q a S := by unfold Wp; exact .rfl
@[simp] theorem wp_raise {e : Err} : Wp (M.raise e : M α) S Q E ↔ E e S := by unfold Wp; exact .rfl
@[simp] theorem wp_bad : Wp (M.bad : M α) S Q E ↔ False := by unfold Wp; exact .rfl
@[simp] theorem wp_bind {m : M β} {f : β → M α} : Wp (m.bind f) S Q E ↔ Wp m S (fun b S' => Wp (f b) S' Q E) E := by
  unfold Wp M.bind
  cases m S <;> exact .rfl
theorem Wp.mono {m : M α} {Q' : α → MS → Prop} {E' : Err → MS → Prop} (h : Wp m S Q E) (hq : ∀ a S', Q a S' → Q' a S') (he : ∀ e S', E e S' → E' e S') : Wp m S Q' E' := by
  unfold Wp at *
  revert h
  cases m S with
  | ok a S' => exact hq a S'
  | err e S' => exact he e S'
  | bad => exact id
theorem Wp.to {m : M α} {Q' : α → MS → Prop} {E' : Err → MS → Prop} (h : Wp m S Q NoE) (hq : ∀ a S', Q a S' → Q' a S') : Wp m S Q' E' := h.mono hq fun _ _ h => h.elim
theorem Wp.ok {m : M α} (h : Wp m S Q NoE) : ∃ a S', m S = .ok a S' ∧ Q a S' := by
  unfold Wp at h
  cases e : m S with
  | ok a S' => rw [e] at h; exact ⟨a, S', rfl, h⟩
  | err x S' => rw [e] at h; exact h.elim
  | bad => rw [e] at h; exact h.elim
@[simp] theorem wp_calm {m : M α} : Wp (calmM m) S Q E ↔ Wp m S Q NoE := by
  unfold Wp calmM
  cases m S <;> exact .rfl
@[simp] theorem wp_ite {b : Prop} [Decidable b] {m n : M α} : Wp (if b then m else n) S Q E ↔ if b then Wp m S Q E else Wp n S Q E := by
  by_cases h : b
  · rw [if_pos h, if_pos h]
  · rw [if_neg h, if_neg h]
theorem wp_try {x f : Str} {no : List Str} {m : M α} {hd : D → M α} : Wp (tryM x f no m hd) S Q E ↔ Wp m S Q (fun e S' => if e.cls = x then e.fld = f ∧ Wp (hd e.val) S' Q NoE else no.contains e.cls = true ∧ E e S') := by
  unfold Wp tryM
  cases m S with
  | ok a S' => exact .rfl
  | bad => exact .rfl
  | err e S' =>
    by_cases h : e.cls = x
    · by_cases k : e.fld = f
      · simp only [if_pos h, if_pos k]
        have z := wp_calm (m := hd e.val) (S := S') (Q := Q) (E := E)
        unfold Wp at z
        exact ⟨fun q => ⟨k, z.mp q⟩, fun q => z.mpr q.2⟩
      · simp only [if_pos h, if_neg k]
        exact ⟨fun q => q.elim, fun q => (k q.1).elim⟩
    · by_cases k : no.contains e.cls = true
      · simp only [if_neg h, if_pos k]
        exact ⟨fun q => ⟨k, q⟩, fun q => q.2⟩
      · simp only [if_neg h, if_neg k]
        exact ⟨fun q => q.elim, fun q => (k q.1).elim⟩
end

/-! ### the stream -/
/-- from this stream n more numbers may be drawn -/
structure Bud (s : Strm) (n : Nat) : Prop where
  m0 : 0 ≤ s.mix
  m1 : s.mix < 2147483647
  c0 : 0 ≤ s.cnt
  c1 : s.cnt + n ≤ 8388607
  r0 : 0 ≤ s.cur
theorem Bud.le {s : Strm} {n m : Nat} (h : Bud s n) (l : m ≤ n) : Bud s m := ⟨h.m0, h.m1, h.c0, by have := h.c1; omega, h.r0⟩
theorem Bud.start (ns : List Int) : Bud (S0 ns).st 8388607 := ⟨by show (0 : Int) ≤ 0; omega, by show (0 : Int) < _; omega, by show (0 : Int) ≤ 0; omega, by show (0 : Int) + _ ≤ _; omega, by show (0 : Int) ≤ 0; omega⟩
theorem bud_next {s : Strm} {n : Nat} {k : Int} (h : Bud s (n + 1)) (hk : 0 < k) : s.good = true ∧ 0 ≤ s.take k ∧ s.take k < k ∧ Bud (s.next k) n := by
  obtain ⟨m0, m1, c0, c1, r0⟩ := h
  have f := fill_mix s.xs s.cur s.mix m0 m1
  have g := fill_cur s.xs s.cur s.mix r0
  refine ⟨?_, ?_, ?_, ?_⟩
  · unfold Strm.good
    simp only [decide_eq_true_eq, Bool.and_eq_true]
    exact ⟨⟨⟨⟨m0, m1⟩, c0⟩, by omega⟩, r0⟩
  · unfold Strm.take
    split
    · exact Int.emod_nonneg _ (by omega)
    · exact Int.emod_nonneg _ (by omega)
  · unfold Strm.take
    split
    · exact Int.emod_lt_of_pos _ hk
    · exact Int.emod_lt_of_pos _ hk
  · unfold Strm.next
    split
    · exact ⟨f.1, f.2, c0, by show s.cnt + _ ≤ _; omega, Int.ediv_nonneg g (by omega)⟩
    · exact ⟨f.1, f.2, by show 0 ≤ s.cnt + 1; omega, by show s.cnt + 1 + _ ≤ _; omega, g⟩
theorem wp_draw {cs : List Cell} {s : Strm} {k : Int} {n : Nat} {Q : D → MS → Prop} {E : Err → MS → Prop} (b : Bud s (n + 1)) (h0 : 0 < k) (h1 : k < 1073741824)
    (h : ∀ i s', 0 ≤ i → i < k → Bud s' n → Q (.int i) ⟨cs, s'⟩) : Wp (drawD .strm (.int k)) ⟨cs, s⟩ Q E := by
  obtain ⟨g, t0, t1, b'⟩ := bud_next b h0
  have e : drawD .strm (.int k) ⟨cs, s⟩ = .ok (.int (s.take k)) ⟨cs, s.next k⟩ := by
    unfold drawD
    simp only [g, h0, h1, decide_true, Bool.and_true, if_true]
  exact wp_eq _ e (h _ _ t0 t1 b')
/-! ### loops -/
/-- a loop that is never left but by its end: I before each item -/
theorem wp_for {C L : Type} {body : C → D → M (Fl C C)} {Q : Fl C L → MS → Prop} {E : Err → MS → Prop} (I : List D → C → MS → Prop)
    (hs : ∀ d ds c S, I (d :: ds) c S → Wp (body c d) S (fun z S' => ∃ c', z = .nx c' ∧ I ds c' S') E) (he : ∀ c S, I [] c S → Q (.nx c) S) : ∀ (ds : List D) (c : C) (S : MS), I ds c S → Wp (forM body ds c : M (Fl C L)) S Q E
  | [], c, S, h => by unfold Dl.forM; rw [wp_pure]; exact he c S h
  | d :: ds, c, S, h => by
    unfold Dl.forM
    rw [wp_bind]
    refine (hs d ds c S h).mono (fun z S' ⟨c', e, i⟩ => ?_) (fun e S' h => h)
    subst e
    exact wp_for I hs he ds c' S' i
theorem wp_mapC {f : D → M D} {Q : List D → MS → Prop} {E : Err → MS → Prop} (I : List D → List D → MS → Prop)
    (hs : ∀ d ds r S, I (d :: ds) r S → Wp (f d) S (fun x S' => I ds (r ++ [x]) S') NoE) : ∀ (ds r : List D) (S : MS), I ds r S → (∀ r' S', I [] (r ++ r') S' → Q r' S') → Wp (mapC f ds) S Q E
  | [], r, S, h, he => by unfold mapC; rw [wp_pure]; exact he [] S (by rw [List.append_nil]; exact h)
  | d :: ds, r, S, h, he => by
    unfold mapC
    rw [wp_bind, wp_calm]
    refine (hs d ds r S h).mono (fun x S' i => ?_) (fun e S' h => h.elim)
    rw [wp_bind]
    exact wp_mapC I hs ds (r ++ [x]) S' i fun r' S2 j => by rw [wp_pure]; exact he (x :: r') S2 (by rw [List.append_assoc] at j; exact j)
end Dl

namespace Dl
open PySem L2
section
variable {α β C L J : Type} {S : MS} {Q : α → MS → Prop} {E : Err → MS → Prop} {Qd : D → MS → Prop} {Ql : List D → MS → Prop} {Qb : Bool → MS → Prop}
@[simp] theorem wp_bin {f : D → D → M D} {a b : M D} : Wp (bin f a b) S Qd E ↔ Wp a S (fun x S1 => Wp b S1 (fun y S2 => Wp (f x y) S2 Qd E) E) E := by
  unfold bin; rw [wp_bind]; simp only [wp_bind]
@[simp] theorem wp_una {f : D → M D} {a : M D} : Wp (una f a) S Qd E ↔ Wp a S (fun x S1 => Wp (f x) S1 Qd E) E := by unfold una; rw [wp_bind]
@[simp] theorem wp_args0 : Wp (argsM []) S Ql E ↔ Ql [] S := by unfold Wp; exact .rfl
@[simp] theorem wp_args1 {m : M D} {ms : List (M D)} : Wp (argsM (m :: ms)) S Ql E ↔ Wp m S (fun d S1 => Wp (argsM ms) S1 (fun ds S2 => Ql (d :: ds) S2) E) E := by
  rw [argsM, wp_bind]; simp only [wp_bind, wp_pure]
@[simp] theorem wp_call {f : List D → M D} {ms : List (M D)} : Wp (callM f ms) S Qd E ↔ Wp (argsM ms) S (fun ds S1 => Wp (f ds) S1 Qd E) E := by unfold callM; rw [wp_bind]
@[simp] theorem wp_guard {b : Bool} {m : M D} : Wp (guard b m) S Qd E ↔ b = true ∧ Wp m S Qd E := by
  unfold guard
  cases b with
  | true => rw [if_pos rfl]; exact ⟨fun h => ⟨rfl, h⟩, fun h => h.2⟩
  | false => rw [if_neg (by decide), wp_bad]; exact ⟨fun h => h.elim, fun h => nomatch h.1⟩
@[simp] theorem wp_gd {b : Bool} {m : M α} : Wp (gd b m) S Q E ↔ b = true ∧ Wp m S Q E := by
  unfold gd
  cases b with
  | true => rw [if_pos rfl]; exact ⟨fun h => ⟨rfl, h⟩, fun h => h.2⟩
  | false => rw [if_neg (by decide), wp_bad]; exact ⟨fun h => h.elim, fun h => nomatch h.1⟩
@[simp] theorem wp_tup {ms : List (M D)} : Wp (tupM ms) S Qd E ↔ Wp (argsM ms) S (fun ds S1 => szOk ds.length = true ∧ Qd (.tup ds) S1) E := by
  unfold tupM; rw [wp_bind]; simp only [wp_guard, wp_pure]
@[simp] theorem wp_lst {ms : List (M D)} : Wp (lstM ms) S Ql E ↔ Wp (argsM ms) S (fun ds S1 => szOk ds.length = true ∧ Ql ds S1) E := by
  unfold lstM; rw [wp_bind]
  have : ∀ ds : List D, (if szOk ds.length = true then M.pure ds else M.bad : M (List D)) = gd (szOk ds.length) (M.pure ds) := fun _ => rfl
  simp only [this, wp_gd, wp_pure]
@[simp] theorem wp_frz {m : M (List D)} : Wp (frz m) S Qd E ↔ Wp m S (fun ds S1 => Qd (.lst ds) S1) E := by unfold frz; rw [wp_bind]; simp only [wp_pure]
@[simp] theorem wp_tst {m : M D} : Wp (tst m) S Qb E ↔ Wp m S (fun d S1 => Wp (asB d) S1 Qb E) E := by unfold tst; rw [wp_bind]
@[simp] theorem wp_asB {b : Bool} : Wp (asB (.bl b)) S Qb E ↔ Qb b S := by unfold Wp; exact .rfl
@[simp] theorem wp_ofB {m : M Bool} : Wp (ofB m) S Qd E ↔ Wp m S (fun b S1 => Qd (.bl b) S1) E := by unfold ofB; rw [wp_bind]; simp only [wp_pure]
@[simp] theorem wp_andT {a b : M Bool} : Wp (andT a b) S Qb E ↔ Wp a S (fun x S1 => if x = true then Wp b S1 Qb E else Qb false S1) E := by unfold andT; rw [wp_bind]; simp only [wp_ite, wp_pure]
@[simp] theorem wp_orT {a b : M Bool} : Wp (orT a b) S Qb E ↔ Wp a S (fun x S1 => if x = true then Qb true S1 else Wp b S1 Qb E) E := by unfold orT; rw [wp_bind]; simp only [wp_ite, wp_pure]
@[simp] theorem wp_notT {a : M Bool} : Wp (notT a) S Qb E ↔ Wp a S (fun x S1 => Qb (!x) S1) E := by unfold notT; rw [wp_bind]; simp only [wp_pure]
@[simp] theorem wp_ifM {t : M Bool} {a b : M α} : Wp (ifM t a b) S Q E ↔ Wp t S (fun x S1 => if x = true then Wp a S1 Q E else Wp b S1 Q E) E := by unfold ifM; rw [wp_bind]; simp only [wp_ite]
@[simp] theorem wp_andV {a b : M D} : Wp (andV a b) S Qd E ↔ Wp a S (fun x S1 => Wp (asB x) S1 (fun c S2 => if c = true then Wp b S2 Qd E else Qd (.bl false) S2) E) E := by unfold andV; rw [wp_bind]; simp only [wp_bind, wp_ite, wp_pure]
@[simp] theorem wp_orV {a b : M D} : Wp (orV a b) S Qd E ↔ Wp a S (fun x S1 => Wp (asB x) S1 (fun c S2 => if c = true then Qd (.bl true) S2 else Wp b S2 Qd E) E) E := by unfold orV; rw [wp_bind]; simp only [wp_bind, wp_ite, wp_pure]
@[simp] theorem wp_notV {a : M D} : Wp (notV a) S Qd E ↔ Wp a S (fun x S1 => Wp (asB x) S1 (fun c S2 => Qd (.bl (!c)) S2) E) E := by unfold notV; rw [wp_bind]; simp only [wp_bind, wp_pure]
@[simp] theorem wp_ret {m : M D} {Qf : Fl C L → MS → Prop} : Wp (retM m : M (Fl C L)) S Qf E ↔ Wp m S (fun d S1 => Qf (.ret d) S1) E := by unfold retM; rw [wp_bind]; simp only [wp_pure]
def Fl.goOut {C L : Type} (Q : Fl C L → MS → Prop) : Fl Empty L → MS → Prop
  | .ret d, S => Q (.ret d) S
  | .brk l, S => Q (.brk l) S
  | .cnt l, S => Q (.cnt l) S
  | .nx c, _ => c.elim
@[simp] theorem goOut_ret {d : D} {Qf : Fl C L → MS → Prop} : Fl.goOut Qf (.ret d) S ↔ Qf (.ret d) S := .rfl
@[simp] theorem goOut_brk {d : L} {Qf : Fl C L → MS → Prop} : Fl.goOut Qf (.brk d) S ↔ Qf (.brk d) S := .rfl
@[simp] theorem goOut_cnt {d : L} {Qf : Fl C L → MS → Prop} : Fl.goOut Qf (.cnt d) S ↔ Qf (.cnt d) S := .rfl
@[simp] theorem wp_out {m : M (Fl Empty L)} {Qf : Fl C L → MS → Prop} : Wp (outM m : M (Fl C L)) S Qf E ↔ Wp m S (Fl.goOut Qf) E := by
  unfold outM
  rw [wp_bind]
  constructor
  · intro h; refine h.mono (fun z S' q => ?_) (fun _ _ h => h)
    cases z with
    | nx c => exact c.elim
    | _ => unfold Wp at *; exact q
  · intro h; refine h.mono (fun z S' q => ?_) (fun _ _ h => h)
    cases z with
    | nx c => exact c.elim
    | _ => unfold Wp at *; exact q
def Fl.goThen {J C L : Type} (E : Err → MS → Prop) (f : J → M (Fl C L)) (Q : Fl C L → MS → Prop) : Fl J L → MS → Prop
  | .nx c, S => Wp (f c) S Q E
  | .ret d, S => Q (.ret d) S
  | .brk l, S => Q (.brk l) S
  | .cnt l, S => Q (.cnt l) S
@[simp] theorem goThen_nx {f : J → M (Fl C L)} {c : J} {Qf : Fl C L → MS → Prop} : Fl.goThen E f Qf (.nx c) S ↔ Wp (f c) S Qf E := .rfl
@[simp] theorem goThen_ret {f : J → M (Fl C L)} {d : D} {Qf : Fl C L → MS → Prop} : Fl.goThen E f Qf (.ret d) S ↔ Qf (.ret d) S := .rfl
@[simp] theorem goThen_brk {f : J → M (Fl C L)} {d : L} {Qf : Fl C L → MS → Prop} : Fl.goThen E f Qf (.brk d) S ↔ Qf (.brk d) S := .rfl
@[simp] theorem goThen_cnt {f : J → M (Fl C L)} {d : L} {Qf : Fl C L → MS → Prop} : Fl.goThen E f Qf (.cnt d) S ↔ Qf (.cnt d) S := .rfl
@[simp] theorem wp_then {m : M (Fl J L)} {f : J → M (Fl C L)} {Qf : Fl C L → MS → Prop} : Wp (thenM m f) S Qf E ↔ Wp m S (Fl.goThen E f Qf) E := by
  unfold thenM
  rw [wp_bind]
  constructor
  · intro h; refine h.mono (fun z S' q => ?_) (fun _ _ h => h)
    cases z <;> first | exact q | (unfold Wp at *; exact q)
  · intro h; refine h.mono (fun z S' q => ?_) (fun _ _ h => h)
    cases z <;> first | exact q | (unfold Wp at *; exact q)
def Fl.goFin (Q : D → MS → Prop) : Fl Unit Empty → MS → Prop
  | .nx _, S => Q .non S
  | .ret d, S => Q d S
  | .brk l, _ => l.elim
  | .cnt l, _ => l.elim
@[simp] theorem goFin_nx : Fl.goFin Qd (.nx ()) S ↔ Qd .non S := .rfl
@[simp] theorem goFin_ret {d : D} : Fl.goFin Qd (.ret d) S ↔ Qd d S := .rfl
@[simp] theorem wp_fin {m : M (Fl Unit Empty)} : Wp (finM m) S Qd E ↔ Wp m S (Fl.goFin Qd) E := by
  unfold finM
  rw [wp_bind]
  constructor
  · intro h; refine h.mono (fun z S' q => ?_) (fun _ _ h => h)
    cases z with
    | brk l => exact l.elim
    | cnt l => exact l.elim
    | _ => unfold Wp at *; exact q
  · intro h; refine h.mono (fun z S' q => ?_) (fun _ _ h => h)
    cases z with
    | brk l => exact l.elim
    | cnt l => exact l.elim
    | _ => unfold Wp at *; exact q
def Fl.goFinN (Q : List D → MS → Prop) : Fl Unit Empty → MS → Prop
  | .ret (.lst ds), S => Q ds S
  | _, _ => False
@[simp] theorem goFinN_ret {ds : List D} : Fl.goFinN Ql (.ret (.lst ds)) S ↔ Ql ds S := .rfl
@[simp] theorem wp_finN {m : M (Fl Unit Empty)} : Wp (finN m) S Ql E ↔ Wp m S (Fl.goFinN Ql) E := by
  unfold finN
  rw [wp_bind]
  constructor
  · intro h; refine h.mono (fun z S' q => ?_) (fun _ _ h => h)
    cases z with
    | ret d => cases d <;> unfold Wp at * <;> exact q
    | _ => unfold Wp at *; exact q
  · intro h; refine h.mono (fun z S' q => ?_) (fun _ _ h => h)
    cases z with
    | ret d => cases d <;> unfold Wp at * <;> exact q
    | _ => unfold Wp at *; exact q
@[simp] theorem wp_ar1 {f : D → M D} {a : D} : Wp (ar1 f [a]) S Qd E ↔ Wp (f a) S Qd E := by unfold Wp; exact .rfl
@[simp] theorem wp_ar2 {f : D → D → M D} {a b : D} : Wp (ar2 f [a, b]) S Qd E ↔ Wp (f a b) S Qd E := by unfold Wp; exact .rfl
@[simp] theorem wp_ar3 {f : D → D → D → M D} {a b c : D} : Wp (ar3 f [a, b, c]) S Qd E ↔ Wp (f a b c) S Qd E := by unfold Wp; exact .rfl
@[simp] theorem wp_ar4 {f : D → D → D → D → M D} {a b c d : D} : Wp (ar4 f [a, b, c, d]) S Qd E ↔ Wp (f a b c d) S Qd E := by unfold Wp; exact .rfl
@[simp] theorem wp_ar5 {f : D → D → D → D → D → M D} {a b c d e : D} : Wp (ar5 f [a, b, c, d, e]) S Qd E ↔ Wp (f a b c d e) S Qd E := by unfold Wp; exact .rfl
@[simp] theorem wp_ar1N {f : D → M (List D)} {a : D} : Wp (ar1N f [a]) S Ql E ↔ Wp (f a) S Ql E := by unfold Wp; exact .rfl
@[simp] theorem wp_ar2N {f : D → D → M (List D)} {a b : D} : Wp (ar2N f [a, b]) S Ql E ↔ Wp (f a b) S Ql E := by unfold Wp; exact .rfl
@[simp] theorem wp_meth {cn mn : Str} {g : List D → M D} {mo : M D} {ms : List (M D)} : Wp (methM cn mn g mo ms) S Qd E ↔ Wp mo S (fun o S1 => Wp (isA cn mn o) S1 (fun _ S2 => Wp (argsM ms) S2 (fun ds S3 => Wp (g (o :: ds)) S3 Qd E) E) E) E := by
  unfold methM; rw [wp_bind]; simp only [wp_bind]
@[simp] theorem wp_un2 {f : D → D → M α} {a b : D} : Wp (un2 f (.tup [a, b])) S Q E ↔ Wp (f a b) S Q E := by unfold Wp; exact .rfl
@[simp] theorem wp_un3 {f : D → D → D → M α} {a b c : D} : Wp (un3 f (.tup [a, b, c])) S Q E ↔ Wp (f a b c) S Q E := by unfold Wp; exact .rfl
@[simp] theorem wp_mapL {mi : M (List D)} {f : D → M D} : Wp (mapL mi f) S Ql E ↔ Wp mi S (fun ds S1 => szOk ds.length = true ∧ Wp (mapC f ds) S1 Ql E) E := by unfold mapL; rw [wp_bind]; simp only [wp_gd]
@[simp] theorem wp_filL {mi : M (List D)} {t : D → M Bool} {f : D → M D} : Wp (filL mi t f) S Ql E ↔ Wp mi S (fun ds S1 => szOk ds.length = true ∧ Wp (filC t f ds) S1 Ql E) E := by unfold filL; rw [wp_bind]; simp only [wp_gd]
@[simp] theorem wp_filC0 {t : D → M Bool} {f : D → M D} : Wp (filC t f []) S Ql E ↔ Ql [] S := by unfold Wp; exact .rfl
@[simp] theorem wp_filC1 {t : D → M Bool} {f : D → M D} {d : D} {ds : List D} : Wp (filC t f (d :: ds)) S Ql E ↔ Wp (t d) S (fun b S1 => if b = true then Wp (f d) S1 (fun x S2 => Wp (filC t f ds) S2 (fun r S3 => Ql (x :: r) S3) E) NoE else Wp (filC t f ds) S1 Ql E) NoE := by
  rw [filC, wp_bind, wp_calm]; simp only [wp_ite, wp_bind, wp_calm, wp_pure]
/-! the operations on whole numbers -/
@[simp] theorem add_int {i j : Int} : dAdd (.int i) (.int j) = M.pure (.int (i + j)) := rfl
@[simp] theorem add_lst {xs ys : List D} : dAdd (.lst xs) (.lst ys) = guard (szOk (xs.length + ys.length)) (M.pure (.lst (xs ++ ys))) := rfl
@[simp] theorem sub_int {i j : Int} : dSub (.int i) (.int j) = M.pure (.int (i - j)) := rfl
@[simp] theorem mul_int {i j : Int} : dMul (.int i) (.int j) = guard (mulOk i j) (M.pure (.int (i * j))) := rfl
@[simp] theorem mod_int {i j : Int} : dMod (.int i) (.int j) = guard (decide (0 < j)) (M.pure (.int (i % j))) := rfl
@[simp] theorem div_int {i j : Int} : dDiv (.int i) (.int j) = guard (decide (0 < j) && decide (j < 1073741824)) (M.pure (.int (i / j))) := rfl
@[simp] theorem pow_int {i j : Int} : dPow (.int i) (.int j) = guard (decide (0 ≤ j) && decide (j ≤ 1000000) && decide (i.natAbs < 2 ^ 64)) (M.pure (.int (i ^ j.toNat))) := rfl
@[simp] theorem neg_int {i : Int} : dNeg (.int i) = M.pure (.int (-i)) := rfl
@[simp] theorem lt_int {i j : Int} : dLt (.int i) (.int j) = M.pure (.bl (decide (i < j))) := rfl
@[simp] theorem gt_int {i j : Int} : dGt (.int i) (.int j) = M.pure (.bl (decide (i > j))) := rfl
@[simp] theorem le_int {i j : Int} : dLe (.int i) (.int j) = M.pure (.bl (decide (i ≤ j))) := rfl
@[simp] theorem ge_int {i j : Int} : dGe (.int i) (.int j) = M.pure (.bl (decide (i ≥ j))) := rfl
@[simp] theorem max_int {i j : Int} : dMax (.int i) (.int j) = M.pure (.int (if j > i then j else i)) := rfl
@[simp] theorem min_int {i j : Int} : dMin (.int i) (.int j) = M.pure (.int (if j < i then j else i)) := rfl
@[simp] theorem isn_non : dIsN .non = M.pure (.bl true) := rfl
@[simp] theorem isn_int {i : Int} : dIsN (.int i) = M.pure (.bl false) := rfl
@[simp] theorem isn_lst {i : List D} : dIsN (.lst i) = M.pure (.bl false) := rfl
@[simp] theorem isn_tup {i : List D} : dIsN (.tup i) = M.pure (.bl false) := rfl
@[simp] theorem isn_ptr {i : Nat} : dIsN (.ptr i) = M.pure (.bl false) := rfl
@[simp] theorem isb_bl {b c : Bool} : dIsB b (.bl c) = M.pure (.bl (c == b)) := by cases b <;> cases c <;> rfl
@[simp] theorem isi_non {ts : List Ty} : dIsi ts .non = M.pure (.bl (ts.any Ty.non.sub)) := rfl
@[simp] theorem isi_bl {ts : List Ty} {b : Bool} : dIsi ts (.bl b) = M.pure (.bl (ts.any Ty.bool.sub)) := rfl
@[simp] theorem isi_int {ts : List Ty} {b : Int} : dIsi ts (.int b) = M.pure (.bl (ts.any Ty.int.sub)) := rfl
@[simp] theorem isi_str {ts : List Ty} {b : Str} : dIsi ts (.str b) = M.pure (.bl (ts.any Ty.str.sub)) := rfl
@[simp] theorem isi_lst {ts : List Ty} {b : List D} : dIsi ts (.lst b) = M.pure (.bl (ts.any Ty.list.sub)) := rfl
@[simp] theorem isi_tup {ts : List Ty} {b : List D} : dIsi ts (.tup b) = M.pure (.bl (ts.any Ty.tuple.sub)) := rfl
theorem plain_int {i : Int} : (D.int i).plain = true := rfl
theorem plain_bl {i : Bool} : (D.bl i).plain = true := rfl
theorem plain_non : D.non.plain = true := rfl
@[simp] theorem eq_int {i j : Int} : dEq (.int i) (.int j) = M.pure (.bl (i == j)) := rfl
@[simp] theorem eq_bl {i j : Bool} : dEq (.bl i) (.bl j) = M.pure (.bl (i == j)) := rfl
@[simp] theorem eq_str {i j : Str} : dEq (.str i) (.str j) = guard ((D.str i).plain && (D.str j).plain) (M.pure (.bl (i == j))) := rfl
@[simp] theorem eq_non : dEq .non .non = M.pure (.bl true) := rfl
@[simp] theorem ne_int {i j : Int} : dNe (.int i) (.int j) = M.pure (.bl (!(i == j))) := rfl
@[simp] theorem ne_bl {i j : Bool} : dNe (.bl i) (.bl j) = M.pure (.bl (!(i == j))) := rfl
@[simp] theorem len_lst {ds : List D} : dLen (.lst ds) = M.pure (.int ds.length) := rfl
@[simp] theorem len_tup {ds : List D} : dLen (.tup ds) = M.pure (.int ds.length) := rfl
@[simp] theorem item_lst {ds : List D} {i : Int} : dItem (.lst ds) (.int i) = ofOpt (atI ds i) := rfl
@[simp] theorem item_tup {ds : List D} {i : Int} : dItem (.tup ds) (.int i) = ofOpt (atI ds i) := rfl
@[simp] theorem wp_opt {o : Option α} : Wp (ofOpt o) S Q E ↔ ∃ a, o = some a ∧ Q a S := by
  cases o with
  | none => rw [ofOpt, wp_bad]; exact ⟨fun h => h.elim, fun ⟨_, e, _⟩ => nomatch e⟩
  | some a => rw [ofOpt, wp_pure]; exact ⟨fun h => ⟨a, rfl, h⟩, fun ⟨_, e, h⟩ => by cases e; exact h⟩
@[simp] theorem items_lst {ds : List D} : items (.lst ds) = M.pure ds := rfl
@[simp] theorem items_tup {ds : List D} : items (.tup ds) = M.pure ds := rfl
@[simp] theorem enum_lst {ds : List D} : enumM (.lst ds) = M.pure (enumD ds) := rfl
@[simp] theorem zip_lst {ds es : List D} : zipM [.lst ds, .lst es] = M.pure (zipD ds es) := rfl
@[simp] theorem zip_tup {ds es : List D} : zipM [.tup ds, .tup es] = M.pure (zipD ds es) := rfl
@[simp] theorem wp_rng1 {j : Int} : Wp (rng1 (.int j)) S Ql E ↔ (-(2 ^ 62) ≤ j ∧ j < 2 ^ 62) ∧ Ql ((List.range j.toNat).map fun (i : Nat) => .int i) S := by
  show Wp (if decide (-(2 ^ 62) ≤ j) && decide (j < 2 ^ 62) then M.pure ((List.range j.toNat).map fun (i : Nat) => D.int i) else M.bad) S Ql E ↔ _
  by_cases h : -(2 ^ 62) ≤ j ∧ j < 2 ^ 62
  · rw [if_pos (by simpa using h), wp_pure]; exact ⟨fun q => ⟨h, q⟩, fun q => q.2⟩
  · rw [if_neg (by simpa using h), wp_bad]; exact ⟨fun q => q.elim, fun q => (h q.1).elim⟩
/-! cells -/
theorem wp_fld {c f : Str} {k : Nat} {fs : List (Str × D)} {d : D} (e : S.cells[k]? = some (.ins c fs)) (l : fs.lookup f = some d) (h : Qd d S) : Wp (dFld c f (.ptr k)) S Qd E :=
  wp_eq _ (by unfold dFld; simp only [e, l, if_true]) h
theorem wp_isA {c f : Str} {k : Nat} {fs : List (Str × D)} {Qu : Unit → MS → Prop} (e : S.cells[k]? = some (.ins c fs)) (l : fs.lookup f = none) (h : Qu () S) : Wp (isA c f (.ptr k)) S Qu E :=
  wp_eq _ (by unfold isA; simp only [e, l, if_true]) h
theorem wp_setF {c f : Str} {k : Nat} {v : D} {fs : List (Str × D)} {Qu : Unit → MS → Prop} (e : S.cells[k]? = some (.ins c fs)) (l : fs.length < 900) (h : Qu () (S.put k (.ins c (putFD f v fs)))) : Wp (setF c f (.ptr k) v) S Qu E :=
  wp_eq _ (by unfold setF; simp only [e, l, if_true]) h
theorem wp_setI {k : Nat} {i : Int} {v : D} {ds : List D} {Qu : Unit → MS → Prop} (e : S.cells[k]? = some (.lst ds)) (h0 : 0 ≤ i) (h1 : i < ds.length) (h : Qu () (S.put k (.lst (ds.set i.toNat v)))) : Wp (setI (.ptr k) (.int i) v) S Qu E :=
  wp_eq _ (by unfold setI ixN; simp only [e, h0, h1, if_true]) h
theorem seq_ptr {k : Nat} {ds : List D} (e : S.cells[k]? = some (.lst ds)) (h : Ql ds S) : Wp (asSeq (.ptr k)) S Ql E := wp_eq _ (by simp only [asSeq, e]) h
theorem lst_ptr {k : Nat} {ds : List D} (e : S.cells[k]? = some (.lst ds)) (h : Ql ds S) : Wp (asLst (.ptr k)) S Ql E := wp_eq _ (by simp only [asLst, e]) h
theorem len_ptr {k : Nat} {ds : List D} (e : S.cells[k]? = some (.lst ds)) (h : Qd (.int ds.length) S) : Wp (dLen (.ptr k)) S Qd E := by
  show Wp ((asSeq (.ptr k)).bind fun ds => M.pure (.int ds.length)) S Qd E
  rw [wp_bind]; exact seq_ptr e (by rw [wp_pure]; exact h)
@[simp] theorem seq_lst {ds : List D} : asSeq (.lst ds) = M.pure ds := rfl
@[simp] theorem seq_tup {ds : List D} : asSeq (.tup ds) = M.pure ds := rfl
@[simp] theorem lst_lst {ds : List D} : asLst (.lst ds) = M.pure ds := rfl
@[simp] theorem wp_toList {m : M D} : Wp (toList m) S Ql E ↔ Wp m S (fun d S1 => Wp (asSeq d) S1 Ql E) E := by
  unfold toList; rw [wp_bind]; simp only [wp_bind, wp_pure]
@[simp] theorem wp_box {m : M (List D)} : Wp (boxM m) S Qd E ↔ Wp m S (fun ds S1 => Qd (.ptr S1.cells.length) { S1 with cells := S1.cells ++ [.lst ds] }) E := by
  unfold boxM; rw [wp_bind]; unfold Wp; exact .rfl
@[simp] theorem wp_part0 {Qo : Option Int → MS → Prop} : Wp (partM none) S Qo E ↔ Qo none S := by unfold Wp; exact .rfl
theorem wp_part1 {m : M D} {Qo : Option Int → MS → Prop} (h : Wp m S (fun d S1 => ∃ i, d = .int i ∧ Qo (some i) S1) E) : Wp (partM (some m)) S Qo E := by
  rw [partM, wp_bind]
  refine h.mono (fun d S1 ⟨i, e, q⟩ => ?_) (fun _ _ h => h)
  subst e
  unfold Wp
  exact q
@[simp] theorem wp_cut {m : M D} {lo hi : M (Option Int)} : Wp (cutM m lo hi) S Ql E ↔ Wp m S (fun d S1 => Wp lo S1 (fun l S2 => Wp hi S2 (fun u S3 => Wp (asLst d) S3 (fun ds S4 => Ql (cutD ds l u) S4) E) E) E) E := by
  unfold cutM; rw [wp_bind]; simp only [wp_bind, wp_pure]
theorem wp_new {cn : Str} {g : List D → M D} {ms : List (M D)} (h : Wp (argsM ms) S (fun ds S1 => Wp (g (.ptr S1.cells.length :: ds)) { S1 with cells := S1.cells ++ [.ins cn []] } (fun z S2 => z = .non ∧ Qd (.ptr S1.cells.length) S2) E) E) : Wp (newM cn g ms) S Qd E := by
  unfold newM
  rw [wp_bind]
  refine h.mono (fun ds S1 q => ?_) (fun _ _ h => h)
  unfold Wp at q ⊢
  cases e : g (.ptr S1.cells.length :: ds) { S1 with cells := S1.cells ++ [.ins cn []] } with
  | ok d S2 =>
    simp only [e] at q ⊢
    obtain ⟨h1, h2⟩ := q
    subst h1
    exact h2
  | err x S2 => simp only [e] at q ⊢; exact q
  | bad => simp only [e] at q
end
end Dl

namespace Dl
open PySem L2
/-! ### places and slices -/
theorem atI_nat {α : Type} {xs : List α} {i : Int} (h0 : 0 ≤ i) (h1 : i < xs.length) : ∃ a, atI xs i = some a ∧ a ∈ xs ∧ xs[i.toNat]? = some a := by
  have h2 : i.toNat < xs.length := by omega
  refine ⟨xs[i.toNat], ?_, List.getElem_mem h2, List.getElem?_eq_getElem h2⟩
  unfold atI ixN
  rw [if_pos h0, if_pos h1]
  exact List.getElem?_eq_getElem h2
theorem sIx_some {n d : Nat} {v : Int} (h0 : 0 ≤ v) (h1 : v ≤ n) : HT.sIx n d (some v) = v.toNat := by
  unfold HT.sIx
  simp only
  rw [if_neg (by omega)]; omega
theorem cut_to {xs : List D} {b : Int} (h0 : 0 ≤ b) (h1 : b ≤ xs.length) : cutD xs none (some b) = xs.take b.toNat := by
  unfold cutD
  rw [sIx_some h0 h1, HT.sIx_none]; rfl
theorem cut_from {xs : List D} {a : Int} (h0 : 0 ≤ a) (h1 : a ≤ xs.length) : cutD xs (some a) none = xs.drop a.toNat := by
  unfold cutD
  rw [sIx_some h0 h1, HT.sIx_none, List.take_of_length_le]
  rw [List.length_drop]; omega
theorem cut_both {xs : List D} {a b : Int} (h0 : 0 ≤ a) (h1 : a ≤ b) (h2 : b ≤ xs.length) : cutD xs (some a) (some b) = (xs.drop a.toNat).take (b - a).toNat := by
  unfold cutD
  rw [sIx_some h0 (by omega), sIx_some (by omega) h2]
  congr 1
  omega
theorem szOk_of {n : Nat} (h : n ≤ 16777216) : szOk n = true := decide_eq_true h
theorem eq_lst00 : dEq (.lst []) (.lst []) = M.pure (.bl true) := rfl
theorem eq_lst10 {a : Int} : dEq (.lst [.int a]) (.lst []) = M.pure (.bl false) := rfl
theorem eq_lst20 {a b : Int} : dEq (.lst [.int a, .int b]) (.lst []) = M.pure (.bl false) := rfl
/-! ### the law's helpers -/
theorem wp_pick {cs : List Cell} {s : Strm} {ds : List D} {n : Nat} {Q : D → MS → Prop} {E : Err → MS → Prop} (b : Bud s (n + 1)) (h0 : 0 < ds.length) (h1 : ds.length < 1073741824)
    (h : ∀ d s', d ∈ ds → Bud s' n → Q d ⟨cs, s'⟩) : Wp (finM (retM (bin dItem (M.pure (.lst ds)) (callM (ar2 drawD) [M.pure .strm, callM (ar1 dLen) [M.pure (.lst ds)]])))) ⟨cs, s⟩ Q E := by
  simp only [wp_fin, wp_ret, wp_bin, wp_call, wp_args1, wp_args0, wp_pure, wp_ar1, wp_ar2, len_lst]
  refine wp_draw b (by omega) (by omega) fun i s' i0 i1 b' => ?_
  obtain ⟨a, e, m, _⟩ := atI_nat i0 i1
  simp only [item_lst, wp_opt]
  exact ⟨a, e, h a s' m b'⟩
/-- data of which the law may ask whether they are the same -/
inductive Good : Nat → D → Prop where
  | non {n : Nat} : Good (n + 1) .non
  | bl {n : Nat} (b : Bool) : Good (n + 1) (.bl b)
  | int {n : Nat} (i : Int) : Good (n + 1) (.int i)
  | str {n : Nat} (x : Str) (h : (D.str x).plain = true) : Good (n + 1) (.str x)
  | lst {n : Nat} (ds : List D) (h : ds.length ≤ 16777216) (t : ∀ d ∈ ds, Good n d) : Good (n + 1) (.lst ds)
  | tup {n : Nat} (ds : List D) (h : ds.length ≤ 16777216) (t : ∀ d ∈ ds, Good n d) : Good (n + 1) (.tup ds)
def sameB (dict : M D) (rec : D → D → M D) (a_found a_due : D) : M D := finM (ifM (tst (una (dIsi [.dict]) (M.pure a_due))) (outM (retM (andV (una (dIsi [.dict]) (M.pure a_found)) dict))) (ifM (tst (una (dIsi [.list, .tuple]) (M.pure a_due))) (outM (ifM (orT (tst (bin dNe (una (dIsi [.list]) (M.pure a_found)) (una (dIsi [.list]) (M.pure a_due)))) (tst (bin dNe (una (dIsi [.tuple]) (M.pure a_found)) (una (dIsi [.tuple]) (M.pure a_due))))) (outM (retM (M.pure (D.bl false)))) (retM (andV (bin dEq (callM (ar1 dLen) [(M.pure a_found)]) (callM (ar1 dLen) [(M.pure a_due)])) (callM (ar1 dAll) [(frz (mapL (M.bind (argsM [(M.pure a_found), (M.pure a_due)]) zipM) (un2 fun v_one v_two => (callM (ar2 rec) [(M.pure v_one), (M.pure v_two)]))))]))))) (ifM (tst (una (dIsi [.int]) (M.pure a_due))) (outM (retM (andV (una (dIsi [.int]) (M.pure a_found)) (andV (bin dEq (una (dIsi [.bool]) (M.pure a_found)) (una (dIsi [.bool]) (M.pure a_due))) (bin dEq (M.pure a_found) (M.pure a_due)))))) (retM (andV (una (dIsB false) (una (dIsi [.bool, .int, .list, .tuple, .dict]) (M.pure a_found))) (bin dEq (M.pure a_found) (M.pure a_due)))))))
theorem bools_rep : ∀ n : Nat, bools (List.replicate n (.bl true)) = some (List.replicate n true)
  | 0 => rfl
  | n + 1 => by rw [List.replicate_succ, bools, bools_rep n]; rfl
theorem map_true {f : D → M D} {Q : List D → MS → Prop} {E : Err → MS → Prop} {S : MS} : ∀ ds : List D, (∀ d ∈ ds, Wp (f d) S (fun x S' => x = .bl true ∧ S' = S) NoE) → Q (List.replicate ds.length (.bl true)) S → Wp (mapC f ds) S Q E
  | [], _, q => by rw [mapC, wp_pure]; exact q
  | d :: ds, h, q => by
    rw [mapC, wp_bind, wp_calm]
    refine (h d (.head _)).to fun x S' ⟨e, e'⟩ => ?_
    subst e; subst e'
    rw [wp_bind]
    exact map_true ds (fun d m => h d (.tail _ m)) (by rw [wp_pure]; exact q)
theorem same_refl (g : Nat → D → D → M D) (dict : Nat → D → D → M D) (hg : ∀ n a b, g (n + 1) a b = sameB (dict n a b) (g n) a b) : ∀ (n : Nat) (d : D) (S : MS), Good n d → Wp (g n d d) S (fun x S' => x = .bl true ∧ S' = S) NoE
  | 0, d, S, h => by cases h
  | n + 1, d, S, h => by
    rw [hg]
    unfold sameB
    have seq : ∀ ds : List D, (∀ d ∈ ds, Good n d) → Wp (mapC (un2 fun a b => callM (ar2 (g n)) [M.pure a, M.pure b]) (zipD ds ds)) S (fun r S' => Wp (dAll (.lst r)) S' (fun x S' => x = .bl true ∧ S' = S) NoE) NoE := fun ds t => by
      refine map_true _ (fun p hp => ?_) ?_
      · unfold zipD at hp
        obtain ⟨⟨a, b⟩, m, e⟩ := List.mem_map.mp hp
        subst e
        obtain ⟨i, hi, e⟩ := List.mem_iff_getElem.mp m
        rw [List.getElem_zip] at e
        cases e
        simp only [wp_un2, wp_call, wp_args1, wp_args0, wp_pure, wp_ar2]
        exact same_refl g dict hg n _ S (t _ (List.getElem_mem _))
      · simp only [dAll, bools_rep]
        rw [wp_pure]
        refine ⟨?_, rfl⟩
        rw [List.all_replicate]
        split <;> rfl
    have zl : ∀ ds : List D, ds.length ≤ 16777216 → szOk (zipD ds ds).length = true := fun ds h => szOk_of (by unfold zipD; rw [List.length_map, List.length_zip, Nat.min_self]; exact h)
    cases h with
    | lst ds h t => simp [Ty.sub, zl ds h, seq ds t]
    | tup ds h t => simp [Ty.sub, zl ds h, seq ds t]
    | str x h => simp [Ty.sub, h]
    | _ => simp [Ty.sub]
/-- two ways that meet again -/
theorem wp_join {J C L : Type} {m : M (Fl J L)} {f : J → M (Fl C L)} {S : MS} {Q : Fl C L → MS → Prop} {E : Err → MS → Prop} (R : J → MS → Prop)
    (hm : Wp m S (fun z S' => ∃ c, z = .nx c ∧ R c S') E) (hf : ∀ c S', R c S' → Wp (f c) S' Q E) : Wp (thenM m f) S Q E := by
  rw [wp_then]
  refine hm.mono (fun z S' ⟨c, e, r⟩ => ?_) (fun _ _ h => h)
  subst e
  rw [goThen_nx]
  exact hf c S' r
end Dl

namespace Lw
open PySem L2 Dl
def top (i : Nat) : Stmt := PySem.Challenge.pw_fieldberth_k37_octets_moved.main.body.getD i (.Pass ⟨0, 0, 0, 0⟩)
abbrev f_draw := drawD
structure Bi (mg : Str → Option Value) : Prop where
  b_all : mg "all" = none
  b_bool : mg "bool" = none
  b_dict : mg "dict" = none
  b_enumerate : mg "enumerate" = none
  b_int : mg "int" = none
  b_isinstance : mg "isinstance" = none
  b_len : mg "len" = none
  b_list : mg "list" = none
  b_max : mg "max" = none
  b_min : mg "min" = none
  b_range : mg "range" = none
  b_tuple : mg "tuple" = none
  b_zip : mg "zip" = none
section
variable {P : Program} {w : World} {K : PySem.W.Frag} {base : Heap} {mg : Str → Option Value}
abbrev s_pick : Stmt := top 12
def f_pick (a_stream : D) (a_some : D) : M D := finM (retM (bin dItem (M.pure a_some) (callM (ar2 f_draw) [(M.pure a_stream), (callM (ar1 dLen) [(M.pure a_some)])])))
theorem sc_pick : FnScope ["_law_stream", "_law_some"] ["_law_stream", "_law_some"] (defScope s_pick) := ⟨rfl, rfl, rfl, by decide +kernel, rfl, by decide +kernel, by decide +kernel⟩
theorem ok_pick {f : Addr} {fd : FuncData} (F : Fun K "_law_pick" "_law_pick" s_pick f fd) (hm : mg "_law_pick" = some (.ref f)) (hk : PySem.W.keepIn K (.ref f) = true) (hb : Binds K fd ["_law_stream", "_law_some"] []) (B : Bi mg) (I_draw : FI P w K mg base "_law_draw" ["_law_stream", "_law_many"] 1 (ar2 f_draw)) : FI P w K mg base "_law_pick" ["_law_stream", "_law_some"] 2 (ar2 f_pick) := by
  exact ⟨f, fd, hm, hk, hb, fn_of_D F sc_pick fun ds hl cdv A outer s H E hr tk po => match ds, hl with
    | [a_stream, a_some], _ => ⟨_, rfl, show SD _ _ [.val a_stream, .val a_some] _ _ from (sd_ret (wk_any _) (ed_item (kpos := ⟨0, 0, 0, 0⟩) (ed_var 1) (ed_callF I_draw tk (hr.mono (by decide)) (ea_cons (ed_var 0) (ea_cons (ed_callB call_len calld_len B.b_len PySem.boot_len (ea_cons (ed_var 1) ea_nil)) ea_nil)))))⟩⟩
abbrev s_some_octets : Stmt := top 14
def f_some_octets (a_stream : D) (a_many : D) : M D := finM (retM (frz (mapL (M.bind (M.pure a_many) rng1) (fun v_k1 => (callM (ar2 f_pick) [(M.pure a_stream), (frz (lstM [(M.pure (D.int 0)), (M.pure (D.int 1)), (M.pure (D.int 127)), (M.pure (D.int 128)), (M.pure (D.int 255)), (callM (ar2 f_draw) [(M.pure a_stream), (M.pure (D.int 256))])]))])))))
theorem sc_some_octets : FnScope ["_law_stream", "_law_many", "_law_k"] ["_law_stream", "_law_many"] (defScope s_some_octets) := ⟨rfl, rfl, rfl, by decide +kernel, rfl, by decide +kernel, by decide +kernel⟩
theorem ok_some_octets {f : Addr} {fd : FuncData} (F : Fun K "_law_some_octets" "_law_some_octets" s_some_octets f fd) (hm : mg "_law_some_octets" = some (.ref f)) (hk : PySem.W.keepIn K (.ref f) = true) (hb : Binds K fd ["_law_stream", "_law_many"] []) (B : Bi mg) (I_draw : FI P w K mg base "_law_draw" ["_law_stream", "_law_many"] 1 (ar2 f_draw)) (I_pick : FI P w K mg base "_law_pick" ["_law_stream", "_law_some"] 2 (ar2 f_pick)) : FI P w K mg base "_law_some_octets" ["_law_stream", "_law_many"] 3 (ar2 f_some_octets) := by
  exact ⟨f, fd, hm, hk, hb, fn_of_D F sc_some_octets fun ds hl cdv A outer s H E hr tk po => match ds, hl with
    | [a_stream, a_many], _ => ⟨_, rfl, show SD _ _ [.val a_stream, .val a_many, .any] _ _ from (sd_ret (wk_any _) (ed_new (en_lc1 2 sc_some_octets.nd (blkOk_by (N := ["_law_stream", "_law_many", "_law_k"]) (sc := defScope s_some_octets) (own := [("_law_k", 2)]) (by decide +kernel)) (id_rng1 B.b_range (ed_var 1)) (by decide) (fun _ _ _ _ _ => (pg_name (i := 2) sc_some_octets.nd rfl (Or.inl rfl))) (fun _ _ _ _ _ v_k1 => (ed_callF I_pick takes0 (hr.mono (by decide)) (ea_cons (ed_var 0) (ea_cons (ed_new (en_lst (ea_cons ed_int (ea_cons ed_int (ea_cons ed_int (ea_cons ed_int (ea_cons ed_int (ea_cons (ed_callF I_draw takes0 (hr.mono (by decide)) (ea_cons (ed_var 0) (ea_cons ed_int ea_nil))) ea_nil)))))))) ea_nil)))))))⟩⟩
abbrev s_is_integer : Stmt := top 5
def f_is_integer (a_thing : D) : M D := finM (retM (andV (una (dIsi [.int]) (M.pure a_thing)) (notV (una (dIsi [.bool]) (M.pure a_thing)))))
theorem sc_is_integer : FnScope ["thing"] ["thing"] (defScope s_is_integer) := ⟨rfl, rfl, rfl, by decide +kernel, rfl, by decide +kernel, by decide +kernel⟩
theorem ok_is_integer {f : Addr} {fd : FuncData} (F : Fun K "is_integer" "is_integer" s_is_integer f fd) (hm : mg "is_integer" = some (.ref f)) (hk : PySem.W.keepIn K (.ref f) = true) (hb : Binds K fd ["thing"] []) (B : Bi mg) : FI P w K mg base "is_integer" ["thing"] 1 (ar1 f_is_integer) := by
  exact ⟨f, fd, hm, hk, hb, fn_of_D F sc_is_integer fun ds hl cdv A outer s H E hr tk po => match ds, hl with
    | [a_thing], _ => ⟨_, rfl, show SD _ _ [.val a_thing] _ _ from (sd_ret (wk_any _) (ed_and (ed_isi ⟨B.b_int, by decide +kernel, by rfl, by decide, by decide, by decide⟩ B.b_isinstance (ed_var 0)) (ed_one (ed_not (ed_isi ⟨B.b_bool, by decide +kernel, by rfl, by decide, by decide, by decide⟩ B.b_isinstance (ed_var 0))))))⟩⟩
abbrev s_checked_octet : Stmt := top 7
def f_checked_octet (a_thing : D) : M D := finM (ifM (orT (notT (tst (callM (ar1 f_is_integer) [(M.pure a_thing)]))) (orT (tst (bin dLt (M.pure a_thing) (M.pure (D.int 0)))) (tst (bin dGt (M.pure a_thing) (M.pure (D.int 255)))))) (outM ((M.pure a_thing).bind fun v_e2 => M.raise ⟨"BadOctet", "value", v_e2⟩)) (retM (M.pure a_thing)))
theorem sc_checked_octet : FnScope ["thing"] ["thing"] (defScope s_checked_octet) := ⟨rfl, rfl, rfl, by decide +kernel, rfl, by decide +kernel, by decide +kernel⟩
theorem ok_checked_octet {f : Addr} {fd : FuncData} (F : Fun K "checked_octet" "checked_octet" s_checked_octet f fd) (hm : mg "checked_octet" = some (.ref f)) (hk : PySem.W.keepIn K (.ref f) = true) (hb : Binds K fd ["thing"] []) (I_is_integer : FI P w K mg base "is_integer" ["thing"] 1 (ar1 f_is_integer)) (E_BadOctet : EI P w K mg base "BadOctet" "value") : FI P w K mg base "checked_octet" ["thing"] 3 (ar1 f_checked_octet) := by
  exact ⟨f, fd, hm, hk, hb, fn_of_D F sc_checked_octet fun ds hl cdv A outer s H E hr tk po => match ds, hl with
    | [a_thing], _ => ⟨_, rfl, show SD _ _ [.val a_thing] _ _ from (sd_ifR (wk_any _) (et_w (ew_or (et_not (et_val (ed_callF I_is_integer tk (hr.mono (by decide)) (ea_cons (ed_var 0) ea_nil)))) (ew_or (et_lt (ed_var 0) ed_int) (ew_or1 (et_gt (ed_var 0) ed_int))))) (sd_raiseF (wk_any _) E_BadOctet tk (hr.mono (by decide)) (ed_var 0)) (sd_ret (wk_any _) (ed_var 0)))⟩⟩
abbrev s_octets_of : Stmt := top 8
def f_octets_of (a_things : D) : M (List D) := finN (retM (frz (mapL (M.bind (M.pure a_things) items) (fun v_thing3 => (callM (ar1 f_checked_octet) [(M.pure v_thing3)])))))
theorem sc_octets_of : FnScope ["things", "thing"] ["things"] (defScope s_octets_of) := ⟨rfl, rfl, rfl, by decide +kernel, rfl, by decide +kernel, by decide +kernel⟩
theorem ok_octets_of {f : Addr} {fd : FuncData} (F : Fun K "octets_of" "octets_of" s_octets_of f fd) (hm : mg "octets_of" = some (.ref f)) (hk : PySem.W.keepIn K (.ref f) = true) (hb : Binds K fd ["things"] []) (I_checked_octet : FI P w K mg base "checked_octet" ["thing"] 3 (ar1 f_checked_octet)) : FN P w K mg base "octets_of" ["things"] 4 (ar1N f_octets_of) := by
  exact ⟨f, fd, hm, hk, hb, fn_of_N F sc_octets_of fun ds hl cdv A outer s H E hr tk po => match ds, hl with
    | [a_things], _ => ⟨_, rfl, show SD _ _ [.val a_things, .any] _ _ from (sd_retNew (wk_any _) (en_lc1 1 sc_octets_of.nd (blkOk_by (N := ["things", "thing"]) (sc := defScope s_octets_of) (own := [("thing", 1)]) (by decide +kernel)) (id_seq (ed_var 0)) (by decide) (fun _ _ _ _ _ => (pg_name (i := 1) sc_octets_of.nd rfl (Or.inl rfl))) (fun _ _ _ _ _ v_thing3 => (ed_callF I_checked_octet takes0 (hr.mono (by decide)) (ea_cons (ed_var 1) ea_nil)))))⟩⟩
abbrev s_Memory_init : Stmt := inClass (top 9) 0
def f_Memory_init (a_self : D) (a_octets : D) : M D := finM (M.bind (boxM (ifM (tst (callM (ar1 f_is_integer) [(M.pure a_octets)])) (repM (lstM [(M.pure (D.int 0))]) (M.pure a_octets)) ((argsM [(M.pure a_octets)]).bind (ar1N f_octets_of)))) fun v_v4 => M.bind (M.pure a_self) fun v_o5 => M.bind (setF "Memory" "octet_rows" v_o5 v_v4) fun _ => (M.pure (.nx ())))
theorem sc_Memory_init : FnScope ["self", "octets"] ["self", "octets"] (defScope s_Memory_init) := ⟨rfl, rfl, rfl, by decide +kernel, rfl, by decide +kernel, by decide +kernel⟩
theorem ok_Memory_init {C f : Addr} {fd : FuncData} (F : Fun K "__init__" "Memory.__init__" s_Memory_init f fd) (hc : CI K mg "Memory" C) (hm : Mk K C f) (hb : Binds K fd ["self", "octets"] []) (I_octets_of : FN P w K mg base "octets_of" ["things"] 4 (ar1N f_octets_of)) (I_is_integer : FI P w K mg base "is_integer" ["thing"] 1 (ar1 f_is_integer)) (na_Memory_octet_rows : NA K mg "Memory" "octet_rows") : KI P w K mg base "Memory" ["self", "octets"] 5 (ar2 f_Memory_init) := by
  exact ⟨C, f, fd, hc, hm, hb, fn_of_D F sc_Memory_init fun ds hl cdv A outer s H E hr tk po => match ds, hl with
    | [a_self, a_octets], _ => ⟨_, rfl, show SD _ _ [.val a_self, .val a_octets] _ _ from (sd_fldF (wk_any _) na_Memory_octet_rows (ed_var 0) (ed_box (en_if (et_val (ed_callF I_is_integer tk (hr.mono (by decide)) (ea_cons (ed_var 1) ea_nil))) (en_rep (en_lst (ea_cons ed_int ea_nil)) (ed_var 1)) (en_callN I_octets_of tk (hr.mono (by decide)) (ea_cons (ed_var 1) ea_nil)))) (sd_nil (c := ()) (wk_any _)))⟩⟩
abbrev s_place : Stmt := top 16
def f_place (a_stream : D) (a_many : D) (a_size : D) : M D := finM (M.bind (callM (ar2 f_draw) [(M.pure a_stream), (M.pure (D.int 4))]) fun v_way6 => (ifM (tst (bin dEq (M.pure v_way6) (M.pure (D.int 0)))) (outM (retM (bin dSub (bin dAdd (bin dSub (M.pure a_size) (M.pure a_many)) (callM (ar2 f_draw) [(M.pure a_stream), (M.pure (D.int 3))])) (M.pure (D.int 1))))) (ifM (tst (bin dEq (M.pure v_way6) (M.pure (D.int 1)))) (outM (M.bind (frz (lstM [(una dNeg (M.pure (D.int 1))), (M.pure (D.int 0)), (M.pure (D.int 1)), (bin dMul (una dNeg (M.pure (D.int 64))) (bin dPow (M.pure (D.int 2)) (M.pure (D.int 64)))), (bin dMul (M.pure (D.int 64)) (bin dPow (M.pure (D.int 2)) (M.pure (D.int 64)))), (M.pure a_size), (bin dAdd (M.pure a_size) (M.pure (D.int 1)))])) fun v_some7 => (retM (callM (ar2 f_pick) [(M.pure a_stream), (M.pure v_some7)])))) (retM (callM (ar2 f_draw) [(M.pure a_stream), (bin dAdd (M.pure a_size) (M.pure (D.int 1)))])))))
theorem sc_place : FnScope ["_law_stream", "_law_many", "_law_size", "_law_way", "_law_some"] ["_law_stream", "_law_many", "_law_size"] (defScope s_place) := ⟨rfl, rfl, rfl, by decide +kernel, rfl, by decide +kernel, by decide +kernel⟩
theorem ok_place {f : Addr} {fd : FuncData} (F : Fun K "_law_place" "_law_place" s_place f fd) (hm : mg "_law_place" = some (.ref f)) (hk : PySem.W.keepIn K (.ref f) = true) (hb : Binds K fd ["_law_stream", "_law_many", "_law_size"] []) (I_draw : FI P w K mg base "_law_draw" ["_law_stream", "_law_many"] 1 (ar2 f_draw)) (I_pick : FI P w K mg base "_law_pick" ["_law_stream", "_law_some"] 2 (ar2 f_pick)) : FI P w K mg base "_law_place" ["_law_stream", "_law_many", "_law_size"] 3 (ar3 f_place) := by
  exact ⟨f, fd, hm, hk, hb, fn_of_D F sc_place fun ds hl cdv A outer s H E hr tk po => match ds, hl with
    | [a_stream, a_many, a_size], _ => ⟨_, rfl, show SD _ _ [.val a_stream, .val a_many, .val a_size, .any, .any] _ _ from (sd_set 3 (wk_any _) sc_place.nd (ed_callF I_draw tk (hr.mono (by decide)) (ea_cons (ed_var 0) (ea_cons ed_int ea_nil))) (fun v_way6 => (sd_ifR (wk_any _) (et_eq hr (ed_var 3) ed_int) (sd_ret (wk_any _) (ed_sub (ed_add (ed_sub (ed_var 2) (ed_var 1)) (ed_callF I_draw tk (hr.mono (by decide)) (ea_cons (ed_var 0) (ea_cons ed_int ea_nil)))) ed_int)) (sd_ifR (wk_any _) (et_eq hr (ed_var 3) ed_int) (sd_set 4 (wk_any _) sc_place.nd (ed_new (en_lst (ea_cons (ed_neg ed_int) (ea_cons ed_int (ea_cons ed_int (ea_cons (ed_mul (ed_neg ed_int) (ed_pow ed_int ed_int)) (ea_cons (ed_mul ed_int (ed_pow ed_int ed_int)) (ea_cons (ed_var 2) (ea_cons (ed_add (ed_var 2) ed_int) ea_nil))))))))) (fun v_some7 => (sd_ret (wk_any _) (ed_callF I_pick tk (hr.mono (by decide)) (ea_cons (ed_var 0) (ea_cons (ed_var 4) ea_nil)))))) (sd_ret (wk_any _) (ed_callF I_draw tk (hr.mono (by decide)) (ea_cons (ed_var 0) (ea_cons (ed_add (ed_var 2) ed_int) ea_nil))))))))⟩⟩
abbrev s_same : Stmt := top 13
def f_same : Nat → D → D → M D
  | 0, _, _ => M.bad
  | n + 1, a_found, a_due => finM (ifM (tst (una (dIsi [.dict]) (M.pure a_due))) (outM (retM (andV (una (dIsi [.dict]) (M.pure a_found)) M.bad))) (ifM (tst (una (dIsi [.list, .tuple]) (M.pure a_due))) (outM (ifM (orT (tst (bin dNe (una (dIsi [.list]) (M.pure a_found)) (una (dIsi [.list]) (M.pure a_due)))) (tst (bin dNe (una (dIsi [.tuple]) (M.pure a_found)) (una (dIsi [.tuple]) (M.pure a_due))))) (outM (retM (M.pure (D.bl false)))) (retM (andV (bin dEq (callM (ar1 dLen) [(M.pure a_found)]) (callM (ar1 dLen) [(M.pure a_due)])) (callM (ar1 dAll) [(frz (mapL (M.bind (argsM [(M.pure a_found), (M.pure a_due)]) zipM) (un2 fun v_one8 v_two9 => (callM (ar2 (f_same n)) [(M.pure v_one8), (M.pure v_two9)]))))]))))) (ifM (tst (una (dIsi [.int]) (M.pure a_due))) (outM (retM (andV (una (dIsi [.int]) (M.pure a_found)) (andV (bin dEq (una (dIsi [.bool]) (M.pure a_found)) (una (dIsi [.bool]) (M.pure a_due))) (bin dEq (M.pure a_found) (M.pure a_due)))))) (retM (andV (una (dIsB false) (una (dIsi [.bool, .int, .list, .tuple, .dict]) (M.pure a_found))) (bin dEq (M.pure a_found) (M.pure a_due)))))))
theorem sc_same : FnScope ["_law_found", "_law_due", "_law_one", "_law_two"] ["_law_found", "_law_due"] (defScope s_same) := ⟨rfl, rfl, rfl, by decide +kernel, rfl, by decide +kernel, by decide +kernel⟩
theorem ok_same {f : Addr} {fd : FuncData} (F : Fun K "_law_same" "_law_same" s_same f fd) (hm : mg "_law_same" = some (.ref f)) (hk : PySem.W.keepIn K (.ref f) = true) (hb : Binds K fd ["_law_found", "_law_due"] []) (B : Bi mg) : ∀ n : Nat, FI P w K mg base "_law_same" ["_law_found", "_law_due"] (1 + n) (ar2 (f_same n))
  | 0 => ⟨f, fd, hm, hk, hb, fn_of_D F sc_same fun ds hl cdv A outer s H E hr tk po => match ds, hl with
    | [_, _], _ => ⟨M.bad, rfl, sd_bad⟩⟩
  | n + 1 => by
    have ih_same := ok_same F hm hk hb B n
    exact ⟨f, fd, hm, hk, hb, fn_of_D F sc_same fun ds hl cdv A outer s H E hr tk po => match ds, hl with
    | [a_found, a_due], _ => ⟨_, rfl, show SD _ _ [.val a_found, .val a_due, .any, .any] _ _ from (sd_ifR (wk_any _) (et_val (ed_isi ⟨B.b_dict, by decide +kernel, by rfl, by decide, by decide, by decide⟩ B.b_isinstance (ed_var 1))) (sd_ret (wk_any _) (ed_and (ed_isi ⟨B.b_dict, by decide +kernel, by rfl, by decide, by decide, by decide⟩ B.b_isinstance (ed_var 0)) (ed_one ed_bad))) (sd_ifR (wk_any _) (et_val (ed_isiT (.cons ⟨B.b_list, by decide +kernel, by rfl, by decide, by decide, by decide⟩ (by rfl) (.cons ⟨B.b_tuple, by decide +kernel, by rfl, by decide, by decide, by decide⟩ (by rfl) .nil)) B.b_isinstance (ed_var 1))) (sd_ifR (wk_any _) (et_w (ew_or (et_ne hr (ed_isi ⟨B.b_list, by decide +kernel, by rfl, by decide, by decide, by decide⟩ B.b_isinstance (ed_var 0)) (ed_isi ⟨B.b_list, by decide +kernel, by rfl, by decide, by decide, by decide⟩ B.b_isinstance (ed_var 1))) (ew_or1 (et_ne hr (ed_isi ⟨B.b_tuple, by decide +kernel, by rfl, by decide, by decide, by decide⟩ B.b_isinstance (ed_var 0)) (ed_isi ⟨B.b_tuple, by decide +kernel, by rfl, by decide, by decide, by decide⟩ B.b_isinstance (ed_var 1)))))) (sd_ret (wk_any _) ed_bl) (sd_ret (wk_any _) (ed_and (ed_eq hr (ed_callB call_len calld_len B.b_len PySem.boot_len (ea_cons (ed_var 0) ea_nil)) (ed_callB call_len calld_len B.b_len PySem.boot_len (ea_cons (ed_var 1) ea_nil))) (ed_one (ed_callB (cr_all rfl) calld_all B.b_all (by decide +kernel) (ea_cons (ed_new (en_lc2 2 3 sc_same.nd (blkOk_by (N := ["_law_found", "_law_due", "_law_one", "_law_two"]) (sc := defScope s_same) (own := [("_law_one", 2), ("_law_two", 3)]) (by decide +kernel)) (id_zip B.b_zip (ea_cons (ed_var 0) (ea_cons (ed_var 1) ea_nil))) (by decide) (by decide) (fun _ _ _ _ _ => (pg_tup2 rfl (pg_name (i := 2) sc_same.nd rfl (Or.inl rfl)) (pg_name (i := 3) sc_same.nd rfl (Or.inl rfl)))) (fun _ _ _ _ _ v_one8 v_two9 => (ed_callF ih_same takes0 (hr.mono (by show _ ≤ 1 + n; omega)) (ea_cons (ed_var 2) (ea_cons (ed_var 3) ea_nil)))))) ea_nil)))))) (sd_ifR (wk_any _) (et_val (ed_isi ⟨B.b_int, by decide +kernel, by rfl, by decide, by decide, by decide⟩ B.b_isinstance (ed_var 1))) (sd_ret (wk_any _) (ed_and (ed_isi ⟨B.b_int, by decide +kernel, by rfl, by decide, by decide, by decide⟩ B.b_isinstance (ed_var 0)) (ed_and (ed_eq hr (ed_isi ⟨B.b_bool, by decide +kernel, by rfl, by decide, by decide, by decide⟩ B.b_isinstance (ed_var 0)) (ed_isi ⟨B.b_bool, by decide +kernel, by rfl, by decide, by decide, by decide⟩ B.b_isinstance (ed_var 1))) (ed_one (ed_eq hr (ed_var 0) (ed_var 1)))))) (sd_ret (wk_any _) (ed_and (ed_isB (ed_isiT (.cons ⟨B.b_bool, by decide +kernel, by rfl, by decide, by decide, by decide⟩ (by rfl) (.cons ⟨B.b_int, by decide +kernel, by rfl, by decide, by decide, by decide⟩ (by rfl) (.cons ⟨B.b_list, by decide +kernel, by rfl, by decide, by decide, by decide⟩ (by rfl) (.cons ⟨B.b_tuple, by decide +kernel, by rfl, by decide, by decide, by decide⟩ (by rfl) (.cons ⟨B.b_dict, by decide +kernel, by rfl, by decide, by decide, by decide⟩ (by rfl) .nil))))) B.b_isinstance (ed_var 0))) (ed_one (ed_eq hr (ed_var 0) (ed_var 1))))))))⟩⟩
abbrev s_Memory_check_run : Stmt := inClass (top 9) 7
def f_Memory_check_run (a_self : D) (a_start : D) (a_many : D) : M D := finM (ifM (orT (tst (bin dLt (M.pure a_start) (M.pure (D.int 0)))) (tst (bin dGt (bin dAdd (M.pure a_start) (M.pure a_many)) (callM (ar1 dLen) [(una (dFld "Memory" "octet_rows") (M.pure a_self))])))) ((M.pure a_start).bind fun v_e10 => M.raise ⟨"BadAddress", "octet", v_e10⟩) (M.pure (.nx ())))
theorem sc_Memory_check_run : FnScope ["self", "start", "many"] ["self", "start", "many"] (defScope s_Memory_check_run) := ⟨rfl, rfl, rfl, by decide +kernel, rfl, by decide +kernel, by decide +kernel⟩
theorem ok_Memory_check_run {C f : Addr} {fd : FuncData} (F : Fun K "check_run" "Memory.check_run" s_Memory_check_run f fd) (hc : CI K mg "Memory" C) (hm : Meth K C "check_run" f) (hb : Binds K fd ["self", "start", "many"] []) (na_Memory_octet_rows : NA K mg "Memory" "octet_rows") (B : Bi mg) (E_BadAddress : EI P w K mg base "BadAddress" "octet") : MI P w K mg base "Memory" "check_run" ["self", "start", "many"] 3 (ar3 f_Memory_check_run) := by
  exact ⟨C, f, fd, hc, hm, hb, fn_of_D F sc_Memory_check_run fun ds hl cdv A outer s H E hr tk po => match ds, hl with
    | [a_self, a_start, a_many], _ => ⟨_, rfl, show SD _ _ [.val a_self, .val a_start, .val a_many] _ _ from (sd_if (wk_any _) (et_w (ew_or (et_lt (ed_var 1) ed_int) (ew_or1 (et_gt (ed_add (ed_var 1) (ed_var 2)) (ed_callB call_len calld_len B.b_len PySem.boot_len (ea_cons (ed_fldF na_Memory_octet_rows (ed_var 0)) ea_nil)))))) (sd_raiseF (wk_any _) E_BadAddress tk (hr.mono (by decide)) (ed_var 1)) (sd_nil (c := ()) (wk_any _)))⟩⟩
abbrev s_Memory_move : Stmt := inClass (top 9) 8
def f_Memory_move (a_self : D) (a_to : D) (a_source : D) (a_many : D) : M D := finM (M.bind (methM "Memory" "check_run" (ar3 f_Memory_check_run) (M.pure a_self) [(M.pure a_to), (M.pure a_many)]) fun _ => (M.bind (methM "Memory" "check_run" (ar3 f_Memory_check_run) (M.pure a_self) [(M.pure a_source), (M.pure a_many)]) fun _ => (M.bind (M.bind (frz (cutM (una (dFld "Memory" "octet_rows") (M.pure a_self)) (partM (some (M.pure a_source))) (partM (some (bin dAdd (M.pure a_source) (M.pure a_many)))))) enumM) fun v_ds17 => thenM (forM (fun (_ : Unit) => un2 fun v_k12 v_octet13 => (M.bind (M.pure v_octet13) fun v_v14 => M.bind (una (dFld "Memory" "octet_rows") (M.pure a_self)) fun v_o15 => M.bind (bin dAdd (M.pure a_to) (M.pure v_k12)) fun v_i16 => M.bind (setI v_o15 v_i16 v_v14) fun _ => (M.pure (.nx ())))) v_ds17 ()) (fun (_ : Unit) => (M.pure (.nx ()))))))
theorem sc_Memory_move : FnScope ["self", "to", "source", "many", "k", "octet"] ["self", "to", "source", "many"] (defScope s_Memory_move) := ⟨rfl, rfl, rfl, by decide +kernel, rfl, by decide +kernel, by decide +kernel⟩
theorem ok_Memory_move {C f : Addr} {fd : FuncData} (F : Fun K "move" "Memory.move" s_Memory_move f fd) (hc : CI K mg "Memory" C) (hm : Meth K C "move" f) (hb : Binds K fd ["self", "to", "source", "many"] []) (I_Memory_check_run : MI P w K mg base "Memory" "check_run" ["self", "start", "many"] 3 (ar3 f_Memory_check_run)) (na_Memory_octet_rows : NA K mg "Memory" "octet_rows") (B : Bi mg) : MI P w K mg base "Memory" "move" ["self", "to", "source", "many"] 4 (ar4 f_Memory_move) := by
  exact ⟨C, f, fd, hc, hm, hb, fn_of_D F sc_Memory_move fun ds hl cdv A outer s H E hr tk po => match ds, hl with
    | [a_self, a_to, a_source, a_many], _ => ⟨_, rfl, show SD _ _ [.val a_self, .val a_to, .val a_source, .val a_many, .any, .any] _ _ from (sd_expr (wk_any _) (ed_methF I_Memory_check_run tk (hr.mono (by decide)) (ed_var 0) (ea_cons (ed_var 1) (ea_cons (ed_var 3) ea_nil))) (sd_expr (wk_any _) (ed_methF I_Memory_check_run tk (hr.mono (by decide)) (ed_var 0) (ea_cons (ed_var 2) (ea_cons (ed_var 3) ea_nil))) (sd_for2 4 5 (fun (_ : Unit) => [.val a_self, .val a_to, .val a_source, .val a_many, .any, .any]) () (wk_any _) (.same (.same (.same (.same (.any (.any .nil)))))) po (id_enum B.b_enumerate (ed_new (en_slice (ed_fldF na_Memory_octet_rows (ed_var 0)) (eo_some (ed_var 2)) (eo_some (ed_add (ed_var 2) (ed_var 3)))))) (pg_tup2 rfl (pg_name (i := 4) sc_Memory_move.nd rfl (by first | exact Or.inl rfl | exact Or.inr rfl)) (pg_name (i := 5) sc_Memory_move.nd rfl (by first | exact Or.inl rfl | exact Or.inr rfl))) (fun _ v_k12 v_octet13 => (sd_setI (wk_any _) (sd_nil (c := ()) (.same (.same (.same (.same (.any (.any .nil))))))) (ps_asg (ed_var 5) (pg_sub (ed_fldF na_Memory_octet_rows (ed_var 0)) (ed_add (ed_var 1) (ed_var 4)) set_list)))) (fun _ => (sd_nil (c := ()) (wk_any _))))))⟩⟩
abbrev s_moved : Stmt := top 15
def f_moved (a_memory : D) (a_to : D) (a_source : D) (a_many : D) : M D := finM (M.bind (M.pure D.non) fun v_found18 => (thenM (tryM "BadAddress" "octet" [] (M.bind (tupM [(M.pure (D.str "told")), (methM "Memory" "move" (ar4 f_Memory_move) (M.pure a_memory) [(M.pure a_to), (M.pure a_source), (M.pure a_many)])]) fun v_found20 => (M.pure (.nx v_found20))) (fun v_e21 => (M.bind (tupM [(M.pure (D.str "address")), (M.pure v_e21)]) fun v_found22 => (M.pure (.nx v_found22))))) (fun (v_c19 : D) => (retM (M.pure v_c19)))))
theorem sc_moved : FnScope ["_law_memory", "_law_to", "_law_source", "_law_many", "_law_found", "e"] ["_law_memory", "_law_to", "_law_source", "_law_many"] (defScope s_moved) := ⟨rfl, rfl, rfl, by decide +kernel, rfl, by decide +kernel, by decide +kernel⟩
theorem ok_moved {f : Addr} {fd : FuncData} (F : Fun K "_law_moved" "_law_moved" s_moved f fd) (hm : mg "_law_moved" = some (.ref f)) (hk : PySem.W.keepIn K (.ref f) = true) (hb : Binds K fd ["_law_memory", "_law_to", "_law_source", "_law_many"] []) (I_Memory_move : MI P w K mg base "Memory" "move" ["self", "to", "source", "many"] 4 (ar4 f_Memory_move)) (X_BadAddress : EX K mg "BadAddress" "octet") : FI P w K mg base "_law_moved" ["_law_memory", "_law_to", "_law_source", "_law_many"] 5 (ar4 f_moved) := by
  obtain ⟨CA_BadAddress, hm_BadAddress, te_BadAddress, xf_BadAddress, nf_BadAddress⟩ := X_BadAddress
  exact ⟨f, fd, hm, hk, hb, fn_of_D F sc_moved fun ds hl cdv A outer s H E hr tk po => match ds, hl with
    | [a_memory, a_to, a_source, a_many], _ => ⟨_, rfl, show SD _ _ [.val a_memory, .val a_to, .val a_source, .val a_many, .any, .any] _ _ from (sd_set 4 (wk_any _) sc_moved.nd ed_non (fun v_found18 => (sd_try (fun (v_c19 : D) => [.val a_memory, .val a_to, .val a_source, .val a_many, .val v_c19, .any]) [.val a_memory, .val a_to, .val a_source, .val a_many, .val v_found18, .any] (i := 5) (f := "octet") (wk_any _) (wk_any _) hm_BadAddress tk sc_moved.nd te_BadAddress (fun _ h => nomatch h) (fun W1 pn1 xe1 tk1 po1 => (sd_set 4 (.same (.same (.same (.same (.same (.any .nil)))))) sc_moved.nd (ed_tup (ea_cons ed_str (ea_cons (ed_methF I_Memory_move tk1 (hr.mono (by decide)) (ed_var 0) (ea_cons (ed_var 1) (ea_cons (ed_var 2) (ea_cons (ed_var 3) ea_nil)))) ea_nil))) (fun v_found20 => (sd_nil (c := v_found20) (.same (.same (.same (.same (.same (.any .nil)))))))))) (fun a1 d1 oe1 v_e21 pn1 hz hv => (sd_set 4 (wk_any _) sc_moved.nd (ed_tup (ea_cons ed_str (ea_cons (ed_xf (i := 5) xf_BadAddress nf_BadAddress hz hv rfl) ea_nil))) (fun v_found22 => (sd_nil (c := v_found22) (.same (.same (.same (.same (.same (.any .nil)))))))))) (fun v_c19 => (sd_ret (wk_any _) (ed_var 4))) (fun _ => rfl) (fun l => l.elim))))⟩⟩
abbrev s_Memory_octets : Stmt := inClass (top 9) 6
def f_Memory_octets (a_self : D) : M D := finM (retM (frz (toList (una (dFld "Memory" "octet_rows") (M.pure a_self)))))
theorem sc_Memory_octets : FnScope ["self"] ["self"] (defScope s_Memory_octets) := ⟨rfl, rfl, rfl, by decide +kernel, rfl, by decide +kernel, by decide +kernel⟩
theorem ok_Memory_octets {C f : Addr} {fd : FuncData} (F : Fun K "octets" "Memory.octets" s_Memory_octets f fd) (hc : CI K mg "Memory" C) (hm : Meth K C "octets" f) (hb : Binds K fd ["self"] []) (na_Memory_octet_rows : NA K mg "Memory" "octet_rows") (B : Bi mg) : MI P w K mg base "Memory" "octets" ["self"] 1 (ar1 f_Memory_octets) := by
  exact ⟨C, f, fd, hc, hm, hb, fn_of_D F sc_Memory_octets fun ds hl cdv A outer s H E hr tk po => match ds, hl with
    | [a_self], _ => ⟨_, rfl, show SD _ _ [.val a_self] _ _ from (sd_ret (wk_any _) (ed_new (en_list (mL := B.b_list) (ed_fldF na_Memory_octet_rows (ed_var 0)))))⟩⟩
abbrev s_law : Stmt := top 17
def m_law : M (Fl Unit Empty) := (M.bind (M.bind (M.pure (D.int 4)) rng1) fun v_ds42 => thenM (forM (fun (_ : Unit) v_turn24 => (M.bind (callM (ar2 f_pick) [(M.pure D.strm), (frz (lstM [(M.pure (D.int 0)), (M.pure (D.int 1)), (M.pure (D.int 2)), (M.pure (D.int 5)), (M.pure (D.int 30)), (callM (ar2 f_draw) [(M.pure D.strm), (M.pure (D.int 31))])]))]) fun v_size25 => (M.bind (callM (ar2 f_some_octets) [(M.pure D.strm), (M.pure v_size25)]) fun v_rows26 => (M.bind (newM "Memory" (ar2 f_Memory_init) [(M.pure v_rows26)]) fun v_memory27 => (M.bind (M.bind (M.pure (D.int 16)) rng1) fun v_ds41 => thenM (forM (fun (v_c28 : D) v_deed29 => (M.bind (callM (ar2 f_pick) [(M.pure D.strm), (frz (lstM [(M.pure (D.int 0)), (M.pure (D.int 1)), (M.pure (D.int 2)), (M.pure (D.int 3)), (M.pure v_size25), (bin dAdd (M.pure v_size25) (M.pure (D.int 1))), (callM (ar2 f_draw) [(M.pure D.strm), (bin dAdd (M.pure v_size25) (M.pure (D.int 1)))])]))]) fun v_many30 => (M.bind (callM (ar3 f_place) [(M.pure D.strm), (M.pure v_many30), (M.pure v_size25)]) fun v_to31 => (M.bind (callM (ar3 f_place) [(M.pure D.strm), (M.pure v_many30), (M.pure v_size25)]) fun v_source32 => (thenM (ifM (tst (bin dEq (callM (ar2 f_draw) [(M.pure D.strm), (M.pure (D.int 2))]) (M.pure (D.int 0)))) (M.bind (callM (ar2 dMin) [(callM (ar2 dMax) [(M.pure (D.int 0)), (bin dSub (bin dAdd (M.pure v_to31) (callM (ar2 f_draw) [(M.pure D.strm), (M.pure (D.int 5))])) (M.pure (D.int 2)))]), (bin dMul (M.pure (D.int 64)) (bin dPow (M.pure (D.int 2)) (M.pure (D.int 64))))]) fun v_source34 => (M.pure (.nx v_source34))) (M.pure (.nx v_source32))) (fun (v_c33 : D) => (M.bind (filL (M.bind (tupM [(M.pure v_to31), (M.pure v_c33)]) items) (fun v_place_here36 => (orT (tst (bin dLt (M.pure v_place_here36) (M.pure (D.int 0)))) (tst (bin dGt (bin dAdd (M.pure v_place_here36) (M.pure v_many30)) (M.pure v_size25))))) (fun v_place_here36 => (M.pure v_place_here36))) fun v_bad35 => (M.bind (ifM (tst (bin dEq (M.pure (D.lst v_bad35)) (frz (lstM [])))) (tupM [(M.pure (D.str "told")), (M.pure D.non)]) (tupM [(M.pure (D.str "address")), (bin dItem (M.pure (D.lst v_bad35)) (M.pure (D.int 0)))])) fun v_due37 => (ifM (notT (tst (callM (ar2 (f_same 4)) [(callM (ar4 f_moved) [(M.pure v_memory27), (M.pure v_to31), (M.pure v_c33), (M.pure v_many30)]), (M.pure v_due37)]))) (outM (retM (M.pure (D.bl false)))) (thenM (ifM (tst (bin dEq (M.pure (D.lst v_bad35)) (frz (lstM [])))) (M.bind (frz (cutM (M.pure v_c28) (partM (some (M.pure v_c33))) (partM (some (bin dAdd (M.pure v_c33) (M.pure v_many30)))))) fun v_moved_here39 => (M.bind (bin dAdd (bin dAdd (frz (cutM (M.pure v_c28) (partM none) (partM (some (M.pure v_to31))))) (M.pure v_moved_here39)) (frz (cutM (M.pure v_c28) (partM (some (bin dAdd (M.pure v_to31) (M.pure v_many30)))) (partM none)))) fun v_rows40 => (M.pure (.nx v_rows40)))) (M.pure (.nx v_c28))) (fun (v_c38 : D) => (ifM (notT (tst (callM (ar2 (f_same 4)) [(methM "Memory" "octets" (ar1 f_Memory_octets) (M.pure v_memory27) []), (M.pure v_c38)]))) (retM (M.pure (D.bl false))) (M.pure (.nx v_c38)))))))))))))) v_ds41 v_rows26) (fun (v_c28 : D) => (M.pure (.nx ())))))))) v_ds42 ()) (fun (_ : Unit) => (retM (M.pure (D.bl true)))))
theorem sc_law : FnScope ["_law_script", "_law_stream", "_law_turn", "_law_size", "_law_rows", "_law_memory", "_law_deed", "_law_many", "_law_to", "_law_source", "_law_bad", "_law_due", "_law_moved_here", "_law_place_here"] ["_law_script"] (defScope s_law) := ⟨rfl, rfl, rfl, by decide +kernel, rfl, by decide +kernel, by decide +kernel⟩
theorem ok_law {f : Addr} {fd : FuncData} (F : Fun K "law" "law" s_law f fd) (B : Bi mg) (I_draw : FI P w K mg base "_law_draw" ["_law_stream", "_law_many"] 1 (ar2 f_draw)) (I_pick : FI P w K mg base "_law_pick" ["_law_stream", "_law_some"] 2 (ar2 f_pick)) (I_some_octets : FI P w K mg base "_law_some_octets" ["_law_stream", "_law_many"] 3 (ar2 f_some_octets)) (I_Memory_init : KI P w K mg base "Memory" ["self", "octets"] 5 (ar2 f_Memory_init)) (I_place : FI P w K mg base "_law_place" ["_law_stream", "_law_many", "_law_size"] 3 (ar3 f_place)) (I_moved : FI P w K mg base "_law_moved" ["_law_memory", "_law_to", "_law_source", "_law_many"] 5 (ar4 f_moved)) (I_same : ∀ n, FI P w K mg base "_law_same" ["_law_found", "_law_due"] (1 + n) (ar2 (f_same n))) (I_Memory_octets : MI P w K mg base "Memory" "octets" ["self"] 1 (ar1 f_Memory_octets)) (hlaw : ∀ ns : List Int, ns.length ≤ 63 → ∃ S', finM m_law (S0 ns) = .ok (.bl true) S') : FnOk P w K mg base (L2.CX P w) 7 f fd ["_law_script"] (spL K) := by
  exact fn_law F sc_law (by decide) hlaw fun cdv A outer s H E hr tk po => ⟨_, _, rfl, ps_set (i := 1) sc_law.nd rfl (by first | exact Or.inl rfl | exact Or.inr rfl) (pe_lst (pa_cons (pe_callTy call_list_of (by rfl) B.b_list (by decide +kernel) (pa_cons (pv 0) pa_nil)) (pa_cons pe_int (pa_cons pe_int (pa_cons pe_int pa_nil))))), (show SD _ _ [.any, .val D.strm, .any, .any, .any, .any, .any, .any, .any, .any, .any, .any, .any, .any] _ _ from (sd_for1 2 (fun (_ : Unit) => [.any, .val D.strm, .any, .any, .any, .any, .any, .any, .any, .any, .any, .any, .any, .any]) () (wk_any _) (.any (.same (.any (.any (.any (.any (.any (.any (.any (.any (.any (.any (.any (.any .nil)))))))))))))) po (id_rng1 B.b_range ed_int) (pg_name (i := 2) sc_law.nd rfl (by first | exact Or.inl rfl | exact Or.inr rfl)) (fun _ v_turn24 => (sd_set 3 (wk_any _) sc_law.nd (ed_callF I_pick tk (hr.mono (by decide)) (ea_cons (ed_var 1) (ea_cons (ed_new (en_lst (ea_cons ed_int (ea_cons ed_int (ea_cons ed_int (ea_cons ed_int (ea_cons ed_int (ea_cons (ed_callF I_draw tk (hr.mono (by decide)) (ea_cons (ed_var 1) (ea_cons ed_int ea_nil))) ea_nil)))))))) ea_nil))) (fun v_size25 => (sd_set 4 (wk_any _) sc_law.nd (ed_callF I_some_octets tk (hr.mono (by decide)) (ea_cons (ed_var 1) (ea_cons (ed_var 3) ea_nil))) (fun v_rows26 => (sd_set 5 (wk_any _) sc_law.nd (ed_makeF I_Memory_init tk (hr.mono (by decide)) (ea_cons (ed_var 4) ea_nil)) (fun v_memory27 => (sd_for1 6 (fun (v_c28 : D) => [.any, .val D.strm, .val v_turn24, .val v_size25, .val v_c28, .val v_memory27, .any, .any, .any, .any, .any, .any, .any, .any]) v_rows26 (wk_any _) (.any (.same (.same (.same (.same (.same (.any (.any (.any (.any (.any (.any (.any (.any .nil)))))))))))))) po (id_rng1 B.b_range ed_int) (pg_name (i := 6) sc_law.nd rfl (by first | exact Or.inl rfl | exact Or.inr rfl)) (fun v_c28 v_deed29 => (sd_set 7 (wk_any _) sc_law.nd (ed_callF I_pick tk (hr.mono (by decide)) (ea_cons (ed_var 1) (ea_cons (ed_new (en_lst (ea_cons ed_int (ea_cons ed_int (ea_cons ed_int (ea_cons ed_int (ea_cons (ed_var 3) (ea_cons (ed_add (ed_var 3) ed_int) (ea_cons (ed_callF I_draw tk (hr.mono (by decide)) (ea_cons (ed_var 1) (ea_cons (ed_add (ed_var 3) ed_int) ea_nil))) ea_nil))))))))) ea_nil))) (fun v_many30 => (sd_set 8 (wk_any _) sc_law.nd (ed_callF I_place tk (hr.mono (by decide)) (ea_cons (ed_var 1) (ea_cons (ed_var 7) (ea_cons (ed_var 3) ea_nil)))) (fun v_to31 => (sd_set 9 (wk_any _) sc_law.nd (ed_callF I_place tk (hr.mono (by decide)) (ea_cons (ed_var 1) (ea_cons (ed_var 7) (ea_cons (ed_var 3) ea_nil)))) (fun v_source32 => (sd_ifJ (fun (v_c33 : D) => [.any, .val D.strm, .val v_turn24, .val v_size25, .val v_c28, .val v_memory27, .val v_deed29, .val v_many30, .val v_to31, .val v_c33, .any, .any, .any, .any]) (wk_any _) (et_eq hr (ed_callF I_draw tk (hr.mono (by decide)) (ea_cons (ed_var 1) (ea_cons ed_int ea_nil))) ed_int) (sd_set 9 (wk_any _) sc_law.nd (ed_callB (call_min2 rfl) calld_min B.b_min (by decide +kernel) (ea_cons (ed_callB (call_max2 rfl) calld_max B.b_max (by decide +kernel) (ea_cons ed_int (ea_cons (ed_sub (ed_add (ed_var 8) (ed_callF I_draw tk (hr.mono (by decide)) (ea_cons (ed_var 1) (ea_cons ed_int ea_nil)))) ed_int) ea_nil))) (ea_cons (ed_mul ed_int (ed_pow ed_int ed_int)) ea_nil))) (fun v_source34 => (sd_nil (c := v_source34) (.any (.same (.same (.same (.same (.same (.same (.same (.same (.same (.any (.any (.any (.any .nil))))))))))))))))) (sd_nil (c := v_source32) (.any (.same (.same (.same (.same (.same (.same (.same (.same (.same (.any (.any (.any (.any .nil))))))))))))))) (fun v_c33 => (sd_ofLc 10 (wk_any _) (ps_lc1f 13 sc_law.nd (blkOk_by (N := ["_law_script", "_law_stream", "_law_turn", "_law_size", "_law_rows", "_law_memory", "_law_deed", "_law_many", "_law_to", "_law_source", "_law_bad", "_law_due", "_law_moved_here", "_law_place_here"]) (sc := defScope s_law) (own := [("_law_place_here", 13)]) (by decide +kernel)) (id_seq (ed_tup (ea_cons (ed_var 8) (ea_cons (ed_var 9) ea_nil)))) (by decide) (fun _ _ _ _ _ => (pg_name (i := 13) sc_law.nd rfl (Or.inl rfl))) (fun _ _ _ _ _ v_place_here36 => (et_w (ew_or (et_lt (ed_var 13) ed_int) (ew_or1 (et_gt (ed_add (ed_var 13) (ed_var 7)) (ed_var 3)))))) (fun _ _ _ _ _ v_place_here36 => (ed_var 13)) rfl rfl (sw_true rfl rfl rfl (by decide +kernel))) (fun v_bad35 => (sd_set 11 (wk_any _) sc_law.nd (ed_if (et_eq hr (ed_var 10) (ed_new (en_lst ea_nil))) (ed_tup (ea_cons ed_str (ea_cons ed_non ea_nil))) (ed_tup (ea_cons ed_str (ea_cons (ed_item (kpos := ⟨0, 0, 0, 0⟩) (ed_var 10) ed_int) ea_nil)))) (fun v_due37 => (sd_ifR (wk_any _) (et_not (et_val (ed_callF (I_same 4) tk (hr.mono (by decide)) (ea_cons (ed_callF I_moved tk (hr.mono (by decide)) (ea_cons (ed_var 5) (ea_cons (ed_var 8) (ea_cons (ed_var 9) (ea_cons (ed_var 7) ea_nil))))) (ea_cons (ed_var 11) ea_nil))))) (sd_ret (wk_any _) ed_bl) (sd_ifJ (fun (v_c38 : D) => [.any, .val D.strm, .val v_turn24, .val v_size25, .val v_c38, .val v_memory27, .val v_deed29, .val v_many30, .val v_to31, .val v_c33, .val (D.lst v_bad35), .val v_due37, .any, .any]) (wk_any _) (et_eq hr (ed_var 10) (ed_new (en_lst ea_nil))) (sd_set 12 (wk_any _) sc_law.nd (ed_new (en_slice (ed_var 4) (eo_some (ed_var 9)) (eo_some (ed_add (ed_var 9) (ed_var 7))))) (fun v_moved_here39 => (sd_set 4 (wk_any _) sc_law.nd (ed_add (ed_add (ed_new (en_slice (ed_var 4) eo_none (eo_some (ed_var 8)))) (ed_var 12)) (ed_new (en_slice (ed_var 4) (eo_some (ed_add (ed_var 8) (ed_var 7))) eo_none))) (fun v_rows40 => (sd_nil (c := v_rows40) (.any (.same (.same (.same (.same (.same (.same (.same (.same (.same (.same (.same (.any (.any .nil))))))))))))))))))) (sd_nil (c := v_c28) (.any (.same (.same (.same (.same (.same (.same (.same (.same (.same (.same (.same (.any (.any .nil))))))))))))))) (fun v_c38 => (sd_if (wk_any _) (et_not (et_val (ed_callF (I_same 4) tk (hr.mono (by decide)) (ea_cons (ed_methF0 I_Memory_octets tk (hr.mono (by decide)) (ed_var 5)) (ea_cons (ed_var 4) ea_nil))))) (sd_ret (wk_any _) ed_bl) (sd_nil (c := v_c38) (.any (.same (.same (.same (.same (.same (.any (.any (.any (.any (.any (.any (.any (.any .nil)))))))))))))))))))))))))))))))) (fun v_c28 => (sd_nil (c := ()) (.any (.same (.any (.any (.any (.any (.any (.any (.any (.any (.any (.any (.any (.any .nil)))))))))))))))))))))))) (fun _ => (sd_ret (wk_any _) ed_bl))))⟩
end
end Lw

namespace Lw
open PySem L2 Dl
abbrev s_draw : Stmt := top 11

/-! ### the draw -/
theorem ix0 {α : Type} {a b c d : α} : atI [a, b, c, d] 0 = some a := rfl
theorem ix1 {α : Type} {a b c d : α} : atI [a, b, c, d] 1 = some b := rfl
theorem ix2 {α : Type} {a b c d : α} : atI [a, b, c, d] 2 = some c := rfl
theorem ix3 {α : Type} {a b c d : α} : atI [a, b, c, d] 3 = some d := rfl
theorem seq0 {n : Nat} : seqIndex? 0 (n + 1) = some 0 := by simp [seqIndex?]
theorem dp_ints {K : PySem.W.Frag} {H : Hp} : ∀ xs : List Int, DpAll K H (xs.map V.int) (xs.map PyData.int)
  | [] => .nil
  | x :: xs => .cons (.int x) (dp_ints xs)
theorem lay_ints : ∀ xs : List Int, PyData.canLayAll0 (xs.map PyData.int) = true ∧ PyData.depthAll (xs.map PyData.int) = 0
  | [] => ⟨rfl, rfl⟩
  | x :: xs => by
    have ih := lay_ints xs
    rw [List.map_cons]
    unfold PyData.canLayAll0 PyData.depthAll
    rw [ih.1, ih.2]
    exact ⟨rfl, rfl⟩
theorem shaped_ints (xs : List Int) : SeqAt.shaped (.list (xs.map PyData.int)) = true := by
  unfold SeqAt.shaped PyData.canLay0 PyData.depth
  rw [(lay_ints xs).1, (lay_ints xs).2]
  rfl
theorem eqv_nil (xs : List Int) : PyData.eqv (.list (xs.map PyData.int)) (.list []) = xs.isEmpty := by
  cases xs with
  | nil => unfold PyData.eqv PyData.eqvAll; rfl
  | cons x xs => unfold PyData.eqv PyData.eqvAll; rfl
theorem pow_bound {m c : Int} (h1 : 0 ≤ m) (h2 : m < 2147483647) (h3 : 0 ≤ c) (h4 : c < 8388608) : (m + 104729 * c + 17).natAbs < 2 ^ 64 := by
  have : (2 : Nat) ^ 64 = 18446744073709551616 := by decide
  omega
theorem pow_bound2 {m c : Int} (h1 : 0 ≤ m) (h2 : m < 2147483629) (h3 : 0 ≤ c) (h4 : c < 8388608) : (m * 48271 + 40503 * c * c + 13).natAbs < 2 ^ 64 := by
  have e : (2 : Nat) ^ 64 = 18446744073709551616 := by decide
  have h5 : 0 ≤ c * c := Int.mul_nonneg h3 h3
  have h6 : c * c ≤ 8388608 * 8388608 := Int.mul_le_mul (Int.le_of_lt h4) (Int.le_of_lt h4) h3 (by decide)
  rw [Int.mul_assoc]
  generalize c * c = q at h5 h6 ⊢
  omega
theorem small64 {i : Int} (h1 : 0 ≤ i) (h2 : i < 18446744073709551616) : -(2 ^ 64) < i ∧ i < 2 ^ 64 := by
  have e : (2 : Int) ^ 64 = 18446744073709551616 := by decide
  omega
section
variable {P : Program} {w : World} {K : PySem.W.Frag} {base : Heap} {mg : Str → Option Value}
theorem sc_draw : FnScope ["_law_stream", "_law_many", "_law_digit", "_law_mixed", "_law_last"] ["_law_stream", "_law_many"] (defScope s_draw) := ⟨rfl, rfl, rfl, by decide +kernel, rfl, by decide +kernel, by decide +kernel⟩
theorem ok_draw {f : Addr} {fd : FuncData} (F : Fun K "_law_draw" "_law_draw" s_draw f fd) (mI : mg "int" = none) : FnOk P w K mg base (L2.CX P w) 1 f fd ["_law_stream", "_law_many"] (spD K mg 2 (ar2 drawD)) := by
  refine F.okX sc_draw (fun vs H Q E h => spD_len h) (fun cdv A outer s H vs Q E hr h => ?_)
  obtain ⟨G, S, ds, hl, r, wf, h⟩ := h
  obtain ⟨d1, d2, rfl⟩ : ∃ d1 d2, ds = [d1, d2] := match ds, hl with | [a, b], _ => ⟨a, b, rfl⟩
  have h : okF K mg G H Q E (drawD d1 d2 S) := h
  cases r with
  | cons r1 r =>
  cases r with
  | cons r2 r =>
  cases r
  unfold drawD at h
  cases r1 with
  | strm =>
    cases r2 with
    | int n =>
      simp only at h
      by_cases hg : (decide (0 < n) && decide (n < 1073741824) && S.st.good) = true
      case neg => rw [if_neg hg] at h; exact h.elim
      rw [if_pos hg] at h
      simp only [Strm.good, Bool.and_eq_true, decide_eq_true_eq] at hg
      obtain ⟨⟨hn0, hn1⟩, ⟨⟨⟨⟨hm0, hm1⟩, hc0⟩, hc1⟩, hu0⟩⟩ := hg
      have hsab := wf.sab
      -- the stream as it stands at any turn
      let At : List Int → Int → Int → Int → Hp → Prop := fun xs cur cnt mix H' => H' G.sa = some (.lst [.ref G.sb, .int cur, .int cnt, .int mix]) ∧ H' G.sb = some (.lst (xs.map V.int)) ∧ ∀ b o, H b = some o → b ≠ G.sa → b ≠ G.sb → H' b = some o
      have at0 : At S.st.xs S.st.cur S.st.cnt S.st.mix H := ⟨wf.ha, wf.hb, fun b o e _ _ => e⟩
      have atA : ∀ {xs cur cnt mix H'} {p : Addr} {o : HO}, At xs cur cnt mix H' → H' p = none → At xs cur cnt mix (upd H' p o) := fun {xs cur cnt mix H' p o} h hp =>
        ⟨by rw [upd_ne (ne_of_none h.1 hp)]; exact h.1, by rw [upd_ne (ne_of_none h.2.1 hp)]; exact h.2.1, fun b u e h1 h2 => by rw [upd_ne (ne_of_none (h.2.2 b u e h1 h2) hp)]; exact h.2.2 b u e h1 h2⟩
      have atS : ∀ {xs cur cnt mix H'} {cur' cnt' mix' : Int}, At xs cur cnt mix H' → At xs cur' cnt' mix' (upd H' G.sa (.lst [.ref G.sb, .int cur', .int cnt', .int mix'])) := fun {xs cur cnt mix H' cur' cnt' mix'} h =>
        ⟨upd_same, by rw [upd_ne (Ne.symm hsab)]; exact h.2.1, fun b u e h1 h2 => by rw [upd_ne h1]; exact h.2.2 b u e h1 h2⟩
      have atX : ∀ {xs cur cnt mix H'} {xs' : List Int}, At xs cur cnt mix H' → At xs' cur cnt mix (upd H' G.sb (.lst (xs'.map V.int))) := fun {xs cur cnt mix H' xs'} h =>
        ⟨by rw [upd_ne hsab]; exact h.1, upd_same, fun b u e h1 h2 => by rw [upd_ne h2]; exact h.2.2 b u e h1 h2⟩
      -- the end
      have fin : ∀ {xs cur cnt mix H'} {st' : Strm} {k : Int}, At xs cur cnt mix H' → xs.length ≤ 1000 → (⟨xs, cur, cnt, mix⟩ : Strm) = S.st.next n → k = S.st.take n → Q (.int k) H' := fun {xs cur cnt mix H' st' k} h hz e ek => by
        have fr : FR G H G H' := ⟨List.prefix_rfl, rfl, rfl, fun b o e q => by
            have ka : b ≠ G.sa ∨ Fix o := q.elim (fun z => .inl fun y => z (.inr (.inl y))) .inr
            have kb : b ≠ G.sb ∨ Fix o := q.elim (fun z => .inl fun y => z (.inr (.inr y))) .inr
            have na : b ≠ G.sa := fun y => by
              rcases ka with z | z
              · exact z y
              · rw [y, wf.ha] at e; cases e; exact z
            have nb : b ≠ G.sb := fun y => by
              rcases kb with z | z
              · exact z y
              · rw [y, wf.hb] at e; cases e; exact z
            exact h.2.2 b o e na nb, fun b q => .inl q, fun b q => .inl q, fun b q => q, fun b o e => by
            by_cases h1 : b = G.sa
            · rw [h1]; exact ⟨_, h.1⟩
            · by_cases h2 : b = G.sb
              · rw [h2]; exact ⟨_, h.2.1⟩
              · exact ⟨o, h.2.2 b o e h1 h2⟩⟩
        have wf' : Wf K mg G H' { S with st := ⟨xs, cur, cnt, mix⟩ } := ⟨wf.len, wf.nd, fun i c a h1 h2 => by
            have q := wf.cell i c a h1 h2
            have na : a ≠ G.sa := fun y => wf.na (by rw [← y]; exact List.mem_of_getElem? h2)
            have nb : a ≠ G.sb := fun y => wf.nb (by rw [← y]; exact List.mem_of_getElem? h2)
            cases c with
            | lst ds => obtain ⟨xs, e, z, t⟩ := q; exact ⟨xs, h.2.2 _ _ e na nb, z, t.mono fr⟩
            | dic kvs => obtain ⟨xs, e, z, t⟩ := q; exact ⟨xs, h.2.2 _ _ e na nb, z, t.mono fr⟩
            | ins c fs => obtain ⟨C, dx, gs, m, e, t⟩ := q; exact ⟨C, dx, gs, m, h.2.2 _ _ e na nb, t.mono fr⟩, fun b q => by
            obtain ⟨u, e⟩ := wf.live b q
            exact fr.there b u e, h.1, h.2.1, wf.sab, wf.na, wf.nb, hz⟩
        rw [ek]
        refine ‹okF K mg G H Q E (.ok (.int (S.st.take n)) { S with st := S.st.next n })› (.int _) G H' fr ?_ (.int _)
        rw [← e]
        exact wf'
      refine ⟨_, PSs.nox (pss_cons (ps_while PassesOwn.never (PW.pt (pw_and (pt_cmpR op_eq (pe_ix ix_list (pv 0) pe_int (fun _ _ => rfl)) pe_int (nomark _)) (pw_and1 (pt_cmpR (op_neD hr.units) (pe_ix ix_list (pv 0) pe_int (fun _ _ => rfl)) (pe_lst pa_nil) (nomark _)))))
          (pss_cons (ps_asg (pe_bm PySem.F.plainAttrs_list PySem.F.slot_list_pop PySem.F.type_list_pop mt_popAt (pe_ix ix_list (pv 0) pe_int (fun _ _ => rfl)) (pa_cons pe_int pa_nil)) (pg_sub (pv 0) pe_int set_list))
            (pss_one (ps_if (pt_cmpR op_lt (pe_ix ix_list (pv 0) pe_int (fun _ _ => rfl)) (pe_op op_pow pe_int pe_int) (nomark _))
              (pss_cons (ps_asg (pe_op op_mod (pe_callTy call_int1 (by rfl) mI PyProof.Rows.boot_int (pa_cons (pe_op op_add (pe_op op_add (pe_op op_mul (pe_ix ix_list (pv 0) pe_int (fun _ _ => rfl)) pe_int) (pe_ix ix_list (pv 0) pe_int (fun _ _ => rfl))) pe_int) pa_nil)) pe_int) (pg_sub (pv 0) pe_int set_list))
                (pss_one (ps_asg pe_int (pg_sub (pv 0) pe_int set_list)))) pss_nil))))
        (pss_cons (ps_if (pt_cmpR op_gt (pe_ix ix_list (pv 0) pe_int (fun _ _ => rfl)) pe_int (nomark _))
            (pss_cons (ps_set (i := 2) sc_draw.nd rfl (Or.inl rfl) (pe_op op_mod (pe_callTy call_int1 (by rfl) mI PyProof.Rows.boot_int (pa_cons (pe_ix ix_list (pv 0) pe_int (fun _ _ => rfl)) pa_nil)) (pv 1)))
              (pss_cons (ps_asg (pe_op op_fdiv (pe_ix ix_list (pv 0) pe_int (fun _ _ => rfl)) (pv 1)) (pg_sub (pv 0) pe_int set_list)) (pss_one (ps_ret (pv 2))))) pss_nil)
          (pss_cons (ps_asg (pe_op op_add (pe_ix ix_list (pv 0) pe_int (fun _ _ => rfl)) pe_int) (pg_sub (pv 0) pe_int set_list))
            (pss_cons (ps_set (i := 3) sc_draw.nd rfl (Or.inl rfl) (pe_op op_mod (pe_callTy call_int1 (by rfl) mI PyProof.Rows.boot_int (pa_cons (pe_op op_pow (pe_op op_add (pe_op op_add (pe_ix ix_list (pv 0) pe_int (fun _ _ => rfl)) (pe_op op_mul pe_int (pe_ix ix_list (pv 0) pe_int (fun _ _ => rfl)))) pe_int) pe_int) pa_nil)) pe_int))
              (pss_cons (ps_set (i := 4) sc_draw.nd rfl (Or.inl rfl) (pe_op op_mod (pe_callTy call_int1 (by rfl) mI PyProof.Rows.boot_int (pa_cons (pe_op op_pow (pe_op op_add (pe_op op_add (pe_op op_mul (pv 3) pe_int) (pe_op op_mul (pe_op op_mul pe_int (pe_ix ix_list (pv 0) pe_int (fun _ _ => rfl))) (pe_ix ix_list (pv 0) pe_int (fun _ _ => rfl)))) pe_int) pe_int) pa_nil)) pe_int))
                (pss_one (ps_ret (pe_op op_mod (pe_callTy call_int1 (by rfl) mI PyProof.Rows.boot_int (pa_cons (pv 4) pa_nil)) (pv 1))))))))), ?_⟩
      refine ⟨fun m σ' H' => ∃ (xs : List Int) (cur mix : Int), m = xs.length ∧ σ' = [some (.ref G.sa), some (.int n), none, none, none] ∧ At xs cur S.st.cnt mix H' ∧ xs.length ≤ 1000 ∧ fill xs cur mix = fill S.st.xs S.st.cur S.st.mix ∧ 0 ≤ mix ∧ mix < 2147483647 ∧ 0 ≤ cur,
        ⟨_, S.st.xs, S.st.cur, S.st.mix, rfl, rfl, at0, wf.zs, rfl, hm0, hm1, hu0⟩, ?_⟩
      rintro _ _ H' ⟨xs, cur, mix, rfl, rfl, at', hz, hf, hx0, hx1, hcu⟩
      refine ⟨_, rfl, G.sa, _, 1, _, rfl, rfl, SqL.of at'.1, ix1, rfl, _, rfl, ?_⟩
      refine ite2 (fun hcur => ?_) (fun hcur => ?_)
      · have hcur : cur = 0 := by
          have q := of_decide_eq_true hcur
          cases q; rfl
        refine ⟨_, rfl, G.sa, _, 0, _, rfl, rfl, SqL.of at'.1, ix0, Nat.zero_le _, fun p hp => ?_⟩
        have at1 : At xs cur S.st.cnt mix (upd H' p (.lst [])) := atA at' hp
        refine ⟨.list (xs.map PyData.int), .list [], .lst (SqL.of at1.2.1) (dp_ints xs), .lst (SqL.of upd_same) .nil, shaped_ints xs, rfl, _, rfl, ?_⟩
        rw [eqv_nil]
        cases xs with
        | nil =>
          refine iteF ?_
          have hf2 : fill S.st.xs S.st.cur S.st.mix = (([] : List Int), cur, mix) := by rw [← hf]; rfl
          have efull : S.st.full = ⟨([] : List Int), cur, S.st.cnt, mix⟩ := by unfold Strm.full; rw [hf2]
          refine ⟨_, rfl, G.sa, _, 1, _, rfl, rfl, SqL.of at1.1, ix1, _, _, rfl, rfl, _, rfl, ?_⟩
          refine ite2 (fun hpos => ?_) (fun hpos => ?_)
          · have hpos : 0 < cur := of_decide_eq_true hpos
            refine ⟨_, rfl, G.sa, _, 1, _, rfl, rfl, SqL.of at1.1, ix1, .inl ⟨_, rfl, _, rfl, _, _, rfl, rfl, hn0, ?_⟩⟩
            refine ⟨_, rfl, G.sa, _, 1, _, rfl, rfl, SqL.of at1.1, ix1, _, rfl, _, _, rfl, rfl, ⟨hn0, hn1⟩, _, rfl, G.sa, _, 1, 1, rfl, rfl, at1.1, rfl, ?_⟩
            refine ⟨_, rfl, fin (st' := S.st) (atS (cur' := cur / n) (cnt' := S.st.cnt) (mix' := mix) at1) (Nat.zero_le _) ?_ ?_⟩
            · unfold Strm.next; rw [efull]; simp only [hpos, if_true]
            · unfold Strm.take; rw [efull]; simp only [hpos, if_true]
          · have hpos : ¬ 0 < cur := fun z => hpos (decide_eq_true z)
            refine ⟨_, rfl, G.sa, _, 2, _, rfl, rfl, SqL.of at1.1, ix2, _, _, rfl, rfl, _, rfl, G.sa, _, 2, 2, rfl, rfl, at1.1, rfl, ?_⟩
            have a2 := atS (cur' := cur) (cnt' := S.st.cnt + 1) (mix' := mix) at1
            have hc0' : 0 ≤ S.st.cnt + 1 := by omega
            have hc1' : S.st.cnt + 1 < 8388608 := by omega
            have hq0 : 0 ≤ ((mix + 104729 * (S.st.cnt + 1) + 17) ^ 5) % 2147483629 := Int.emod_nonneg _ (by decide)
            have hq1 : ((mix + 104729 * (S.st.cnt + 1) + 17) ^ 5) % 2147483629 < 2147483629 := Int.emod_lt_of_pos _ (by decide)
            refine ⟨_, rfl, G.sa, _, 3, _, rfl, rfl, SqL.of a2.1, ix3, _, rfl, G.sa, _, 2, _, rfl, rfl, SqL.of a2.1, ix2, _, _, rfl, rfl, .inl ⟨by decide, by decide⟩, _, _, rfl, rfl, _, _, rfl, rfl, _, _, rfl, rfl, ⟨by decide, by decide, pow_bound hx0 hx1 hc0' hc1'⟩, .inl ⟨_, rfl, _, _, rfl, rfl, (by show (0 : Int) < _; decide), ?_⟩⟩
            refine ⟨_, rfl, _, _, rfl, rfl, .inr ⟨by decide, by decide⟩, _, rfl, G.sa, _, 2, _, rfl, rfl, SqL.of a2.1, ix2, _, _, rfl, rfl, .inl ⟨by decide, by decide⟩, _, rfl, G.sa, _, 2, _, rfl, rfl, SqL.of a2.1, ix2, _, _, rfl, rfl, .inr (small64 hc0' (by omega)), _, _, rfl, rfl, _, _, rfl, rfl, _, _, rfl, rfl, ⟨by decide, by decide, pow_bound2 hq0 hq1 hc0' hc1'⟩, .inl ⟨_, rfl, _, _, rfl, rfl, (by show (0 : Int) < _; decide), ?_⟩⟩
            refine ⟨_, rfl, .inl ⟨_, rfl, _, rfl, _, _, rfl, rfl, hn0, fin (st' := S.st) a2 (Nat.zero_le _) ?_ ?_⟩⟩
            · unfold Strm.next; rw [efull]; simp only [hpos, if_false]
            · unfold Strm.take; rw [efull]; simp only [hpos, if_false]; rfl
        | cons x xs =>
          refine iteT ⟨fun σ' H' => ∃ (ys : List Int) (cur mix : Int), xs.length = ys.length ∧ σ' = [some (.ref G.sa), some (.int n), none, none, none] ∧ At ys cur S.st.cnt mix H' ∧ ys.length ≤ 1000 ∧ fill ys cur mix = fill S.st.xs S.st.cur S.st.mix ∧ 0 ≤ mix ∧ mix < 2147483647 ∧ 0 ≤ cur, fun σ' H' hN => ⟨xs.length, Nat.lt_succ_self _, hN⟩, ?_⟩
          have hz' : xs.length ≤ 1000 := by simp at hz; omega
          refine ⟨_, rfl, G.sa, _, 0, _, rfl, rfl, SqL.of at1.1, ix0, .inl ⟨rfl, _, SqL.of at1.2.1⟩, G.sb, _, 0, 0, .int x, rfl, rfl, at1.2.1, by decide, by decide, (by rw [List.length_map, List.length_cons]; exact seq0), rfl, ?_⟩
          have at2 := atX (xs' := xs) at1
          refine ⟨_, rfl, G.sa, _, 1, 1, rfl, rfl, at2.1, rfl, ?_⟩
          have at3 := atS (cur' := x) (cnt' := S.st.cnt) (mix' := mix) at2
          refine ⟨_, rfl, G.sa, _, 1, _, rfl, rfl, SqL.of at3.1, ix1, _, _, rfl, rfl, ⟨by decide, by decide, by decide⟩, _, _, rfl, rfl, _, rfl, ?_⟩
          have hf' : fill (x :: xs) cur mix = (if x < 10 ^ 18 then fill xs 0 ((mix * 31 + x + 7) % 2147483647) else (xs, x, mix)) := by
            rw [fill.eq_2, if_pos hcur]
          refine ite2 (fun hx => ?_) (fun hx => ?_)
          · have hx : x < 10 ^ 18 := of_decide_eq_true hx
            refine ⟨_, rfl, G.sa, _, 3, _, rfl, rfl, SqL.of at3.1, ix3, _, _, rfl, rfl, .inr ⟨by decide, by decide⟩, _, rfl, G.sa, _, 1, _, rfl, rfl, SqL.of at3.1, ix1, _, _, rfl, rfl, _, _, rfl, rfl, .inl ⟨_, rfl, _, _, rfl, rfl, (by show (0 : Int) < _; decide), _, rfl, G.sa, _, 3, 3, rfl, rfl, at3.1, rfl, ?_⟩⟩
            have at4 := atS (cur' := x) (cnt' := S.st.cnt) (mix' := (mix * 31 + x + 7) % 2147483647) at3
            refine ⟨_, rfl, G.sa, _, 1, 1, rfl, rfl, at4.1, rfl, ?_⟩
            have at5 := atS (cur' := 0) (cnt' := S.st.cnt) (mix' := (mix * 31 + x + 7) % 2147483647) at4
            refine ⟨xs, 0, _, rfl, rfl, at5, hz', ?_, Int.emod_nonneg _ (by decide), Int.emod_lt_of_pos _ (by decide), Int.le_refl _⟩
            rw [← hf, hf', if_pos hx]
          · have hx : ¬ x < 10 ^ 18 := fun z => hx (decide_eq_true z)
            refine ⟨xs, x, mix, rfl, rfl, at3, hz', ?_, hx0, hx1, ?_⟩
            · rw [← hf, hf', if_neg hx]
              have hx1 : x ≠ 0 := fun z => hx (by rw [z]; decide)
              cases xs with
              | nil => rfl
              | cons y ys => rw [fill.eq_2, if_neg hx1]
            · have : (10 : Int) ^ 18 ≤ x := Int.not_lt.mp hx
              exact Int.le_trans (by decide) this
      · have hcur : cur ≠ 0 := fun z => hcur (by rw [z]; rfl)
        show (if false = true then _ else _)
        refine iteF ?_
        have hf2 : fill S.st.xs S.st.cur S.st.mix = (xs, cur, mix) := by
                  rw [← hf]
                  cases xs with
                  | nil => rfl
                  | cons y ys => rw [fill.eq_2, if_neg hcur]
        have efull : S.st.full = ⟨xs, cur, S.st.cnt, mix⟩ := by unfold Strm.full; rw [hf2]
        refine ⟨_, rfl, G.sa, _, 1, _, rfl, rfl, SqL.of at'.1, ix1, _, _, rfl, rfl, _, rfl, ?_⟩
        refine ite2 (fun hpos => ?_) (fun hpos => ?_)
        · have hpos : 0 < cur := of_decide_eq_true hpos
          refine ⟨_, rfl, G.sa, _, 1, _, rfl, rfl, SqL.of at'.1, ix1, .inl ⟨_, rfl, _, rfl, _, _, rfl, rfl, hn0, ?_⟩⟩
          refine ⟨_, rfl, G.sa, _, 1, _, rfl, rfl, SqL.of at'.1, ix1, _, rfl, _, _, rfl, rfl, ⟨hn0, hn1⟩, _, rfl, G.sa, _, 1, 1, rfl, rfl, at'.1, rfl, ?_⟩
          refine ⟨_, rfl, fin (st' := S.st) (atS (cur' := cur / n) (cnt' := S.st.cnt) (mix' := mix) at') hz ?_ ?_⟩
          · unfold Strm.next; rw [efull]; simp only [hpos, if_true]
          · unfold Strm.take; rw [efull]; simp only [hpos, if_true]
        · have hpos : ¬ 0 < cur := fun z => hpos (decide_eq_true z)
          refine ⟨_, rfl, G.sa, _, 2, _, rfl, rfl, SqL.of at'.1, ix2, _, _, rfl, rfl, _, rfl, G.sa, _, 2, 2, rfl, rfl, at'.1, rfl, ?_⟩
          have a2 := atS (cur' := cur) (cnt' := S.st.cnt + 1) (mix' := mix) at'
          have hc0' : 0 ≤ S.st.cnt + 1 := by omega
          have hc1' : S.st.cnt + 1 < 8388608 := by omega
          have hq0 : 0 ≤ ((mix + 104729 * (S.st.cnt + 1) + 17) ^ 5) % 2147483629 := Int.emod_nonneg _ (by decide)
          have hq1 : ((mix + 104729 * (S.st.cnt + 1) + 17) ^ 5) % 2147483629 < 2147483629 := Int.emod_lt_of_pos _ (by decide)
          refine ⟨_, rfl, G.sa, _, 3, _, rfl, rfl, SqL.of a2.1, ix3, _, rfl, G.sa, _, 2, _, rfl, rfl, SqL.of a2.1, ix2, _, _, rfl, rfl, .inl ⟨by decide, by decide⟩, _, _, rfl, rfl, _, _, rfl, rfl, _, _, rfl, rfl, ⟨by decide, by decide, pow_bound hx0 hx1 hc0' hc1'⟩, .inl ⟨_, rfl, _, _, rfl, rfl, (by show (0 : Int) < _; decide), ?_⟩⟩
          refine ⟨_, rfl, _, _, rfl, rfl, .inr ⟨by decide, by decide⟩, _, rfl, G.sa, _, 2, _, rfl, rfl, SqL.of a2.1, ix2, _, _, rfl, rfl, .inl ⟨by decide, by decide⟩, _, rfl, G.sa, _, 2, _, rfl, rfl, SqL.of a2.1, ix2, _, _, rfl, rfl, .inr (small64 hc0' (by omega)), _, _, rfl, rfl, _, _, rfl, rfl, _, _, rfl, rfl, ⟨by decide, by decide, pow_bound2 hq0 hq1 hc0' hc1'⟩, .inl ⟨_, rfl, _, _, rfl, rfl, (by show (0 : Int) < _; decide), ?_⟩⟩
          refine ⟨_, rfl, .inl ⟨_, rfl, _, rfl, _, _, rfl, rfl, hn0, fin (st' := S.st) a2 hz ?_ ?_⟩⟩
          · unfold Strm.next; rw [efull]; simp only [hpos, if_false]
          · unfold Strm.take; rw [efull]; simp only [hpos, if_false]; rfl
    | _ => exact h.elim
  | _ => cases r2 <;> exact h.elim
end
end Lw

namespace Lw
open PySem L2 Dl
abbrev s_exc_BadAddress : Stmt := inClass (top 3) 0
theorem sc_exc_BadAddress : FnScope ["self", "octet"] ["self", "octet"] (defScope s_exc_BadAddress) := ⟨rfl, rfl, rfl, by decide +kernel, rfl, by decide +kernel, by decide +kernel⟩
abbrev s_exc_BadOctet : Stmt := inClass (top 2) 0
theorem sc_exc_BadOctet : FnScope ["self", "value"] ["self", "value"] (defScope s_exc_BadOctet) := ⟨rfl, rfl, rfl, by decide +kernel, rfl, by decide +kernel, by decide +kernel⟩
set_option maxHeartbeats 4000000 in
theorem all_mk {P : Program} {w : World} {K : PySem.W.Frag} {h : Heap} {mg : Str → Option Value} {fa C_BadAddress fI_BadAddress C_BadOctet fI_BadOctet C_Memory f_draw_ f_pick_ f_some_octets_ f_is_integer_ f_checked_octet_ f_octets_of_ f_Memory_init_ f_place_ f_same_ f_Memory_check_run_ f_Memory_move_ f_moved_ f_Memory_octets_ f_law_ : Addr} (X : K.In h) (G : h.Ns mainGlobals mg) (hfa : mg "law" = some (.ref fa))
    {nm_BadAddress qn_BadAddress : Str} {N_BadAddress : Addr} {bs_BadAddress bm_BadAddress sub_BadAddress : List Value} {sn_BadAddress : List Str} {ab_BadAddress : Bool} {col_BadAddress : Option Bool} {dd_BadAddress : Option Addr} {m0_BadAddress m1_BadAddress m2_BadAddress m3_BadAddress m5_BadAddress : Option Value}
    {ocI_BadAddress kVI_BadAddress dcI_BadAddress pmI_BadAddress cdI_BadAddress ctI_BadAddress : Value} {odI_BadAddress anI_BadAddress : Option Addr} {slI_BadAddress : Array (Option Value)}
    {nm_BadOctet qn_BadOctet : Str} {N_BadOctet : Addr} {bs_BadOctet bm_BadOctet sub_BadOctet : List Value} {sn_BadOctet : List Str} {ab_BadOctet : Bool} {col_BadOctet : Option Bool} {dd_BadOctet : Option Addr} {m0_BadOctet m1_BadOctet m2_BadOctet m3_BadOctet m5_BadOctet : Option Value}
    {ocI_BadOctet kVI_BadOctet dcI_BadOctet pmI_BadOctet cdI_BadOctet ctI_BadOctet : Value} {odI_BadOctet anI_BadOctet : Option Addr} {slI_BadOctet : Array (Option Value)}
    {oc_draw kV_draw dc_draw pm_draw cd_draw ct_draw : Value} {od_draw an_draw : Option Addr} {sl_draw : Array (Option Value)}
    {oc_pick kV_pick dc_pick pm_pick cd_pick ct_pick : Value} {od_pick an_pick : Option Addr} {sl_pick : Array (Option Value)}
    {oc_some_octets kV_some_octets dc_some_octets pm_some_octets cd_some_octets ct_some_octets : Value} {od_some_octets an_some_octets : Option Addr} {sl_some_octets : Array (Option Value)}
    {oc_is_integer kV_is_integer dc_is_integer pm_is_integer cd_is_integer ct_is_integer : Value} {od_is_integer an_is_integer : Option Addr} {sl_is_integer : Array (Option Value)}
    {oc_checked_octet kV_checked_octet dc_checked_octet pm_checked_octet cd_checked_octet ct_checked_octet : Value} {od_checked_octet an_checked_octet : Option Addr} {sl_checked_octet : Array (Option Value)}
    {oc_octets_of kV_octets_of dc_octets_of pm_octets_of cd_octets_of ct_octets_of : Value} {od_octets_of an_octets_of : Option Addr} {sl_octets_of : Array (Option Value)}
    {oc_Memory_init kV_Memory_init dc_Memory_init pm_Memory_init cd_Memory_init ct_Memory_init : Value} {od_Memory_init an_Memory_init : Option Addr} {sl_Memory_init : Array (Option Value)}
    {oc_place kV_place dc_place pm_place cd_place ct_place : Value} {od_place an_place : Option Addr} {sl_place : Array (Option Value)}
    {oc_same kV_same dc_same pm_same cd_same ct_same : Value} {od_same an_same : Option Addr} {sl_same : Array (Option Value)}
    {oc_Memory_check_run kV_Memory_check_run dc_Memory_check_run pm_Memory_check_run cd_Memory_check_run ct_Memory_check_run : Value} {od_Memory_check_run an_Memory_check_run : Option Addr} {sl_Memory_check_run : Array (Option Value)}
    {oc_Memory_move kV_Memory_move dc_Memory_move pm_Memory_move cd_Memory_move ct_Memory_move : Value} {od_Memory_move an_Memory_move : Option Addr} {sl_Memory_move : Array (Option Value)}
    {oc_moved kV_moved dc_moved pm_moved cd_moved ct_moved : Value} {od_moved an_moved : Option Addr} {sl_moved : Array (Option Value)}
    {oc_Memory_octets kV_Memory_octets dc_Memory_octets pm_Memory_octets cd_Memory_octets ct_Memory_octets : Value} {od_Memory_octets an_Memory_octets : Option Addr} {sl_Memory_octets : Array (Option Value)}
    {oc_law kV_law dc_law pm_law cd_law ct_law : Value} {od_law an_law : Option Addr} {sl_law : Array (Option Value)}
    (aC_BadAddress : PySem.W.nsIn K mainGlobals "BadAddress" = some (some (.ref C_BadAddress)))
    (xL_BadAddress : K.lookup C_BadAddress = some (excClassObj nm_BadAddress qn_BadAddress C_BadAddress N_BadAddress bs_BadAddress bm_BadAddress true sn_BadAddress sub_BadAddress ab_BadAddress col_BadAddress dd_BadAddress m0_BadAddress m1_BadAddress m2_BadAddress m3_BadAddress m5_BadAddress "ValueError.__new__"))
    (xb_BadAddress : PySem.HandSPX.refsVE bm_BadAddress = true)
    (sa_BadAddress : PySem.W.findIn K (.ref C_BadAddress) "__setattr__" = some (some (.builtin "object.__setattr__")))
    (eC_BadAddress : PySem.W.subIn K (.ref C_BadAddress) (.type "BaseException") = some true)
    (tC_BadAddress : PySem.W.typeIn K (.ref C_BadAddress) = some (.type "type"))
    (kC_BadAddress : PySem.W.keepIn K (.ref C_BadAddress) = true)
    (nf_BadAddress : PySem.W.findIn K (.ref C_BadAddress) "octet" = some none)
    (iI_BadAddress : PySem.W.findIn K (.ref C_BadAddress) "__init__" = some (some (.ref fI_BadAddress)))
    (tI_BadAddress : PySem.W.typeIn K (.ref fI_BadAddress) = some (.type "function"))
    (lI_BadAddress : K.lookup fI_BadAddress = some ⟨ocI_BadAddress, odI_BadAddress, .func (PySem.W.fnOf "__init__" "BadAddress.__init__" (defArgs s_exc_BadAddress) (defBody s_exc_BadAddress) (defScope s_exc_BadAddress) .none kVI_BadAddress dcI_BadAddress pmI_BadAddress anI_BadAddress cdI_BadAddress ctI_BadAddress), slI_BadAddress⟩)
    (cI_BadAddress : PySem.W.codeIn K cdI_BadAddress "BadAddress.__init__" = true)
    (kI_BadAddress : PySem.W.keepIn K (.ref fI_BadAddress) = true)
    (aC_BadOctet : PySem.W.nsIn K mainGlobals "BadOctet" = some (some (.ref C_BadOctet)))
    (xL_BadOctet : K.lookup C_BadOctet = some (excClassObj nm_BadOctet qn_BadOctet C_BadOctet N_BadOctet bs_BadOctet bm_BadOctet true sn_BadOctet sub_BadOctet ab_BadOctet col_BadOctet dd_BadOctet m0_BadOctet m1_BadOctet m2_BadOctet m3_BadOctet m5_BadOctet "ValueError.__new__"))
    (xb_BadOctet : PySem.HandSPX.refsVE bm_BadOctet = true)
    (sa_BadOctet : PySem.W.findIn K (.ref C_BadOctet) "__setattr__" = some (some (.builtin "object.__setattr__")))
    (eC_BadOctet : PySem.W.subIn K (.ref C_BadOctet) (.type "BaseException") = some true)
    (tC_BadOctet : PySem.W.typeIn K (.ref C_BadOctet) = some (.type "type"))
    (kC_BadOctet : PySem.W.keepIn K (.ref C_BadOctet) = true)
    (nf_BadOctet : PySem.W.findIn K (.ref C_BadOctet) "value" = some none)
    (iI_BadOctet : PySem.W.findIn K (.ref C_BadOctet) "__init__" = some (some (.ref fI_BadOctet)))
    (tI_BadOctet : PySem.W.typeIn K (.ref fI_BadOctet) = some (.type "function"))
    (lI_BadOctet : K.lookup fI_BadOctet = some ⟨ocI_BadOctet, odI_BadOctet, .func (PySem.W.fnOf "__init__" "BadOctet.__init__" (defArgs s_exc_BadOctet) (defBody s_exc_BadOctet) (defScope s_exc_BadOctet) .none kVI_BadOctet dcI_BadOctet pmI_BadOctet anI_BadOctet cdI_BadOctet ctI_BadOctet), slI_BadOctet⟩)
    (cI_BadOctet : PySem.W.codeIn K cdI_BadOctet "BadOctet.__init__" = true)
    (kI_BadOctet : PySem.W.keepIn K (.ref fI_BadOctet) = true)
    (ga_BadAddress : PySem.W.findIn K (.ref C_BadAddress) "__getattribute__" = some (some (.builtin "BaseException.__getattribute__")))
    (gg_BadAddress : PySem.W.findIn K (.ref C_BadAddress) "__getattr__" = some none)
    (hd_BadAddress : PySem.W.hasDictIn K C_BadAddress = true)
    (ex_BadAddress : PySem.W.subIn K (.ref C_BadAddress) (.ref C_BadAddress) = some true)
    (aC_Memory : PySem.W.nsIn K mainGlobals "Memory" = some (some (.ref C_Memory)))
    (pg_Memory : PySem.W.plainGet K C_Memory Str.empty = true)
    (hd_Memory : PySem.W.hasDictIn K C_Memory = true)
    (po_Memory : PySem.W.plainOver K C_Memory = true)
    (sa_Memory : PySem.W.findIn K (.ref C_Memory) "__setattr__" = some (some (.builtin "object.__setattr__")))
    (nna_Memory_octet_rows : PySem.W.findIn K (.ref C_Memory) "octet_rows" = some none)
    (z_all : PySem.W.nsIn K mainGlobals "all" = some none)
    (z_bool : PySem.W.nsIn K mainGlobals "bool" = some none)
    (z_dict : PySem.W.nsIn K mainGlobals "dict" = some none)
    (z_enumerate : PySem.W.nsIn K mainGlobals "enumerate" = some none)
    (z_int : PySem.W.nsIn K mainGlobals "int" = some none)
    (z_isinstance : PySem.W.nsIn K mainGlobals "isinstance" = some none)
    (z_len : PySem.W.nsIn K mainGlobals "len" = some none)
    (z_list : PySem.W.nsIn K mainGlobals "list" = some none)
    (z_max : PySem.W.nsIn K mainGlobals "max" = some none)
    (z_min : PySem.W.nsIn K mainGlobals "min" = some none)
    (z_range : PySem.W.nsIn K mainGlobals "range" = some none)
    (z_tuple : PySem.W.nsIn K mainGlobals "tuple" = some none)
    (z_zip : PySem.W.nsIn K mainGlobals "zip" = some none)
    (a_draw : PySem.W.nsIn K mainGlobals "_law_draw" = some (some (.ref f_draw_)))
    (l_draw : K.lookup f_draw_ = some ⟨oc_draw, od_draw, .func (PySem.W.fnOf "_law_draw" "_law_draw" (defArgs s_draw) (defBody s_draw) (defScope s_draw) .none kV_draw dc_draw pm_draw an_draw cd_draw ct_draw), sl_draw⟩)
    (c_draw : PySem.W.codeIn K cd_draw "_law_draw" = true)
    (k_draw : PySem.W.keepIn K (.ref f_draw_) = true)
    (a_pick : PySem.W.nsIn K mainGlobals "_law_pick" = some (some (.ref f_pick_)))
    (l_pick : K.lookup f_pick_ = some ⟨oc_pick, od_pick, .func (PySem.W.fnOf "_law_pick" "_law_pick" (defArgs s_pick) (defBody s_pick) (defScope s_pick) .none kV_pick dc_pick pm_pick an_pick cd_pick ct_pick), sl_pick⟩)
    (c_pick : PySem.W.codeIn K cd_pick "_law_pick" = true)
    (k_pick : PySem.W.keepIn K (.ref f_pick_) = true)
    (a_some_octets : PySem.W.nsIn K mainGlobals "_law_some_octets" = some (some (.ref f_some_octets_)))
    (l_some_octets : K.lookup f_some_octets_ = some ⟨oc_some_octets, od_some_octets, .func (PySem.W.fnOf "_law_some_octets" "_law_some_octets" (defArgs s_some_octets) (defBody s_some_octets) (defScope s_some_octets) .none kV_some_octets dc_some_octets pm_some_octets an_some_octets cd_some_octets ct_some_octets), sl_some_octets⟩)
    (c_some_octets : PySem.W.codeIn K cd_some_octets "_law_some_octets" = true)
    (k_some_octets : PySem.W.keepIn K (.ref f_some_octets_) = true)
    (a_is_integer : PySem.W.nsIn K mainGlobals "is_integer" = some (some (.ref f_is_integer_)))
    (l_is_integer : K.lookup f_is_integer_ = some ⟨oc_is_integer, od_is_integer, .func (PySem.W.fnOf "is_integer" "is_integer" (defArgs s_is_integer) (defBody s_is_integer) (defScope s_is_integer) .none kV_is_integer dc_is_integer pm_is_integer an_is_integer cd_is_integer ct_is_integer), sl_is_integer⟩)
    (c_is_integer : PySem.W.codeIn K cd_is_integer "is_integer" = true)
    (k_is_integer : PySem.W.keepIn K (.ref f_is_integer_) = true)
    (a_checked_octet : PySem.W.nsIn K mainGlobals "checked_octet" = some (some (.ref f_checked_octet_)))
    (l_checked_octet : K.lookup f_checked_octet_ = some ⟨oc_checked_octet, od_checked_octet, .func (PySem.W.fnOf "checked_octet" "checked_octet" (defArgs s_checked_octet) (defBody s_checked_octet) (defScope s_checked_octet) .none kV_checked_octet dc_checked_octet pm_checked_octet an_checked_octet cd_checked_octet ct_checked_octet), sl_checked_octet⟩)
    (c_checked_octet : PySem.W.codeIn K cd_checked_octet "checked_octet" = true)
    (k_checked_octet : PySem.W.keepIn K (.ref f_checked_octet_) = true)
    (a_octets_of : PySem.W.nsIn K mainGlobals "octets_of" = some (some (.ref f_octets_of_)))
    (l_octets_of : K.lookup f_octets_of_ = some ⟨oc_octets_of, od_octets_of, .func (PySem.W.fnOf "octets_of" "octets_of" (defArgs s_octets_of) (defBody s_octets_of) (defScope s_octets_of) .none kV_octets_of dc_octets_of pm_octets_of an_octets_of cd_octets_of ct_octets_of), sl_octets_of⟩)
    (c_octets_of : PySem.W.codeIn K cd_octets_of "octets_of" = true)
    (k_octets_of : PySem.W.keepIn K (.ref f_octets_of_) = true)
    (a_Memory_init : PySem.W.findIn K (.ref C_Memory) "__init__" = some (some (.ref f_Memory_init_)))
    (i_Memory_init : PySem.W.isFn K (.ref f_Memory_init_) = true)
    (mk_Memory : PySem.W.makesIn K C_Memory = true)
    (kc_Memory : PySem.W.keepIn K (.ref C_Memory) = true)
    (l_Memory_init : K.lookup f_Memory_init_ = some ⟨oc_Memory_init, od_Memory_init, .func (PySem.W.fnOf "__init__" "Memory.__init__" (defArgs s_Memory_init) (defBody s_Memory_init) (defScope s_Memory_init) .none kV_Memory_init dc_Memory_init pm_Memory_init an_Memory_init cd_Memory_init ct_Memory_init), sl_Memory_init⟩)
    (c_Memory_init : PySem.W.codeIn K cd_Memory_init "Memory.__init__" = true)
    (k_Memory_init : PySem.W.keepIn K (.ref f_Memory_init_) = true)
    (a_place : PySem.W.nsIn K mainGlobals "_law_place" = some (some (.ref f_place_)))
    (l_place : K.lookup f_place_ = some ⟨oc_place, od_place, .func (PySem.W.fnOf "_law_place" "_law_place" (defArgs s_place) (defBody s_place) (defScope s_place) .none kV_place dc_place pm_place an_place cd_place ct_place), sl_place⟩)
    (c_place : PySem.W.codeIn K cd_place "_law_place" = true)
    (k_place : PySem.W.keepIn K (.ref f_place_) = true)
    (a_same : PySem.W.nsIn K mainGlobals "_law_same" = some (some (.ref f_same_)))
    (l_same : K.lookup f_same_ = some ⟨oc_same, od_same, .func (PySem.W.fnOf "_law_same" "_law_same" (defArgs s_same) (defBody s_same) (defScope s_same) .none kV_same dc_same pm_same an_same cd_same ct_same), sl_same⟩)
    (c_same : PySem.W.codeIn K cd_same "_law_same" = true)
    (k_same : PySem.W.keepIn K (.ref f_same_) = true)
    (a_Memory_check_run : PySem.W.findIn K (.ref C_Memory) "check_run" = some (some (.ref f_Memory_check_run_)))
    (i_Memory_check_run : PySem.W.isFn K (.ref f_Memory_check_run_) = true)
    (l_Memory_check_run : K.lookup f_Memory_check_run_ = some ⟨oc_Memory_check_run, od_Memory_check_run, .func (PySem.W.fnOf "check_run" "Memory.check_run" (defArgs s_Memory_check_run) (defBody s_Memory_check_run) (defScope s_Memory_check_run) .none kV_Memory_check_run dc_Memory_check_run pm_Memory_check_run an_Memory_check_run cd_Memory_check_run ct_Memory_check_run), sl_Memory_check_run⟩)
    (c_Memory_check_run : PySem.W.codeIn K cd_Memory_check_run "Memory.check_run" = true)
    (k_Memory_check_run : PySem.W.keepIn K (.ref f_Memory_check_run_) = true)
    (a_Memory_move : PySem.W.findIn K (.ref C_Memory) "move" = some (some (.ref f_Memory_move_)))
    (i_Memory_move : PySem.W.isFn K (.ref f_Memory_move_) = true)
    (l_Memory_move : K.lookup f_Memory_move_ = some ⟨oc_Memory_move, od_Memory_move, .func (PySem.W.fnOf "move" "Memory.move" (defArgs s_Memory_move) (defBody s_Memory_move) (defScope s_Memory_move) .none kV_Memory_move dc_Memory_move pm_Memory_move an_Memory_move cd_Memory_move ct_Memory_move), sl_Memory_move⟩)
    (c_Memory_move : PySem.W.codeIn K cd_Memory_move "Memory.move" = true)
    (k_Memory_move : PySem.W.keepIn K (.ref f_Memory_move_) = true)
    (a_moved : PySem.W.nsIn K mainGlobals "_law_moved" = some (some (.ref f_moved_)))
    (l_moved : K.lookup f_moved_ = some ⟨oc_moved, od_moved, .func (PySem.W.fnOf "_law_moved" "_law_moved" (defArgs s_moved) (defBody s_moved) (defScope s_moved) .none kV_moved dc_moved pm_moved an_moved cd_moved ct_moved), sl_moved⟩)
    (c_moved : PySem.W.codeIn K cd_moved "_law_moved" = true)
    (k_moved : PySem.W.keepIn K (.ref f_moved_) = true)
    (a_Memory_octets : PySem.W.findIn K (.ref C_Memory) "octets" = some (some (.ref f_Memory_octets_)))
    (i_Memory_octets : PySem.W.isFn K (.ref f_Memory_octets_) = true)
    (l_Memory_octets : K.lookup f_Memory_octets_ = some ⟨oc_Memory_octets, od_Memory_octets, .func (PySem.W.fnOf "octets" "Memory.octets" (defArgs s_Memory_octets) (defBody s_Memory_octets) (defScope s_Memory_octets) .none kV_Memory_octets dc_Memory_octets pm_Memory_octets an_Memory_octets cd_Memory_octets ct_Memory_octets), sl_Memory_octets⟩)
    (c_Memory_octets : PySem.W.codeIn K cd_Memory_octets "Memory.octets" = true)
    (k_Memory_octets : PySem.W.keepIn K (.ref f_Memory_octets_) = true)
    (a_law : PySem.W.nsIn K mainGlobals "law" = some (some (.ref f_law_)))
    (l_law : K.lookup f_law_ = some ⟨oc_law, od_law, .func (PySem.W.fnOf "law" "law" (defArgs s_law) (defBody s_law) (defScope s_law) .none kV_law dc_law pm_law an_law cd_law ct_law), sl_law⟩)
    (c_law : PySem.W.codeIn K cd_law "law" = true)
    (k_law : PySem.W.keepIn K (.ref f_law_) = true)
    (hlaw : ∀ ns : List Int, ns.length ≤ 63 → ∃ S', finM m_law (S0 ns) = .ok (.bl true) S') :
    ∃ fd : FuncData, (∀ (s : Shared) (v : Value), BindsTo s fd ⟨[v], []⟩ [("_law_script", v)]) ∧ ∀ base : Heap, K.In base → base.Ns mainGlobals mg → FnOk P w K mg base (L2.CX P w) 7 fa fd ["_law_script"] (spL K) := by
  have e := hfa.symm.trans (PySem.W.mg_of X G a_law)
  cases e
  refine ⟨PySem.W.fnOf "law" "law" (defArgs s_law) (defBody s_law) (defScope s_law) .none kV_law dc_law pm_law an_law cd_law ct_law, fun s v => .of_eq rfl, fun base _ _ => ?_⟩
  have ox_BadAddress : OexC K C_BadAddress := ⟨⟨_, _, _, _, _, _, _, _, _, _, _, _, _, _, _, xL_BadAddress, xb_BadAddress⟩, sa_BadAddress, eC_BadAddress, tC_BadAddress, kC_BadAddress⟩
  have F_I_BadAddress := fun_mk (st := s_exc_BadAddress) lI_BadAddress cI_BadAddress kI_BadAddress
  have b_I_BadAddress := F_I_BadAddress.binds (ps := ["self", "octet"]) fun _ _ _ _ _ _ us hl => match us, hl with | [_, _], _ => rfl
  have E_BadAddress : EI P w K mg base "BadAddress" "octet" := ⟨_, _, _, PySem.W.mg_of X G aC_BadAddress, ox_BadAddress, nf_BadAddress, iI_BadAddress, tI_BadAddress, ok_exc F_I_BadAddress sc_exc_BadAddress rfl ox_BadAddress nf_BadAddress, b_I_BadAddress⟩
  have ox_BadOctet : OexC K C_BadOctet := ⟨⟨_, _, _, _, _, _, _, _, _, _, _, _, _, _, _, xL_BadOctet, xb_BadOctet⟩, sa_BadOctet, eC_BadOctet, tC_BadOctet, kC_BadOctet⟩
  have F_I_BadOctet := fun_mk (st := s_exc_BadOctet) lI_BadOctet cI_BadOctet kI_BadOctet
  have b_I_BadOctet := F_I_BadOctet.binds (ps := ["self", "value"]) fun _ _ _ _ _ _ us hl => match us, hl with | [_, _], _ => rfl
  have E_BadOctet : EI P w K mg base "BadOctet" "value" := ⟨_, _, _, PySem.W.mg_of X G aC_BadOctet, ox_BadOctet, nf_BadOctet, iI_BadOctet, tI_BadOctet, ok_exc F_I_BadOctet sc_exc_BadOctet rfl ox_BadOctet nf_BadOctet, b_I_BadOctet⟩
  have X_BadAddress : EX K mg "BadAddress" "octet" := ⟨_, PySem.W.mg_of X G aC_BadAddress, exm_self eC_BadAddress hd_BadAddress tC_BadAddress ex_BadAddress, ⟨ga_BadAddress, gg_BadAddress, eC_BadAddress, hd_BadAddress⟩, nf_BadAddress⟩
  have ci_Memory : CI K mg "Memory" C_Memory := ⟨PySem.W.mg_of X G aC_Memory, ⟨pg_Memory, hd_Memory, po_Memory, sa_Memory⟩⟩
  have na_Memory_octet_rows : NA K mg "Memory" "octet_rows" := ⟨_, ci_Memory, nna_Memory_octet_rows⟩
  have B : Bi mg := ⟨PySem.W.mg_none_of X G z_all, PySem.W.mg_none_of X G z_bool, PySem.W.mg_none_of X G z_dict, PySem.W.mg_none_of X G z_enumerate, PySem.W.mg_none_of X G z_int, PySem.W.mg_none_of X G z_isinstance, PySem.W.mg_none_of X G z_len, PySem.W.mg_none_of X G z_list, PySem.W.mg_none_of X G z_max, PySem.W.mg_none_of X G z_min, PySem.W.mg_none_of X G z_range, PySem.W.mg_none_of X G z_tuple, PySem.W.mg_none_of X G z_zip⟩
  have F_draw := fun_mk (st := s_draw) l_draw c_draw k_draw
  have b_draw := F_draw.binds (ps := ["_law_stream", "_law_many"]) fun _ _ _ _ _ _ us hl => match us, hl with | [_, _], _ => rfl
  have I_draw : FI P w K mg base "_law_draw" ["_law_stream", "_law_many"] 1 (ar2 drawD) := ⟨_, _, PySem.W.mg_of X G a_draw, k_draw, b_draw, ok_draw F_draw B.b_int⟩
  have F_pick := fun_mk (st := s_pick) l_pick c_pick k_pick
  have b_pick := F_pick.binds (ps := ["_law_stream", "_law_some"]) fun _ _ _ _ _ _ us hl => match us, hl with | [_, _], _ => rfl
  have I_pick := ok_pick (P := P) (w := w) (base := base) F_pick (PySem.W.mg_of X G a_pick) k_pick b_pick B I_draw
  have F_some_octets := fun_mk (st := s_some_octets) l_some_octets c_some_octets k_some_octets
  have b_some_octets := F_some_octets.binds (ps := ["_law_stream", "_law_many"]) fun _ _ _ _ _ _ us hl => match us, hl with | [_, _], _ => rfl
  have I_some_octets := ok_some_octets (P := P) (w := w) (base := base) F_some_octets (PySem.W.mg_of X G a_some_octets) k_some_octets b_some_octets B I_draw I_pick
  have F_is_integer := fun_mk (st := s_is_integer) l_is_integer c_is_integer k_is_integer
  have b_is_integer := F_is_integer.binds (ps := ["thing"]) fun _ _ _ _ _ _ us hl => match us, hl with | [_], _ => rfl
  have I_is_integer := ok_is_integer (P := P) (w := w) (base := base) F_is_integer (PySem.W.mg_of X G a_is_integer) k_is_integer b_is_integer B
  have F_checked_octet := fun_mk (st := s_checked_octet) l_checked_octet c_checked_octet k_checked_octet
  have b_checked_octet := F_checked_octet.binds (ps := ["thing"]) fun _ _ _ _ _ _ us hl => match us, hl with | [_], _ => rfl
  have I_checked_octet := ok_checked_octet (P := P) (w := w) (base := base) F_checked_octet (PySem.W.mg_of X G a_checked_octet) k_checked_octet b_checked_octet I_is_integer E_BadOctet
  have F_octets_of := fun_mk (st := s_octets_of) l_octets_of c_octets_of k_octets_of
  have b_octets_of := F_octets_of.binds (ps := ["things"]) fun _ _ _ _ _ _ us hl => match us, hl with | [_], _ => rfl
  have I_octets_of := ok_octets_of (P := P) (w := w) (base := base) F_octets_of (PySem.W.mg_of X G a_octets_of) k_octets_of b_octets_of I_checked_octet
  have F_Memory_init := fun_mk (st := s_Memory_init) l_Memory_init c_Memory_init k_Memory_init
  have b_Memory_init := F_Memory_init.binds (ps := ["self", "octets"]) fun _ _ _ _ _ _ us hl => match us, hl with | [_, _], _ => rfl
  have I_Memory_init := ok_Memory_init (P := P) (w := w) (base := base) F_Memory_init ci_Memory ⟨mk_Memory, a_Memory_init, i_Memory_init, kc_Memory⟩ b_Memory_init I_octets_of I_is_integer na_Memory_octet_rows
  have F_place := fun_mk (st := s_place) l_place c_place k_place
  have b_place := F_place.binds (ps := ["_law_stream", "_law_many", "_law_size"]) fun _ _ _ _ _ _ us hl => match us, hl with | [_, _, _], _ => rfl
  have I_place := ok_place (P := P) (w := w) (base := base) F_place (PySem.W.mg_of X G a_place) k_place b_place I_draw I_pick
  have F_same := fun_mk (st := s_same) l_same c_same k_same
  have b_same := F_same.binds (ps := ["_law_found", "_law_due"]) fun _ _ _ _ _ _ us hl => match us, hl with | [_, _], _ => rfl
  have I_same := ok_same (P := P) (w := w) (base := base) F_same (PySem.W.mg_of X G a_same) k_same b_same B
  have F_Memory_check_run := fun_mk (st := s_Memory_check_run) l_Memory_check_run c_Memory_check_run k_Memory_check_run
  have b_Memory_check_run := F_Memory_check_run.binds (ps := ["self", "start", "many"]) fun _ _ _ _ _ _ us hl => match us, hl with | [_, _, _], _ => rfl
  have I_Memory_check_run := ok_Memory_check_run (P := P) (w := w) (base := base) F_Memory_check_run ci_Memory ⟨a_Memory_check_run, i_Memory_check_run, k_Memory_check_run⟩ b_Memory_check_run na_Memory_octet_rows B E_BadAddress
  have F_Memory_move := fun_mk (st := s_Memory_move) l_Memory_move c_Memory_move k_Memory_move
  have b_Memory_move := F_Memory_move.binds (ps := ["self", "to", "source", "many"]) fun _ _ _ _ _ _ us hl => match us, hl with | [_, _, _, _], _ => rfl
  have I_Memory_move := ok_Memory_move (P := P) (w := w) (base := base) F_Memory_move ci_Memory ⟨a_Memory_move, i_Memory_move, k_Memory_move⟩ b_Memory_move I_Memory_check_run na_Memory_octet_rows B
  have F_moved := fun_mk (st := s_moved) l_moved c_moved k_moved
  have b_moved := F_moved.binds (ps := ["_law_memory", "_law_to", "_law_source", "_law_many"]) fun _ _ _ _ _ _ us hl => match us, hl with | [_, _, _, _], _ => rfl
  have I_moved := ok_moved (P := P) (w := w) (base := base) F_moved (PySem.W.mg_of X G a_moved) k_moved b_moved I_Memory_move X_BadAddress
  have F_Memory_octets := fun_mk (st := s_Memory_octets) l_Memory_octets c_Memory_octets k_Memory_octets
  have b_Memory_octets := F_Memory_octets.binds (ps := ["self"]) fun _ _ _ _ _ _ us hl => match us, hl with | [_], _ => rfl
  have I_Memory_octets := ok_Memory_octets (P := P) (w := w) (base := base) F_Memory_octets ci_Memory ⟨a_Memory_octets, i_Memory_octets, k_Memory_octets⟩ b_Memory_octets na_Memory_octet_rows B
  have F_law := fun_mk (st := s_law) l_law c_law k_law
  exact ok_law F_law B I_draw I_pick I_some_octets I_Memory_init I_place I_moved I_same I_Memory_octets hlaw
theorem walk {l : PySem.W.OpenLaw} {q : Program} {loose : List Str} {XP : (Str → Option Value) → Heap → Prop} {YP : World → Heap → Prop} {d : DefRec} {K : Params → PySem.W.Frag} (hn : l.most = some 63) (hdf : d.params.defaults = [])
    (hY : ∀ (w : World) (h : Heap), YP w h → (K w.params).In h)
    (F : ∀ (w : World) (mg : Str → Option Value) (fa : Addr) (h : Heap), (K w.params).In h → h.Ns mainGlobals mg → mg d.name = some (.ref fa) →
      ∃ fd : FuncData, (∀ (s : Shared) (u : Value), BindsTo s fd ⟨[u], []⟩ [("_law_script", u)]) ∧ ∀ base : Heap, (K w.params).In base → base.Ns mainGlobals mg → FnOk l.prog w (K w.params) mg base (L2.CX l.prog w) 7 fa fd ["_law_script"] (spL (K w.params))) :
    PySem.W.WalkO q loose XP YP l.row.toRowW d [] (fun f vs => PySem.call f vs) :=
  L2.walk_of (n := 63) (k := 7) (x := "_law_script") (CX := fun w => L2.CX l.prog w) (sp := fun w => spL (K w.params)) hn (by decide) hdf ⟨rfl, by decide, by decide⟩ hY F (fun _ _ a ns hl _ hS => ⟨a, ns, rfl, hS, hl, fun _ => rfl⟩) fun _ _ _ _ _ z => by
    obtain ⟨_, _, _, _, _, _, _, _, _, _, _, _, z⟩ := z
    exact z
end Lw

namespace Lw
open PySem L2 Dl
section
variable {cs : List Cell} {s : Strm} {n : Nat} {Q : D → MS → Prop} {E : Err → MS → Prop}
theorem p_pick {ds : List D} (b : Bud s (n + 1)) (h0 : 0 < ds.length) (h1 : ds.length < 1073741824) (h : ∀ d s', d ∈ ds → Bud s' n → Q d ⟨cs, s'⟩) : Wp (f_pick .strm (.lst ds)) ⟨cs, s⟩ Q E := wp_pick b h0 h1 h
theorem p_same {d : D} {k : Nat} {S : MS} (h : Good k d) (q : Q (.bl true) S) : Wp (f_same k d d) S Q E :=
  (same_refl f_same (fun _ _ _ => M.bad) (fun _ _ _ => rfl) k d S h).to fun x S' ⟨e, e'⟩ => by subst e; subst e'; exact q
/-- a list of octets -/
def Oct (rows : List Int) : Prop := ∀ x ∈ rows, 0 ≤ x ∧ x ≤ 255
abbrev nums (rows : List Int) : List D := rows.map D.int
theorem p_octets {m : Nat} (b : Bud s (n + 2 * m)) (hm : m ≤ 1000) (h : ∀ rows s', rows.length = m → Oct rows → Bud s' n → Q (.lst (nums rows)) ⟨cs, s'⟩) : Wp (f_some_octets .strm (.int m)) ⟨cs, s⟩ Q E := by
  unfold f_some_octets
  simp only [wp_fin, wp_ret, wp_frz, wp_mapL, wp_bind, wp_pure, wp_rng1]
  refine ⟨⟨by omega, by omega⟩, szOk_of (by simp; omega), ?_⟩
  refine wp_mapC (fun ds r S => ∃ rows s', r = nums rows ∧ rows.length + ds.length = m ∧ Oct rows ∧ S = ⟨cs, s'⟩ ∧ Bud s' (n + 2 * ds.length)) ?_ _ [] _ ⟨[], s, rfl, by simp, fun x hx => (List.not_mem_nil hx).elim, rfl, by simpa using b⟩ ?_
  · intro d ds r S ⟨rows, s', e1, e2, o, e3, b'⟩
    subst e1; subst e3
    rw [List.length_cons] at e2 b'
    simp only [wp_call, wp_args1, wp_args0, wp_pure, wp_ar2, wp_frz, wp_lst]
    refine wp_draw (n := n + 2 * ds.length + 1) (b'.le (by omega)) (by decide) (by decide) fun i s1 i0 i1 b1 => ?_
    refine ⟨szOk_of (by simp), ?_⟩
    refine p_pick b1 ?_ ?_ ?_
    · show 0 < _ + 1; omega
    · show 6 < _; omega
    intro d s2 hd b2
    have key : ∃ x : Int, d = .int x ∧ 0 ≤ x ∧ x ≤ 255 := by
      simp only [List.mem_cons, List.not_mem_nil, or_false] at hd
      rcases hd with h | h | h | h | h | h <;> subst h <;> exact ⟨_, rfl, by omega, by omega⟩
    obtain ⟨x, e, x0, x1⟩ := key
    subst e
    refine ⟨rows ++ [x], s2, by simp [nums], by simp; omega, fun y hy => ?_, rfl, b2⟩
    rcases List.mem_append.mp hy with hy | hy
    · exact o y hy
    · cases List.mem_singleton.mp hy; exact ⟨x0, x1⟩
  · intro r' S' ⟨rows, s', e1, e2, o, e3, b'⟩
    rw [List.nil_append] at e1
    subst e1; subst e3
    exact h rows s' (by simpa using e2) o (b'.le (by simp))
theorem p_is {i : Int} {S : MS} (h : Q (.bl true) S) : Wp (f_is_integer (.int i)) S Q E := by
  unfold f_is_integer
  simp [Ty.sub]
  exact h
theorem p_isL {ds : List D} {S : MS} (h : Q (.bl false) S) : Wp (f_is_integer (.lst ds)) S Q E := by
  unfold f_is_integer
  simp [Ty.sub]
  exact h
theorem p_octet {i : Int} {S : MS} (h0 : 0 ≤ i) (h1 : i ≤ 255) (h : Q (.int i) S) : Wp (f_checked_octet (.int i)) S Q E := by
  unfold f_checked_octet
  simp only [wp_fin, wp_ifM, wp_orT, wp_notT, wp_tst, wp_call, wp_args1, wp_args0, wp_pure, wp_ar1]
  refine p_is ?_
  have a : ¬ i < 0 := by omega
  have c : ¬ i > 255 := by omega
  simp [a, c]
  exact h
theorem p_octetsOf {rows : List Int} {S : MS} {Ql : List D → MS → Prop} (hl : rows.length ≤ 1000) (o : Oct rows) (h : Ql (nums rows) S) : Wp (f_octets_of (.lst (nums rows))) S Ql E := by
  unfold f_octets_of
  simp only [wp_finN, wp_ret, wp_frz, wp_mapL, wp_bind, wp_pure, items_lst]
  refine ⟨szOk_of (by simp; omega), ?_⟩
  refine wp_mapC (fun ds r S' => ∃ xs, ds = nums xs ∧ r ++ ds = nums rows ∧ Oct xs ∧ S' = S) ?_ _ [] _ ⟨rows, rfl, by simp, o, rfl⟩ ?_
  · intro d ds r S' ⟨xs, e1, e2, o', e3⟩
    cases xs with
    | nil => cases e1
    | cons x xs =>
      cases e1
      simp only [wp_call, wp_args1, wp_args0, wp_pure, wp_ar1]
      refine p_octet (o' x (.head _)).1 (o' x (.head _)).2 ⟨xs, rfl, by simpa using e2, fun y hy => o' y (.tail _ hy), e3⟩
  · intro r' S' ⟨xs, e1, e2, o', e3⟩
    subst e3
    rw [List.append_nil, List.nil_append] at e2
    subst e2
    exact h
/-- a memory at the pointer k, its list at l -/
structure Mem (cs : List Cell) (k l : Nat) (rows : List Int) : Prop where
  hk : cs[k]? = some (.ins "Memory" [("octet_rows", .ptr l)])
  hl : cs[l]? = some (.lst (nums rows))
  ne : k ≠ l
theorem p_new {rows : List Int} (hl : rows.length ≤ 1000) (o : Oct rows) (h : ∀ k l cs', Mem cs' k l rows → Q (.ptr k) ⟨cs', s⟩) : Wp (newM "Memory" (ar2 f_Memory_init) [M.pure (.lst (nums rows))]) ⟨cs, s⟩ Q E := by
  refine wp_new ?_
  simp only [wp_args1, wp_args0, wp_pure, wp_ar2]
  unfold f_Memory_init
  simp only [wp_fin, wp_bind, wp_box, wp_ifM, wp_tst, wp_call, wp_args1, wp_args0, wp_pure, wp_ar1]
  refine p_isL ?_
  rw [wp_asB, if_neg (by decide), wp_ar1N]
  refine p_octetsOf hl o ?_
  refine wp_setF (fs := []) (by simp) (by decide) ?_
  rw [goFin_nx]
  refine ⟨rfl, h cs.length (cs.length + 1) _ ⟨?_, ?_, by omega⟩⟩
  · simp [MS.put, putFD]
  · simp [MS.put]
theorem p_check {k l : Nat} {rows : List Int} (m : Mem cs k l rows) {a c : Int} (h0 : ¬ (a < 0 ∨ a + c > rows.length) → Q .non ⟨cs, s⟩) (h1 : (a < 0 ∨ a + c > rows.length) → E ⟨"BadAddress", "octet", .int a⟩ ⟨cs, s⟩) :
    Wp (f_Memory_check_run (.ptr k) (.int a) (.int c)) ⟨cs, s⟩ Q E := by
  unfold f_Memory_check_run
  simp only [wp_fin, wp_ifM, wp_orT, wp_tst, wp_bin, wp_una, wp_call, wp_args1, wp_args0, wp_pure, wp_ar1, lt_int, wp_asB, wp_bind, wp_raise]
  by_cases h : a < 0
  · rw [if_pos (by simpa using h)]
    simpa using h1 (.inl h)
  · rw [if_neg (by simpa using h)]
    simp only [add_int, wp_pure]
    refine wp_fld m.hk rfl ?_
    refine len_ptr m.hl ?_
    simp only [gt_int, wp_pure, wp_asB]
    by_cases g : a + c > rows.length
    · rw [if_pos (by simpa using g)]
      exact h1 (.inr g)
    · rw [if_neg (by simpa using g)]
      exact h0 (by simp only [not_or]; exact ⟨h, g⟩)
/-- what stands in a list behind writing vs from the place a on -/
theorem set_app (pre vs post : List D) (x y : D) : (pre ++ y :: post).set pre.length x = pre ++ x :: post := by
  rw [List.set_append_right _ _ (Nat.le_refl _), Nat.sub_self]; rfl
def overD (xs vs : List Int) (a : Nat) : List Int := xs.take a ++ vs ++ xs.drop (a + vs.length)
theorem p_write {k l : Nat} {a : Int} {E : Err → MS → Prop} {Qf : Fl Unit Empty → MS → Prop} (body : Unit → D → M (Fl Unit Unit)) (a0 : 0 ≤ a)
    (hb : ∀ cs xs (i : Nat) v, Mem cs k l xs → a + i < xs.length → ∀ Q, (∀ cs', Mem cs' k l (xs.set (a.toNat + i) v) → Q (.nx ()) ⟨cs', s⟩) → Wp (body () (.tup [.int i, .int v])) ⟨cs, s⟩ Q E) :
    ∀ (vs : List Int) (i : Nat) (xs : List Int) (cs : List Cell), Mem cs k l xs → a.toNat + i + vs.length ≤ xs.length → (∀ cs', Mem cs' k l (overD xs vs (a.toNat + i)) → Qf (.nx ()) ⟨cs', s⟩) →
    Wp (Dl.forM body ((((List.range' i vs.length).map fun (i : Nat) => D.int i).zip (nums vs)).map fun p => .tup [p.1, p.2]) ()) ⟨cs, s⟩ Qf E
  | [], i, xs, cs, m, _, h => by
    simp only [nums, List.map_nil, List.zip_nil_right, Dl.forM, wp_pure]
    exact h cs (by simpa [overD] using m)
  | v :: vs, i, xs, cs, m, hl, h => by
    rw [List.length_cons] at hl
    rw [List.length_cons, List.range'_succ]
    simp only [List.map_cons, List.zip_cons_cons, nums]
    unfold Dl.forM
    rw [wp_bind]
    refine hb cs xs i v m (by omega) _ fun cs' m' => ?_
    refine p_write body a0 hb vs (i + 1) _ cs' m' (by rw [List.length_set]; omega) fun cs2 m2 => h cs2 ?_
    have e : overD (xs.set (a.toNat + i) v) vs (a.toNat + (i + 1)) = overD xs (v :: vs) (a.toNat + i) := by
      unfold overD
      have hx : a.toNat + i < xs.length := by omega
      have e1 : xs.set (a.toNat + i) v = xs.take (a.toNat + i) ++ v :: xs.drop (a.toNat + i + 1) := by
        rw [List.set_eq_take_append_cons_drop, if_pos hx]
      have hlen : (xs.take (a.toNat + i)).length = a.toNat + i := by rw [List.length_take]; omega
      rw [e1, List.take_append, List.drop_append, hlen, List.take_of_length_le (by rw [hlen]; omega), List.drop_eq_nil_of_le (as := xs.take (a.toNat + i)) (by rw [hlen]; omega)]
      rw [show a.toNat + (i + 1) - (a.toNat + i) = 1 by omega, show a.toNat + (i + 1) + vs.length - (a.toNat + i) = vs.length + 1 by omega]
      simp [List.drop_drop, Nat.add_comm, Nat.add_left_comm]
    rw [e] at m2
    exact m2
theorem put_mem {k l : Nat} {xs ys : List Int} (m : Mem cs k l xs) : Mem (cs.set l (.lst (nums ys))) k l ys := by
  have hl : l < cs.length := by
    have := m.hl
    exact (List.getElem?_eq_some_iff.mp this).1
  refine ⟨?_, ?_, m.ne⟩
  · rw [List.getElem?_set_ne m.ne.symm]; exact m.hk
  · rw [List.getElem?_set_self hl]
theorem p_move {k l : Nat} {rows : List Int} (m : Mem cs k l rows) {a b c : Int} (c0 : 0 ≤ c)
    (h0 : ¬ (a < 0 ∨ a + c > rows.length) → ¬ (b < 0 ∨ b + c > rows.length) → ∀ cs', Mem cs' k l (overD rows ((rows.drop b.toNat).take c.toNat) a.toNat) → Q .non ⟨cs', s⟩)
    (h1 : (a < 0 ∨ a + c > rows.length) → E ⟨"BadAddress", "octet", .int a⟩ ⟨cs, s⟩)
    (h2 : ¬ (a < 0 ∨ a + c > rows.length) → (b < 0 ∨ b + c > rows.length) → E ⟨"BadAddress", "octet", .int b⟩ ⟨cs, s⟩) :
    Wp (f_Memory_move (.ptr k) (.int a) (.int b) (.int c)) ⟨cs, s⟩ Q E := by
  unfold f_Memory_move
  simp only [wp_fin, wp_bind, wp_meth, wp_args1, wp_args0, wp_pure, wp_ar3]
  refine wp_isA m.hk (by rfl) ?_
  refine p_check m (fun ha => ?_) h1
  refine wp_isA m.hk (by rfl) ?_
  refine p_check m (fun hb => ?_) (h2 ha)
  simp only [wp_frz, wp_cut, wp_una, wp_pure]
  refine wp_fld m.hk rfl ?_
  refine wp_part1 ?_
  simp only [wp_pure]
  refine ⟨b, rfl, ?_⟩
  refine wp_part1 ?_
  simp only [wp_bin, wp_pure, add_int]
  refine ⟨b + c, rfl, ?_⟩
  refine lst_ptr m.hl ?_
  simp only [not_or, Int.not_lt] at ha hb
  have lr : (nums rows).length = rows.length := by simp
  rw [cut_both (by omega) (by omega) (by rw [lr]; omega), enum_lst, wp_pure, wp_then]
  have e : enumD (List.take (b + c - b).toNat (List.drop b.toNat (nums rows))) = (((List.range' 0 ((rows.drop b.toNat).take c.toNat).length).map fun (i : Nat) => D.int i).zip (nums ((rows.drop b.toNat).take c.toNat))).map fun p => .tup [p.1, p.2] := by
    unfold enumD
    rw [show b + c - b = c by omega]
    simp [nums, List.range_eq_range', List.map_take, List.map_drop]
  rw [e]
  have len : ((rows.drop b.toNat).take c.toNat).length = c.toNat := by rw [List.length_take, List.length_drop]; omega
  refine p_write _ (a := a) (by omega) ?_ _ 0 rows cs m (by rw [len]; omega) fun cs' m' => ?_
  · intro cs xs i v m hi Q hq
    simp only [wp_un2, wp_bind, wp_pure, wp_una]
    refine wp_fld m.hk rfl ?_
    simp only [wp_bin, wp_pure, add_int]
    refine wp_setI m.hl (by omega) (by simp; omega) ?_
    have e : (nums xs).set (a + (i : Int)).toNat (D.int v) = nums (xs.set (a.toNat + i) v) := by
      rw [show (a + (i : Int)).toNat = a.toNat + i by omega]
      simp [nums, List.map_set]
    rw [e]
    exact hq _ (put_mem m)
  · simp only [goThen_nx, wp_pure, goFin_nx]
    exact h0 (by omega) (by omega) cs' (by simpa using m')
theorem p_moved {k l : Nat} {rows : List Int} (m : Mem cs k l rows) {a b c : Int} (c0 : 0 ≤ c)
    (h0 : ¬ (a < 0 ∨ a + c > rows.length) → ¬ (b < 0 ∨ b + c > rows.length) → ∀ cs', Mem cs' k l (overD rows ((rows.drop b.toNat).take c.toNat) a.toNat) → Q (.tup [.str "told", .non]) ⟨cs', s⟩)
    (h1 : (a < 0 ∨ a + c > rows.length) → Q (.tup [.str "address", .int a]) ⟨cs, s⟩)
    (h2 : ¬ (a < 0 ∨ a + c > rows.length) → (b < 0 ∨ b + c > rows.length) → Q (.tup [.str "address", .int b]) ⟨cs, s⟩) :
    Wp (f_moved (.ptr k) (.int a) (.int b) (.int c)) ⟨cs, s⟩ Q E := by
  unfold f_moved
  simp only [wp_fin, wp_bind, wp_pure, wp_then, wp_try, wp_tup, wp_args1, wp_args0, wp_meth]
  refine wp_isA m.hk (by rfl) ?_
  simp only [wp_ar4]
  refine p_move m c0 (fun ha hb cs' m' => ?_) (fun ha => ?_) (fun ha hb => ?_)
  · exact ⟨szOk_of (by simp), by simpa using h0 ha hb cs' m'⟩
  · simp only [if_true]
    exact ⟨trivial, szOk_of (by simp), by simpa using h1 ha⟩
  · simp only [if_true]
    exact ⟨trivial, szOk_of (by simp), by simpa using h2 ha hb⟩
theorem p_place {a c : Int} (b : Bud s (n + 2)) (c0 : 0 ≤ c) (c1 : c < 1000) (h : ∀ v s', Bud s' n → Q (.int v) ⟨cs, s'⟩) : Wp (f_place .strm (.int a) (.int c)) ⟨cs, s⟩ Q E := by
  unfold f_place
  simp only [wp_fin, wp_bind, wp_call, wp_args1, wp_args0, wp_pure, wp_ar2]
  refine wp_draw b (by decide) (by decide) fun i s1 i0 i1 b1 => ?_
  simp only [wp_ifM, wp_tst, wp_bin, wp_pure, eq_int, wp_asB]
  by_cases e0 : i = 0
  · rw [if_pos (by simp [e0])]
    simp only [wp_out, wp_ret, wp_bin, wp_pure, sub_int, wp_call, wp_args1, wp_args0, wp_ar2]
    refine wp_draw b1 (by decide) (by decide) fun j s2 j0 j1 b2 => ?_
    simp only [add_int, sub_int, wp_pure, goOut_ret, goFin_ret]
    exact h _ s2 b2
  · rw [if_neg (by simpa using e0)]
    by_cases e1 : i = 1
    · rw [if_pos (by simp [e1])]
      simp only [wp_out, wp_bind, wp_frz, wp_lst, wp_args1, wp_args0, wp_una, wp_bin, wp_pure, neg_int, pow_int, mul_int, wp_guard, add_int]
      refine ⟨by decide, by decide +kernel, by decide, by decide +kernel, szOk_of (by simp), ?_⟩
      simp only [wp_ret, wp_call, wp_args1, wp_args0, wp_ar2, wp_pure]
      refine p_pick b1 (by simp) (by simp) fun d s2 hd b2 => ?_
      have key : ∃ x : Int, d = .int x := by
        simp only [List.mem_cons, List.not_mem_nil, or_false] at hd
        rcases hd with h | h | h | h | h | h | h <;> subst h <;> exact ⟨_, rfl⟩
      obtain ⟨x, e⟩ := key
      subst e
      simp only [goOut_ret, goFin_ret]
      exact h _ s2 b2
    · rw [if_neg (by simpa using e1)]
      simp only [wp_ret, wp_bin, wp_pure, add_int, wp_call, wp_args1, wp_args0, wp_ar2]
      refine wp_draw b1 (by omega) (by omega) fun j s2 j0 j1 b2 => ?_
      simp only [goFin_ret]
      exact h _ s2 b2
theorem p_octetsM {k l : Nat} {rows : List Int} (m : Mem cs k l rows) (h : Q (.lst (nums rows)) ⟨cs, s⟩) : Wp (f_Memory_octets (.ptr k)) ⟨cs, s⟩ Q E := by
  unfold f_Memory_octets
  simp only [wp_fin, wp_ret, wp_frz, wp_toList, wp_una, wp_pure]
  refine wp_fld m.hk rfl ?_
  exact seq_ptr m.hl h
theorem good_nums {k : Nat} {rows : List Int} (h : rows.length ≤ 1000) : Good (k + 2) (.lst (nums rows)) := .lst _ (by simp; omega) fun d hd => by
  obtain ⟨x, _, e⟩ := List.mem_map.mp hd
  subst e
  exact .int x
theorem over_len {xs vs : List Int} {a : Nat} (h : a + vs.length ≤ xs.length) : (overD xs vs a).length = xs.length := by
  unfold overD
  rw [List.length_append, List.length_append, List.length_take, List.length_drop]; omega
theorem good_told : Good 4 (.tup [.str "told", .non]) := .tup _ (by simp) fun d hd => by
  simp only [List.mem_cons, List.not_mem_nil, or_false] at hd
  rcases hd with h | h <;> subst h
  · exact .str _ (by decide +kernel)
  · exact .non
theorem good_addr {a : Int} : Good 4 (.tup [.str "address", .int a]) := .tup _ (by simp) fun d hd => by
  simp only [List.mem_cons, List.not_mem_nil, or_false] at hd
  rcases hd with h | h <;> subst h
  · exact .str _ (by decide +kernel)
  · exact .int _
theorem hlaw : ∀ ns : List Int, ns.length ≤ 63 → ∃ S', finM m_law (S0 ns) = .ok (.bl true) S' := by
  intro ns _
  have main : Wp (finM m_law) (S0 ns) (fun d _ => d = .bl true) NoE := by
    unfold m_law
    simp only [wp_fin, wp_bind, wp_pure, wp_rng1]
    refine ⟨by decide, ?_⟩
    rw [wp_then]
    refine wp_for (fun ds _ S => Bud S.st (1000 * ds.length)) ?_ ?_ _ _ _ ((Bud.start ns).le (by simp))
    · intro _ ds _ S b
      obtain ⟨cs, s⟩ := S
      rw [List.length_cons] at b
      simp only [wp_bind, wp_call, wp_args1, wp_args0, wp_pure, wp_ar2, wp_frz, wp_lst]
      refine wp_draw (n := 1000 * ds.length + 999) (b.le (by omega)) (by decide) (by decide) fun i s1 i0 i1 b1 => ?_
      refine ⟨szOk_of (by simp), ?_⟩
      refine p_pick (n := 1000 * ds.length + 998) b1 (by simp) (by simp) fun d s2 hd b2 => ?_
      have key : ∃ x : Nat, d = .int x ∧ x ≤ 30 := by
        simp only [List.mem_cons, List.not_mem_nil, or_false] at hd
        rcases hd with h | h | h | h | h | h <;> subst h
        · exact ⟨0, rfl, by omega⟩
        · exact ⟨1, rfl, by omega⟩
        · exact ⟨2, rfl, by omega⟩
        · exact ⟨5, rfl, by omega⟩
        · exact ⟨30, rfl, by omega⟩
        · exact ⟨i.toNat, by rw [Int.toNat_of_nonneg i0], by omega⟩
      obtain ⟨size, e, z1⟩ := key
      subst e
      refine p_octets (n := 1000 * ds.length + 900) (b2.le (by omega)) (by omega) fun rows s3 hr o b3 => ?_
      refine p_new (by omega) o fun k l cs' m => ?_
      simp only [wp_rng1]
      refine ⟨by decide, ?_⟩
      rw [wp_then]
      refine wp_for (fun es c S => ∃ rows cs s, c = .lst (nums rows) ∧ rows.length = size ∧ S = ⟨cs, s⟩ ∧ Mem cs k l rows ∧ Bud s (1000 * ds.length + 20 * es.length)) ?_ ?_ _ _ _ ⟨rows, cs', s3, rfl, hr, rfl, m, b3.le (by simp)⟩
      · intro _ es c S ⟨rows, cs, s, e1, hr, e2, m, b⟩
        subst e1; subst e2
        rw [List.length_cons] at b
        simp only [wp_bind, wp_call, wp_args1, wp_args0, wp_pure, wp_ar2, wp_frz, wp_lst, wp_bin, add_int]
        refine wp_draw (n := 1000 * ds.length + 20 * es.length + 19) (b.le (by omega)) (by omega) (by omega) fun i s1 i0 i1 b1 => ?_
        refine ⟨szOk_of (by simp), ?_⟩
        refine p_pick b1 (by simp) (by simp) fun d s2 hd b2 => ?_
        have key : ∃ x : Int, d = .int x ∧ 0 ≤ x := by
          simp only [List.mem_cons, List.not_mem_nil, or_false] at hd
          rcases hd with h | h | h | h | h | h | h <;> subst h <;> exact ⟨_, rfl, by omega⟩
        obtain ⟨many, e, m0⟩ := key
        subst e
        simp only [wp_ar3]
        refine p_place b2 (by omega) (by omega) fun a s3 b3 => ?_
        refine p_place b3 (by omega) (by omega) fun bb s4 b4 => ?_
        refine wp_join (fun c S' => ∃ src s', c = .int src ∧ S' = ⟨cs, s'⟩ ∧ Bud s' (1000 * ds.length + 20 * es.length)) ?_ ?_
        · simp only [wp_ifM, wp_tst, wp_bin, wp_call, wp_args1, wp_args0, wp_pure, wp_ar2]
          refine wp_draw b4 (by decide) (by decide) fun w s5 w0 w1 b5 => ?_
          simp only [eq_int, wp_pure, wp_asB]
          by_cases w2 : w = 0
          · rw [if_pos (by simp [w2])]
            simp only [wp_bind, wp_bin, wp_call, wp_args1, wp_args0, wp_pure, wp_ar2]
            refine wp_draw b5 (by decide) (by decide) fun x s6 x0 x1 b6 => ?_
            simp only [add_int, sub_int, max_int, mul_int, pow_int, wp_guard, wp_pure, min_int]
            exact ⟨by decide, by decide +kernel, _, rfl, _, _, rfl, rfl, b6.le (by omega)⟩
          · rw [if_neg (by simpa using w2)]
            exact ⟨_, rfl, _, _, rfl, rfl, b5.le (by omega)⟩
        · intro c S' ⟨src, s6, e1, e2, b6⟩
          subst e1; subst e2
          have pb : ∀ x : Int, ∃ v : Bool, (v = true ↔ (x < 0 ∨ x + many > size)) ∧ ∀ S (Qb : Bool → MS → Prop), Qb v S → Wp (orT (tst (Dl.bin dLt (M.pure (D.int x)) (M.pure (D.int 0)))) (tst (Dl.bin dGt (Dl.bin dAdd (M.pure (D.int x)) (M.pure (D.int many))) (M.pure (D.int size))))) S Qb NoE := fun x => by
            refine ⟨decide (x < 0 ∨ x + many > size), by simp, fun S Qb h => ?_⟩
            simp only [wp_orT, wp_tst, wp_bin, wp_pure, lt_int, add_int, gt_int, wp_asB]
            by_cases h1 : x < 0
            · rw [if_pos (by simpa using h1)]; simpa [h1] using h
            · rw [if_neg (by simpa using h1)]; simpa [h1] using h
          obtain ⟨va, ea, pa⟩ := pb a
          obtain ⟨vb, eb, pb⟩ := pb src
          have same1 : ∀ {c : D} {F : M (Fl D D)} {d : D} {S : MS} {Qf : Fl D D → MS → Prop}, Good 4 d → Wp F S Qf NoE → Wp (ifM (notT (tst (callM (ar2 (f_same 4)) [M.pure d, M.pure d]))) (outM (retM (M.pure (D.bl false)))) F) S Qf NoE := fun {c F d S Qf} g h => by
            simp only [wp_ifM, wp_notT, wp_tst, wp_call, wp_args1, wp_args0, wp_pure, wp_ar2]
            refine p_same g ?_
            simp only [wp_asB]
            exact h
          rw [wp_bind]
          refine Wp.to (Q := fun r S' => r = (if va = true then [.int a] else []) ++ (if vb = true then [.int src] else []) ∧ S' = ⟨cs, s6⟩) ?_ ?_
          · simp only [wp_bind, wp_filL, wp_tup, wp_args1, wp_args0, wp_pure, items_tup, wp_filC1, wp_filC0]
            refine ⟨szOk_of (by simp), szOk_of (by simp), pa _ _ ?_⟩
            cases va <;> simp only [if_true, if_false, Bool.false_eq_true] <;> refine pb _ _ ?_ <;> cases vb <;> simp only [if_true, if_false, Bool.false_eq_true] <;> exact ⟨rfl, trivial⟩
          · intro bad S' ⟨e1, e2⟩
            subst e2
            have hfin : ∀ (rows' : List Int) (cs' : List Cell), rows'.length = size → Mem cs' k l rows' → Wp (ifM (notT (tst (callM (ar2 (f_same 4)) [methM "Memory" "octets" (ar1 f_Memory_octets) (M.pure (.ptr k)) [], M.pure (.lst (nums rows'))]))) (retM (M.pure (D.bl false))) (M.pure (Fl.nx (D.lst (nums rows')))) : M (Fl D D)) ⟨cs', s6⟩ (fun z S' => ∃ c', z = Fl.nx c' ∧ ∃ rows cs s, c' = D.lst (nums rows) ∧ rows.length = size ∧ S' = { cells := cs, st := s } ∧ Mem cs k l rows ∧ Bud s (1000 * ds.length + 20 * es.length)) NoE := fun rows' cs' hl' m' => by
              simp only [wp_ifM, wp_notT, wp_tst, wp_call, wp_args1, wp_args0, wp_pure, wp_meth]
              refine wp_isA m'.hk (by rfl) ?_
              simp only [wp_ar1]
              refine p_octetsM m' ?_
              simp only [wp_ar2]
              refine p_same (good_nums (by omega)) ?_
              simp only [wp_asB]
              exact ⟨_, rfl, rows', cs', s6, rfl, hl', rfl, m', b6⟩
            cases va with
            | true =>
              have ha : a < 0 ∨ a + many > rows.length := by rw [hr]; exact ea.mp rfl
              cases vb with
              | true =>
                simp only [if_true, List.cons_append, List.nil_append] at e1
                subst e1
                simp only [wp_bind, wp_ifM, wp_tst, wp_bin, wp_pure, wp_frz, wp_lst, wp_args0, eq_lst20, wp_asB, if_false, Bool.false_eq_true, wp_tup, wp_args1, item_lst, wp_opt]
                refine ⟨szOk_of (by simp), _, rfl, szOk_of (by simp), ?_⟩
                simp only [wp_notT, wp_tst, wp_call, wp_args1, wp_args0, wp_pure, wp_ar4]
                refine p_moved m m0 (fun h1 h2 cs' m' => absurd ha h1) (fun _ => ?_) (fun h _ => absurd ha h)
                simp only [wp_ar2]
                refine p_same good_addr ?_
                simp only [wp_asB, Bool.not_true, Bool.false_eq_true, if_false, wp_then, wp_ifM, wp_tst, wp_bin, wp_pure, wp_frz, wp_lst, wp_args0, eq_lst20]
                exact ⟨szOk_of (by simp), hfin rows cs hr m⟩
              | false =>
                simp only [if_true, Bool.false_eq_true, if_false, List.append_nil] at e1
                subst e1
                simp only [wp_bind, wp_ifM, wp_tst, wp_bin, wp_pure, wp_frz, wp_lst, wp_args0, eq_lst10, wp_asB, if_false, Bool.false_eq_true, wp_tup, wp_args1, item_lst, wp_opt]
                refine ⟨szOk_of (by simp), _, rfl, szOk_of (by simp), ?_⟩
                simp only [wp_notT, wp_tst, wp_call, wp_args1, wp_args0, wp_pure, wp_ar4]
                refine p_moved m m0 (fun h1 h2 cs' m' => absurd ha h1) (fun _ => ?_) (fun h _ => absurd ha h)
                simp only [wp_ar2]
                refine p_same good_addr ?_
                simp only [wp_asB, Bool.not_true, Bool.false_eq_true, if_false, wp_then, wp_ifM, wp_tst, wp_bin, wp_pure, wp_frz, wp_lst, wp_args0, eq_lst10]
                exact ⟨szOk_of (by simp), hfin rows cs hr m⟩
            | false =>
              have ha : ¬ (a < 0 ∨ a + many > rows.length) := by rw [hr]; exact fun h => Bool.noConfusion (ea.mpr h)
              cases vb with
              | true =>
                have hb : src < 0 ∨ src + many > rows.length := by rw [hr]; exact eb.mp rfl
                simp only [if_true, Bool.false_eq_true, if_false, List.nil_append] at e1
                subst e1
                simp only [wp_bind, wp_ifM, wp_tst, wp_bin, wp_pure, wp_frz, wp_lst, wp_args0, eq_lst10, wp_asB, if_false, Bool.false_eq_true, wp_tup, wp_args1, item_lst, wp_opt]
                refine ⟨szOk_of (by simp), _, rfl, szOk_of (by simp), ?_⟩
                simp only [wp_notT, wp_tst, wp_call, wp_args1, wp_args0, wp_pure, wp_ar4]
                refine p_moved m m0 (fun h1 h2 cs' m' => absurd hb h2) (fun h => absurd h ha) (fun _ _ => ?_)
                simp only [wp_ar2]
                refine p_same good_addr ?_
                simp only [wp_asB, Bool.not_true, Bool.false_eq_true, if_false, wp_then, wp_ifM, wp_tst, wp_bin, wp_pure, wp_frz, wp_lst, wp_args0, eq_lst10]
                exact ⟨szOk_of (by simp), hfin rows cs hr m⟩
              | false =>
                have hb : ¬ (src < 0 ∨ src + many > rows.length) := by rw [hr]; exact fun h => Bool.noConfusion (eb.mpr h)
                simp only [Bool.false_eq_true, if_false, List.append_nil] at e1
                subst e1
                simp only [wp_bind, wp_ifM, wp_tst, wp_bin, wp_pure, wp_frz, wp_lst, wp_args0, eq_lst00, wp_asB, if_true, wp_tup, wp_args1]
                refine ⟨szOk_of (by simp), szOk_of (by simp), ?_⟩
                simp only [wp_notT, wp_tst, wp_call, wp_args1, wp_args0, wp_pure, wp_ar4]
                refine p_moved m m0 (fun _ _ cs' m' => ?_) (fun h => absurd h ha) (fun _ h => absurd h hb)
                simp only [wp_ar2]
                refine p_same good_told ?_
                simp only [wp_asB, Bool.not_true, Bool.false_eq_true, if_false, wp_then, wp_ifM, wp_tst, wp_bin, wp_pure, wp_frz, wp_lst, wp_args0, eq_lst00, if_true, wp_bind, wp_cut]
                refine ⟨szOk_of (by simp), ?_⟩
                refine wp_part1 ?_
                simp only [wp_pure]
                refine ⟨src, rfl, ?_⟩
                refine wp_part1 ?_
                simp only [wp_bin, wp_pure, add_int]
                refine ⟨src + many, rfl, ?_⟩
                simp only [lst_lst, wp_pure, wp_part0]
                refine wp_part1 ?_
                simp only [wp_pure]
                refine ⟨a, rfl, ?_⟩
                simp only [lst_lst, wp_pure, add_lst, wp_guard]
                simp only [not_or, Int.not_lt] at ha hb
                have ln : (nums rows).length = rows.length := by simp
                rw [cut_both (by omega) (by omega) (by rw [ln]; omega), cut_to (by omega) (by rw [ln]; omega)]
                refine ⟨szOk_of (by simp; omega), ?_⟩
                refine wp_part1 ?_
                simp only [wp_bin, wp_pure, add_int]
                refine ⟨a + many, rfl, ?_⟩
                rw [cut_from (by omega) (by rw [ln]; omega)]
                refine ⟨szOk_of (by simp; omega), ?_⟩
                rw [goThen_nx]
                have len : ((rows.drop src.toNat).take many.toNat).length = many.toNat := by rw [List.length_take, List.length_drop]; omega
                have e : List.take a.toNat (nums rows) ++ List.take (src + many - src).toNat (List.drop src.toNat (nums rows)) ++ List.drop (a + many).toNat (nums rows) = nums (overD rows ((rows.drop src.toNat).take many.toNat) a.toNat) := by
                  unfold overD
                  rw [len, show src + many - src = many by omega, show (a + many).toNat = a.toNat + many.toNat by omega]
                  simp [nums, List.map_take, List.map_drop]
                rw [e]
                exact hfin _ cs' (by rw [over_len (by rw [len]; omega)]; exact hr) m'
      · intro c S ⟨rows, cs, s, _, _, e, _, b⟩
        subst e
        simp only [goThen_nx, wp_pure]
        exact ⟨(), trivial, by simpa using b⟩
    · intro _ S _
      simp only [goThen_nx, wp_ret, wp_pure, goFin_ret]
  obtain ⟨a, S', e, q⟩ := main.ok
  subst q
  exact ⟨S', e⟩
end
end Lw

open PySem PySem.W PyProof.Rows in
set_option maxRecDepth 100000 in
set_option maxHeartbeats 0 in
theorem PySem.Challenge.cw_fieldberth_k37_octets_moved_holds : PySem.Challenge.rw_fieldberth_k37_octets_moved.Holds := by
  w_on; o_law; k_head; (case hw => w_witness2)
  k_fill
  refine Lw.walk (l := PySem.Challenge.rw_fieldberth_k37_octets_moved) rfl rfl (fun w h Y => PySem.W.kIn_of Y) ?F
  case F =>
    intro w mg fa h KX G hmg
    refine' Lw.all_mk KX G hmg ?aC_BadAddress ?xL_BadAddress ?xb_BadAddress ?sa_BadAddress ?eC_BadAddress ?tC_BadAddress ?kC_BadAddress ?nf_BadAddress ?iI_BadAddress ?tI_BadAddress ?lI_BadAddress ?cI_BadAddress ?kI_BadAddress ?aC_BadOctet ?xL_BadOctet ?xb_BadOctet ?sa_BadOctet ?eC_BadOctet ?tC_BadOctet ?kC_BadOctet ?nf_BadOctet ?iI_BadOctet ?tI_BadOctet ?lI_BadOctet ?cI_BadOctet ?kI_BadOctet ?ga_BadAddress ?gg_BadAddress ?hd_BadAddress ?ex_BadAddress ?aC_Memory ?pg_Memory ?hd_Memory ?po_Memory ?sa_Memory ?nna_Memory_octet_rows ?z_all ?z_bool ?z_dict ?z_enumerate ?z_int ?z_isinstance ?z_len ?z_list ?z_max ?z_min ?z_range ?z_tuple ?z_zip ?a_draw ?l_draw ?c_draw ?k_draw ?a_pick ?l_pick ?c_pick ?k_pick ?a_some_octets ?l_some_octets ?c_some_octets ?k_some_octets ?a_is_integer ?l_is_integer ?c_is_integer ?k_is_integer ?a_checked_octet ?l_checked_octet ?c_checked_octet ?k_checked_octet ?a_octets_of ?l_octets_of ?c_octets_of ?k_octets_of ?a_Memory_init ?i_Memory_init ?mk_Memory ?kc_Memory ?l_Memory_init ?c_Memory_init ?k_Memory_init ?a_place ?l_place ?c_place ?k_place ?a_same ?l_same ?c_same ?k_same ?a_Memory_check_run ?i_Memory_check_run ?l_Memory_check_run ?c_Memory_check_run ?k_Memory_check_run ?a_Memory_move ?i_Memory_move ?l_Memory_move ?c_Memory_move ?k_Memory_move ?a_moved ?l_moved ?c_moved ?k_moved ?a_Memory_octets ?i_Memory_octets ?l_Memory_octets ?c_Memory_octets ?k_Memory_octets ?a_law ?l_law ?c_law ?k_law Lw.hlaw
    (case aC_BadAddress => k_is)
    (case xL_BadAddress => k_is)
    (case xb_BadAddress => decide +kernel)
    (case sa_BadAddress => k_is)
    (case eC_BadAddress => k_is)
    (case tC_BadAddress => k_is)
    (case kC_BadAddress => k_is)
    (case nf_BadAddress => k_is)
    (case iI_BadAddress => k_is)
    (case tI_BadAddress => k_is)
    (case lI_BadAddress => k_is)
    (case cI_BadAddress => k_is)
    (case kI_BadAddress => k_is)
    (case aC_BadOctet => k_is)
    (case xL_BadOctet => k_is)
    (case xb_BadOctet => decide +kernel)
    (case sa_BadOctet => k_is)
    (case eC_BadOctet => k_is)
    (case tC_BadOctet => k_is)
    (case kC_BadOctet => k_is)
    (case nf_BadOctet => k_is)
    (case iI_BadOctet => k_is)
    (case tI_BadOctet => k_is)
    (case lI_BadOctet => k_is)
    (case cI_BadOctet => k_is)
    (case kI_BadOctet => k_is)
    (case ga_BadAddress => k_is)
    (case gg_BadAddress => k_is)
    (case hd_BadAddress => k_is)
    (case ex_BadAddress => k_is)
    (case aC_Memory => k_is)
    (case pg_Memory => k_is)
    (case hd_Memory => k_is)
    (case po_Memory => k_is)
    (case sa_Memory => k_is)
    (case nna_Memory_octet_rows => k_is)
    (case z_all => k_is)
    (case z_bool => k_is)
    (case z_dict => k_is)
    (case z_enumerate => k_is)
    (case z_int => k_is)
    (case z_isinstance => k_is)
    (case z_len => k_is)
    (case z_list => k_is)
    (case z_max => k_is)
    (case z_min => k_is)
    (case z_range => k_is)
    (case z_tuple => k_is)
    (case z_zip => k_is)
    (case a_draw => k_is)
    (case l_draw => k_is)
    (case c_draw => k_is)
    (case k_draw => k_is)
    (case a_pick => k_is)
    (case l_pick => k_is)
    (case c_pick => k_is)
    (case k_pick => k_is)
    (case a_some_octets => k_is)
    (case l_some_octets => k_is)
    (case c_some_octets => k_is)
    (case k_some_octets => k_is)
    (case a_is_integer => k_is)
    (case l_is_integer => k_is)
    (case c_is_integer => k_is)
    (case k_is_integer => k_is)
    (case a_checked_octet => k_is)
    (case l_checked_octet => k_is)
    (case c_checked_octet => k_is)
    (case k_checked_octet => k_is)
    (case a_octets_of => k_is)
    (case l_octets_of => k_is)
    (case c_octets_of => k_is)
    (case k_octets_of => k_is)
    (case a_Memory_init => k_is)
    (case i_Memory_init => k_is)
    (case mk_Memory => k_is)
    (case kc_Memory => k_is)
    (case l_Memory_init => k_is)
    (case c_Memory_init => k_is)
    (case k_Memory_init => k_is)
    (case a_place => k_is)
    (case l_place => k_is)
    (case c_place => k_is)
    (case k_place => k_is)
    (case a_same => k_is)
    (case l_same => k_is)
    (case c_same => k_is)
    (case k_same => k_is)
    (case a_Memory_check_run => k_is)
    (case i_Memory_check_run => k_is)
    (case l_Memory_check_run => k_is)
    (case c_Memory_check_run => k_is)
    (case k_Memory_check_run => k_is)
    (case a_Memory_move => k_is)
    (case i_Memory_move => k_is)
    (case l_Memory_move => k_is)
    (case c_Memory_move => k_is)
    (case k_Memory_move => k_is)
    (case a_moved => k_is)
    (case l_moved => k_is)
    (case c_moved => k_is)
    (case k_moved => k_is)
    (case a_Memory_octets => k_is)
    (case i_Memory_octets => k_is)
    (case l_Memory_octets => k_is)
    (case c_Memory_octets => k_is)
    (case k_Memory_octets => k_is)
    (case a_law => k_is)
    (case l_law => k_is)
    (case c_law => k_is)
    (case k_law => k_is)
