import PyProof.Rows.All
import Wide.All
import OpenK.AllK
import Wide.FinOn
import HandS.ForMost
import HandS.ForExc
import HandS.Walk
import HandS.Zip
import HandS.TryMany
import HandS.Style
import HandS.Property
import HandS.IsInst
import HandS.CallSlots
import HandS.ExcInit
import HandS.ExcField
import HandS.TupAny
import HandS.TryOnly
import HandS.Wide
import HandS.Defaults
import HandS.Conv
import PyProof.DictUpdate
import HandS.Flow
import HandS.Small
import KE.KDictZip
import KE.GoesMore
import HandS.TupLe
import HandS.Deep
import HandS.More
import PySem.Challenge.RW_fieldberth_k07_names_refused
set_option Elab.async false
set_option linter.all false
set_option maxRecDepth 100000
/-! Dl: programs as functions over plain data. D: data; M: what a def comes to; Rep: how data lie in the heap. -/
namespace Dl
open PySem L2
/-- plain data: lists that nobody changes any more and tuples are trees; ptr: an object that may change or whose identity counts; strm: the law's stream -/
inductive D where
  | non | bl (b : Bool) | int (i : Int) | str (x : Str) | lst (ds : List D) | tup (ds : List D) | dic (ks : List Key) (ds : List D) | obj (k : Nat) (c : Str) (ns : List Str) (ds : List D) | ptr (k : Nat) | strm
/-- what stands at a pointer -/
inductive Cell where
  | lst (ds : List D) | dic (kvs : List (Key × D)) | ins (c : Str) (fs : List (Str × D)) | out
/-- the law's stream: what is left of the script, the number at hand, the draws so far, the mix -/
structure Strm where
  xs : List Int
  cur : Int
  cnt : Int
  mix : Int
structure MS where
  cells : List Cell
  st : Strm
structure Err where
  cls : Str
  fld : Str
  val : D
inductive Res (α : Type) where
  | ok (a : α) (s : MS)
  | err (e : Err) (s : MS)
  | bad
@[reducible] def M (α : Type) := MS → Res α
namespace M
def pure {α : Type} (a : α) : M α := fun s => .ok a s
def bind {α β : Type} (m : M α) (f : α → M β) : M β := fun s => match m s with
  | .ok a s' => f a s'
  | .err e s' => .err e s'
  | .bad => .bad
def bad {α : Type} : M α := fun _ => .bad
def raise {α : Type} (e : Err) : M α := fun s => .err e s
end M
/-- the ghost of a state: where the pointers lie, where the stream lies, what else may still change (lists that some frame builds) -/
structure Gh where
  φ : List Addr
  sa : Addr
  sb : Addr
  O : Addr → Prop
  Z : Addr → Prop
  mg : Str → Option Value
def Gh.cell (G : Gh) (b : Addr) : Prop := (b ∈ G.φ ∧ ¬ G.Z b) ∨ b = G.sa ∨ b = G.sb
def Gh.mu (G : Gh) (b : Addr) : Prop := G.cell b ∨ G.O b
section
variable (K : PySem.W.Frag) (G : Gh) (H : Hp)
mutual
inductive Rep : V → D → Prop
  | non : Rep .non .non
  | bl (b : Bool) : Rep (.bl b) (.bl b)
  | int (i : Int) : Rep (.int i) (.int i)
  | str (x : Str) : Rep (.str x) (.str x)
  | lst {a : Addr} {xs : List V} {ds : List D} : H a = some (.lst xs) → xs.length ≤ sizeLine → ¬ G.mu a → Reps xs ds → Rep (.ref a) (.lst ds)
  | tup {a : Addr} {xs : List V} {ds : List D} : SqT K H a xs → xs.length ≤ sizeLine → Reps xs ds → Rep (.ref a) (.tup ds)
  | dic {a : Addr} {ks : List (Key × V)} {ls : List Key} {ds : List D} : H a = some (.dK ks) → ks.length ≤ sizeLine → ¬ G.mu a → ks.map Prod.fst = ls → Reps (ks.map Prod.snd) ds → Rep (.ref a) (.dic ls ds)
  | obj {a C dx : Addr} {k : Nat} {c : Str} {gs : List (Str × V)} {ns : List Str} {ds : List D} : G.φ[k]? = some a → G.mg c = some (.ref C) → H a = some (.ins C dx gs) → ¬ G.mu a → gs.map Prod.fst = ns → Reps (gs.map Prod.snd) ds → Rep (.ref a) (.obj k c ns ds)
  | ptr {a : Addr} {k : Nat} : G.φ[k]? = some a → Rep (.ref a) (.ptr k)
  | strm : Rep (.ref G.sa) .strm
inductive Reps : List V → List D → Prop
  | nil : Reps [] []
  | cons {v : V} {d : D} {vs : List V} {ds : List D} : Rep v d → Reps vs ds → Reps (v :: vs) (d :: ds)
end
/-- a dict's pairs, an instance's attributes -/
inductive KReps : List (Key × V) → List (Key × D) → Prop
  | nil : KReps [] []
  | cons {k : Key} {v : V} {d : D} {vs : List (Key × V)} {ds : List (Key × D)} : Rep K G H v d → KReps vs ds → KReps ((k, v) :: vs) ((k, d) :: ds)
inductive FReps : List (Str × V) → List (Str × D) → Prop
  | nil : FReps [] []
  | cons {k : Str} {v : V} {d : D} {vs : List (Str × V)} {ds : List (Str × D)} : Rep K G H v d → FReps vs ds → FReps ((k, v) :: vs) ((k, d) :: ds)
end
/-- never changed by anyone -/
def Fix : HO → Prop
  | .tup _ => True
  | .frz _ _ => True
  | _ => False
/-- from one state to a later one: only pointers and the stream have changed, all else that was tracked stands as it was -/
structure FR (G : Gh) (H : Hp) (G' : Gh) (H' : Hp) : Prop where
  pre : G.φ <+: G'.φ
  sa : G'.sa = G.sa
  sb : G'.sb = G.sb
  mg : G'.mg = G.mg
  keep : ∀ b o, H b = some o → (¬ G.cell b ∨ Fix o) → H' b = some o
  cnew : ∀ b, G'.cell b → G.cell b ∨ H b = none
  onew : ∀ b, G'.O b → G.O b ∨ H b = none
  oold : ∀ b, G.O b → G'.O b
  there : ∀ b o, H b = some o → ∃ o', H' b = some o'
theorem FR.refl (G : Gh) (H : Hp) : FR G H G H := ⟨List.prefix_rfl, rfl, rfl, rfl, fun _ _ h _ => h, fun _ h => .inl h, fun _ h => .inl h, fun _ h => h, fun _ o h => ⟨o, h⟩⟩
theorem FR.free {G G' : Gh} {H H' : Hp} (a : FR G H G' H') {b : Addr} (h : H' b = none) : H b = none := by
  cases e : H b with
  | none => rfl
  | some o =>
    obtain ⟨o', q⟩ := a.there b o e
    rw [h] at q; cases q
theorem FR.trans {G G1 G2 : Gh} {H H1 H2 : Hp} (a : FR G H G1 H1) (b : FR G1 H1 G2 H2) : FR G H G2 H2 where
  pre := a.pre.trans b.pre
  sa := b.sa.trans a.sa
  sb := b.sb.trans a.sb
  mg := b.mg.trans a.mg
  keep := fun c o h q => b.keep c o (a.keep c o h q) (by
    rcases q with q | q
    · refine .inl fun z => ?_
      rcases a.cnew c z with y | y
      · exact q y
      · rw [h] at y; cases y
    · exact .inr q)
  cnew := fun c h => by
    rcases b.cnew c h with z | z
    · exact a.cnew c z
    · exact .inr (a.free z)
  onew := fun c h => by
    rcases b.onew c h with z | z
    · exact a.onew c z
    · exact .inr (a.free z)
  oold := fun c h => b.oold c (a.oold c h)
  there := fun c o h => by
    obtain ⟨o', q⟩ := a.there c o h
    exact b.there c o' q
theorem FR.mu {G G1 : Gh} {H H1 : Hp} (a : FR G H G1 H1) {b : Addr} {o : HO} (h : H b = some o) (n : ¬ G.mu b) : ¬ G1.mu b := fun z => by
  rcases z with z | z
  · rcases a.cnew b z with y | y
    · exact n (.inl y)
    · rw [h] at y; cases y
  · rcases a.onew b z with y | y
    · exact n (.inr y)
    · rw [h] at y; cases y
theorem FR.sqT {K : PySem.W.Frag} {G G1 : Gh} {H H1 : Hp} (r : FR G H G1 H1) {a : Addr} {xs : List V} (h : SqT K H a xs) : SqT K H1 a xs := by
  rcases h with (h | ⟨u, h⟩) | h
  · exact .inl (.inl (r.keep _ _ h (.inr trivial)))
  · exact .inl (.inr ⟨u, r.keep _ _ h (.inr trivial)⟩)
  · exact .inr h
/-- the same with less: what a frame builds may have changed, too -/
structure LR (G : Gh) (H : Hp) (G' : Gh) (H' : Hp) : Prop where
  pre : G.φ <+: G'.φ
  sa : G'.sa = G.sa
  sb : G'.sb = G.sb
  mg : G'.mg = G.mg
  keep : ∀ b o, H b = some o → (¬ G.mu b ∨ Fix o) → H' b = some o
  mnew : ∀ b, G'.mu b → G.mu b ∨ H b = none
  there : ∀ b o, H b = some o → ∃ o', H' b = some o'
theorem LR.refl (G : Gh) (H : Hp) : LR G H G H := ⟨List.prefix_rfl, rfl, rfl, rfl, fun _ _ h _ => h, fun _ h => .inl h, fun _ o h => ⟨o, h⟩⟩
theorem LR.free {G G' : Gh} {H H' : Hp} (a : LR G H G' H') {b : Addr} (h : H' b = none) : H b = none := by
  cases e : H b with
  | none => rfl
  | some o =>
    obtain ⟨o', q⟩ := a.there b o e
    rw [h] at q; cases q
theorem LR.trans {G G1 G2 : Gh} {H H1 H2 : Hp} (a : LR G H G1 H1) (b : LR G1 H1 G2 H2) : LR G H G2 H2 where
  pre := a.pre.trans b.pre
  sa := b.sa.trans a.sa
  sb := b.sb.trans a.sb
  mg := b.mg.trans a.mg
  keep := fun c o h q => b.keep c o (a.keep c o h q) (by
    rcases q with q | q
    · refine .inl fun z => ?_
      rcases a.mnew c z with y | y
      · exact q y
      · rw [h] at y; cases y
    · exact .inr q)
  mnew := fun c h => by
    rcases b.mnew c h with z | z
    · exact a.mnew c z
    · exact .inr (a.free z)
  there := fun c o h => by
    obtain ⟨o', q⟩ := a.there c o h
    exact b.there c o' q
theorem FR.lr {G G1 : Gh} {H H1 : Hp} (a : FR G H G1 H1) : LR G H G1 H1 :=
  ⟨a.pre, a.sa, a.sb, a.mg, fun b o h q => a.keep b o h (q.elim (fun y => .inl fun z => y (.inl z)) .inr), fun b h => by
    rcases h with h | h
    · exact (a.cnew b h).elim (fun y => .inl (.inl y)) .inr
    · exact (a.onew b h).elim (fun y => .inl (.inr y)) .inr, a.there⟩
theorem LR.sqT {K : PySem.W.Frag} {G G1 : Gh} {H H1 : Hp} (r : LR G H G1 H1) {a : Addr} {xs : List V} (h : SqT K H a xs) : SqT K H1 a xs := by
  rcases h with (h | ⟨u, h⟩) | h
  · exact .inl (.inl (r.keep _ _ h (.inr trivial)))
  · exact .inl (.inr ⟨u, r.keep _ _ h (.inr trivial)⟩)
  · exact .inr h
section
variable {K : PySem.W.Frag} {G G1 : Gh} {H H1 : Hp}
mutual
theorem Rep.lr (r : LR G H G1 H1) : ∀ {v : V} {d : D}, Rep K G H v d → Rep K G1 H1 v d
  | _, _, .non => .non
  | _, _, .bl b => .bl b
  | _, _, .int i => .int i
  | _, _, .str x => .str x
  | _, _, .lst h z n t => .lst (r.keep _ _ h (.inl n)) z (fun q => (r.mnew _ q).elim n fun y => by rw [h] at y; cases y) (Reps.lr r t)
  | _, _, .tup h z t => .tup (r.sqT h) z (Reps.lr r t)
  | _, _, .dic h z n e t => .dic (r.keep _ _ h (.inl n)) z (fun q => (r.mnew _ q).elim n fun y => by rw [h] at y; cases y) e (Reps.lr r t)
  | _, _, .obj p m h n e t => .obj (by
      obtain ⟨t, e⟩ := r.pre
      rw [← e, List.getElem?_append_left (List.getElem?_eq_some_iff.mp p).1]
      exact p) (by rw [r.mg]; exact m) (r.keep _ _ h (.inl n)) (fun q => (r.mnew _ q).elim n fun y => by rw [h] at y; cases y) e (Reps.lr r t)
  | _, _, .ptr h => .ptr (by
      obtain ⟨t, e⟩ := r.pre
      rw [← e, List.getElem?_append_left (List.getElem?_eq_some_iff.mp h).1]
      exact h)
  | _, _, .strm => by rw [← r.sa]; exact .strm
theorem Reps.lr (r : LR G H G1 H1) : ∀ {v : List V} {d : List D}, Reps K G H v d → Reps K G1 H1 v d
  | _, _, .nil => .nil
  | _, _, .cons h t => .cons (Rep.lr r h) (Reps.lr r t)
end
theorem KReps.lr (r : LR G H G1 H1) : ∀ {v : List (Key × V)} {d : List (Key × D)}, KReps K G H v d → KReps K G1 H1 v d
  | _, _, .nil => .nil
  | _, _, .cons h t => .cons (h.lr r) (KReps.lr r t)
theorem FReps.lr (r : LR G H G1 H1) : ∀ {v : List (Str × V)} {d : List (Str × D)}, FReps K G H v d → FReps K G1 H1 v d
  | _, _, .nil => .nil
  | _, _, .cons h t => .cons (h.lr r) (FReps.lr r t)
theorem Rep.mono (r : FR G H G1 H1) {v : V} {d : D} (h : Rep K G H v d) : Rep K G1 H1 v d := h.lr r.lr
theorem Reps.mono (r : FR G H G1 H1) {v : List V} {d : List D} (h : Reps K G H v d) : Reps K G1 H1 v d := h.lr r.lr
theorem KReps.mono (r : FR G H G1 H1) {v : List (Key × V)} {d : List (Key × D)} (h : KReps K G H v d) : KReps K G1 H1 v d := h.lr r.lr
theorem FReps.mono (r : FR G H G1 H1) {v : List (Str × V)} {d : List (Str × D)} (h : FReps K G H v d) : FReps K G1 H1 v d := h.lr r.lr
end
/-- what a frame builds: own or given up -/
def Gh.own (G : Gh) (l : Addr) : Gh := { G with O := fun b => b = l ∨ G.O b }
def Gh.let (G : Gh) (l : Addr) : Gh := { G with O := fun b => b ≠ l ∧ G.O b }
/-- an object that may change does -/
theorem LR.put {G : Gh} {H : Hp} {l : Addr} {o o' : HO} (hl : H l = some o) (hf : ¬ Fix o) (hm : G.mu l) : LR G H G (upd H l o') :=
  ⟨List.prefix_rfl, rfl, rfl, rfl, fun b u h q => by
    rw [upd_ne fun e => ?_]
    · exact h
    · subst e
      rw [hl] at h; cases h
      exact q.elim (fun y => y hm) hf, fun b h => .inl h, fun b u h => by
    by_cases e : b = l
    · rw [e]; exact ⟨o', upd_same⟩
    · exact ⟨u, by rw [upd_ne e]; exact h⟩⟩
theorem LR.let {G : Gh} {H : Hp} {l : Addr} : LR G H (G.let l) H :=
  ⟨List.prefix_rfl, rfl, rfl, rfl, fun _ _ h _ => h, fun b h => .inl (h.elim .inl fun y => .inr y.2), fun _ o h => ⟨o, h⟩⟩
section
variable {K : PySem.W.Frag} {G : Gh} {H : Hp} {l : Addr}
theorem Rep.let {v : V} {d : D} (h : Rep K G H v d) : Rep K (G.let l) H v d := h.lr LR.let
theorem Reps.let {v : List V} {d : List D} (h : Reps K G H v d) : Reps K (G.let l) H v d := h.lr LR.let
theorem KReps.let {v : List (Key × V)} {d : List (Key × D)} (h : KReps K G H v d) : KReps K (G.let l) H v d := h.lr LR.let
theorem FReps.let {v : List (Str × V)} {d : List (Str × D)} (h : FReps K G H v d) : FReps K (G.let l) H v d := h.lr LR.let
end
/-! ### states -/
section
variable (K : PySem.W.Frag) (mg : Str → Option Value)
def CellRep (G : Gh) (H : Hp) (a : Addr) : Cell → Prop
  | .lst ds => ∃ xs, H a = some (.lst xs) ∧ xs.length ≤ sizeLine ∧ Reps K G H xs ds
  | .dic kvs => ∃ ks, H a = some (.dK ks) ∧ ks.length ≤ sizeLine ∧ KReps K G H ks kvs
  | .ins c fs => ∃ C dx gs, mg c = some (.ref C) ∧ H a = some (.ins C dx gs) ∧ FReps K G H gs fs
  | .out => True
structure Wf (G : Gh) (H : Hp) (S : MS) : Prop where
  len : G.φ.length = S.cells.length
  nd : G.φ.Nodup
  cell : ∀ (k : Nat) (c : Cell) (a : Addr), S.cells[k]? = some c → G.φ[k]? = some a → CellRep K mg G H a c
  live : ∀ b, G.mu b → ∃ o, H b = some o
  ha : H G.sa = some (.lst [.ref G.sb, .int S.st.cur, .int S.st.cnt, .int S.st.mix])
  hb : H G.sb = some (.lst (S.st.xs.map V.int))
  sab : G.sa ≠ G.sb
  na : G.sa ∉ G.φ
  nb : G.sb ∉ G.φ
  zs : S.st.xs.length ≤ 1000
  hmg : G.mg = mg
  nz : ∀ (k : Nat) (c : Cell) (a : Addr), S.cells[k]? = some c → G.φ[k]? = some a → c ≠ .out → ¬ G.Z a
  zl : ∀ b, G.Z b → ∃ o, H b = some o
  zo : ∀ b, G.O b → b ∉ G.φ ∧ ¬ G.Z b
/-- an error of the package: class, own dict with its one field -/
def ErrRep (G : Gh) (H : Hp) (e : Err) (cls : Value) (da : Option Addr) : Prop :=
  ∃ C d v, mg e.cls = some (.ref C) ∧ cls = .ref C ∧ da = some d ∧ H d = some (.xd [(e.fld, v)]) ∧ ¬ G.mu d ∧ Rep K G H v e.val
/-- what a slot is known to hold -/
inductive Slot where
  | any | val (d : D) | own (ds : List D) | exc (a dd : Addr) (f : Str) (d : D)
def SlotRep (H0 : Hp) (G : Gh) (H : Hp) (u : Option (Option V)) : Slot → Prop
  | .any => True
  | .val d => ∃ v, u = some (some v) ∧ Rep K G H v d
  | .own ds => ∃ l xs, u = some (some (.ref l)) ∧ H l = some (.lst xs) ∧ xs.length ≤ sizeLine ∧ Reps K G H xs ds ∧ G.O l ∧ ¬ G.cell l ∧ H0 l = none
  | .exc a dd f d => u = some (some (.ref a)) ∧ ∃ v, H dd = some (.xd [(f, v)]) ∧ ¬ G.mu dd ∧ Rep K G H v d
/-- the state in a body: entered at G0, H0 -/
structure SI (G0 : Gh) (H0 : Hp) (G : Gh) (H : Hp) (σ : L2.St) (ρ : List Slot) (S : MS) : Prop where
  fr : FR G0 H0 G H
  live0 : ∀ b, G0.mu b → ∃ o, H0 b = some o
  wf : Wf K mg G H S
  len : σ.length = ρ.length
  env : ∀ (i : Nat) (s : Slot), ρ[i]? = some s → SlotRep K H0 G H σ[i]? s
  apart : ∀ (i j : Nat) (ds es : List D) (l : Addr), i ≠ j → ρ[i]? = some (.own ds) → ρ[j]? = some (.own es) → σ[i]? = some (some (.ref l)) → σ[j]? ≠ some (some (.ref l))
end
end Dl
namespace Dl
open PySem L2
section
variable {K : PySem.W.Frag} {mg : Str → Option Value} {G G0 G1 : Gh} {H H0 H1 : Hp} {S : MS} {σ : L2.St} {ρ : List Slot} {p : Addr} {o : HO}
theorem FR.alloc (h : H p = none) : FR G H G (upd H p o) :=
  ⟨List.prefix_rfl, rfl, rfl, rfl, fun b u e _ => by rw [upd_ne (ne_of_none e h)]; exact e, fun _ q => .inl q, fun _ q => .inl q, fun _ q => q, fun b u e => ⟨u, by rw [upd_ne (ne_of_none e h)]; exact e⟩⟩
theorem Wf.phi (w : Wf K mg G H S) {b : Addr} (h : b ∈ G.φ) : ∃ o, H b = some o := by
  by_cases z : G.Z b
  · exact w.zl b z
  · exact w.live b (.inl (.inl ⟨h, z⟩))
/-- the pointers' own objects as they were -/
theorem Wf.stay (w : Wf K mg G H S) (r : FR G H G1 H1) (hφ : G1.φ = G.φ) (hz : G1.Z = G.Z) (lv : ∀ b, G1.O b → ∃ o, H1 b = some o) (k : ∀ b u, G.cell b → H b = some u → H1 b = some u) : Wf K mg G1 H1 S where
  len := by rw [hφ]; exact w.len
  nd := by rw [hφ]; exact w.nd
  cell := fun i c a h1 h2 => by
    rw [hφ] at h2
    have q := w.cell i c a h1 h2
    have hc : c ≠ .out → G.cell a := fun n => .inl ⟨List.mem_of_getElem? h2, w.nz i c a h1 h2 n⟩
    cases c with
    | out => trivial
    | lst ds => obtain ⟨xs, e, z, t⟩ := q; exact ⟨xs, k _ _ (hc (by intro h; cases h)) e, z, t.mono r⟩
    | dic kvs => obtain ⟨xs, e, z, t⟩ := q; exact ⟨xs, k _ _ (hc (by intro h; cases h)) e, z, t.mono r⟩
    | ins c fs => obtain ⟨C, dx, gs, m, e, t⟩ := q; exact ⟨C, dx, gs, m, k _ _ (hc (by intro h; cases h)) e, t.mono r⟩
  live := fun b h => by
    rcases h with h | h
    · have hc : G.cell b := by
        unfold Gh.cell at h ⊢
        rw [hφ, hz, r.sa, r.sb] at h
        exact h
      obtain ⟨u, e⟩ := w.live b (.inl hc)
      exact r.there b u e
    · exact lv b h
  ha := by rw [r.sa, r.sb]; exact k _ _ (.inr (.inl rfl)) w.ha
  hb := by rw [r.sb]; exact k _ _ (.inr (.inr rfl)) w.hb
  sab := by rw [r.sa, r.sb]; exact w.sab
  na := by rw [r.sa, hφ]; exact w.na
  nb := by rw [r.sb, hφ]; exact w.nb
  zs := w.zs
  hmg := r.mg.trans w.hmg
  nz := fun i c a h1 h2 n => by rw [hφ] at h2; rw [hz]; exact w.nz i c a h1 h2 n
  zl := fun b h => by
    rw [hz] at h
    obtain ⟨o, q⟩ := w.zl b h
    exact r.there b o q
  zo := fun b h => by
    rw [hφ, hz]
    rcases r.onew b h with h | h
    · exact w.zo b h
    · refine ⟨fun q => ?_, fun q => ?_⟩
      · obtain ⟨u, e⟩ := w.phi q
        rw [h] at e; cases e
      · obtain ⟨u, e⟩ := w.zl b q
        rw [h] at e; cases e
theorem Wf.alloc (w : Wf K mg G H S) (h : H p = none) : Wf K mg G (upd H p o) S := w.stay (.alloc h) rfl rfl (fun b hb => by
    obtain ⟨u, e⟩ := w.live b (.inr hb)
    exact ⟨u, by rw [upd_ne (ne_of_none e h)]; exact e⟩) fun b u _ e => by rw [upd_ne (ne_of_none e h)]; exact e
theorem FR.allocO (h : H p = none) : FR G H (G.own p) (upd H p o) :=
  ⟨List.prefix_rfl, rfl, rfl, rfl, fun b u e _ => by rw [upd_ne (ne_of_none e h)]; exact e, fun _ q => .inl q, fun b q => by
    rcases q with q | q
    · rw [q]; exact .inr h
    · exact .inl q, fun _ q => .inr q, fun b u e => ⟨u, by rw [upd_ne (ne_of_none e h)]; exact e⟩⟩
theorem Wf.allocO (w : Wf K mg G H S) (h : H p = none) : Wf K mg (G.own p) (upd H p o) S := w.stay (.allocO h) rfl rfl (fun b hb => by
    rcases hb with q | hb
    · rw [q]; exact ⟨o, upd_same⟩
    · obtain ⟨u, e⟩ := w.live b (.inr hb)
      exact ⟨u, by rw [upd_ne (ne_of_none e h)]; exact e⟩) fun b u _ e => by rw [upd_ne (ne_of_none e h)]; exact e
theorem Wf.fresh (w : Wf K mg G H S) (h : H p = none) : ¬ G.mu p := fun q => by
  obtain ⟨u, e⟩ := w.live p q
  rw [h] at e; cases e
theorem SI.mono {S' : MS} (s : SI K mg G0 H0 G H σ ρ S) (r : FR G H G1 H1) (w : Wf K mg G1 H1 S') : SI K mg G0 H0 G1 H1 σ ρ S' where
  fr := s.fr.trans r
  live0 := s.live0
  wf := w
  len := s.len
  env := fun i x h => by
    have q := s.env i x h
    cases x with
    | any => trivial
    | val d => obtain ⟨v, e, t⟩ := q; exact ⟨v, e, t.mono r⟩
    | own ds =>
      obtain ⟨l, xs, e, hl, z, t, ho, hc, h0⟩ := q
      refine ⟨l, xs, e, r.keep _ _ hl (.inl hc), z, t.mono r, r.oold _ ho, fun y => ?_, h0⟩
      rcases r.cnew l y with y | y
      · exact hc y
      · rw [hl] at y; cases y
    | exc a dd f d => obtain ⟨e, v, hd, n, t⟩ := q; exact ⟨e, v, r.keep _ _ hd (.inl fun c => n (.inl c)), r.mu hd n, t.mono r⟩
  apart := s.apart
theorem SI.alloc (s : SI K mg G0 H0 G H σ ρ S) (h : H p = none) : SI K mg G0 H0 G (upd H p o) σ ρ S := s.mono (.alloc h) (s.wf.alloc h)
end
section
variable {K : PySem.W.Frag} {mg : Str → Option Value} {G G0 G1 : Gh} {H H0 H1 : Hp} {S : MS} {σ : L2.St} {ρ : List Slot} {p l : Addr} {o : HO}
theorem SI.allocO (s : SI K mg G0 H0 G H σ ρ S) (h : H p = none) : SI K mg G0 H0 (G.own p) (upd H p o) σ ρ S := s.mono (.allocO h) (s.wf.allocO h)
/-- a list that no slot owns is given up: from then on it does not change -/
theorem FR.let (r : FR G0 H0 G H) (h : ∀ b, G0.O b → b ≠ l) : FR G0 H0 (G.let l) H :=
  ⟨r.pre, r.sa, r.sb, r.mg, r.keep, r.cnew, fun b q => r.onew b q.2, fun b q => ⟨h b q, r.oold b q⟩, r.there⟩
theorem Wf.let (w : Wf K mg G H S) : Wf K mg (G.let l) H S where
  len := w.len
  nd := w.nd
  cell := fun i c a h1 h2 => by
    have q := w.cell i c a h1 h2
    cases c with
    | lst ds => obtain ⟨xs, e, z, t⟩ := q; exact ⟨xs, e, z, t.let⟩
    | dic kvs => obtain ⟨xs, e, z, t⟩ := q; exact ⟨xs, e, z, t.let⟩
    | ins c fs => obtain ⟨C, dx, gs, m, e, t⟩ := q; exact ⟨C, dx, gs, m, e, t.let⟩
    | out => trivial
  live := fun b h => w.live b (h.elim .inl fun y => .inr y.2)
  ha := w.ha
  hb := w.hb
  sab := w.sab
  na := w.na
  nb := w.nb
  zs := w.zs
  hmg := w.hmg
  nz := w.nz
  zl := w.zl
  zo := fun b h => w.zo b h.2
theorem SI.let (s : SI K mg G0 H0 G H σ ρ S) (h0 : H0 l = none) (n : ∀ (i : Nat) (ds : List D), ρ[i]? = some (.own ds) → σ[i]? ≠ some (some (V.ref l))) : SI K mg G0 H0 (G.let l) H σ ρ S where
  fr := s.fr.let fun b hb e => by
    obtain ⟨u, q⟩ := s.live0 b (.inr hb)
    rw [e, h0] at q; cases q
  live0 := s.live0
  wf := s.wf.let
  len := s.len
  env := fun i x h => by
    have q := s.env i x h
    cases x with
    | any => trivial
    | val d => obtain ⟨v, e, t⟩ := q; exact ⟨v, e, t.let⟩
    | own ds =>
      obtain ⟨m, xs, e, hl, z, t, ho, hc, h0⟩ := q
      refine ⟨m, xs, e, hl, z, t.let, ⟨fun q => ?_, ho⟩, hc, h0⟩
      rw [q] at e
      exact n i ds h e
    | exc a dd f d => obtain ⟨e, v, hd, n, t⟩ := q; exact ⟨e, v, hd, fun z => n (z.elim .inl fun y => .inr y.2), t.let⟩
  apart := s.apart
/-- what a slot owns was there -/
theorem SI.owns (s : SI K mg G0 H0 G H σ ρ S) (h : H l = none) : ∀ (i : Nat) (ds : List D), ρ[i]? = some (.own ds) → σ[i]? ≠ some (some (V.ref l)) := fun i ds e q => by
  obtain ⟨m, xs, e', hl, _⟩ := s.env i _ e
  rw [q] at e'; cases e'
  rw [h] at hl; cases hl
end
/-! ### what is wanted behind a computation -/
section
variable (K : PySem.W.Frag) (mg : Str → Option Value) (W : WX)
def okG {α β : Type} (R : Gh → Hp → β → α → Prop) (G0 : Gh) (H0 : Hp) (G : Gh) (H : Hp) (σ : L2.St) (ρ : List Slot) (Q : β → Hp → Prop) : Res α → Prop
  | .ok a S => ∀ b G' H', SI K mg G0 H0 G' H' σ ρ S → FR G H G' H' → R G' H' b a → Q b H'
  | .err e S => ∀ cls da G' H', SI K mg G0 H0 G' H' σ ρ S → FR G H G' H' → ErrRep K mg G' H' e cls da → W cls da σ H'
  | .bad => False
/-- the reading of a piece whose computation is m -/
def tG {α β : Type} (R : Gh → Hp → β → α → Prop) (ρ : List Slot) (m : M α) : L2.St → Hp → (β → Hp → Prop) → Prop := fun σ H Q =>
  ∃ G0 H0 G S, SI K mg G0 H0 G H σ ρ S ∧ okG K mg W R G0 H0 G H σ ρ Q (m S)
end
abbrev RD (K : PySem.W.Frag) : Gh → Hp → V → D → Prop := fun G H v d => Rep K G H v d
abbrev RDs (K : PySem.W.Frag) : Gh → Hp → List V → List D → Prop := fun G H v d => Reps K G H v d
abbrev RB : Gh → Hp → Bool → Bool → Prop := fun _ _ a b => a = b
def ED (X : Cx) (W : WX) (ρ : List Slot) (e : Expr) (m : M D) : Prop := PE X e (tG X.K X.mg W (RD X.K) ρ m)
def ET (X : Cx) (W : WX) (ρ : List Slot) (e : Expr) (m : M Bool) : Prop := PT X e (tG X.K X.mg W RB ρ m)
def EA (X : Cx) (W : WX) (ρ : List Slot) (es : List Expr) (m : M (List D)) : Prop := PA X es (tG X.K X.mg W (RDs X.K) ρ m)
theorem PE.imp {X : Cx} {e : Expr} {t u : TE} (h : PE X e t) (k : ∀ σ H Q, u σ H Q → t σ H Q) : PE X e u := ⟨fun pins s σ H Q I q => h.run pins s σ H Q I (k σ H Q q)⟩
theorem PT.imp {X : Cx} {e : Expr} {t u : TT} (h : PT X e t) (k : ∀ σ H Q, u σ H Q → t σ H Q) : PT X e u := ⟨fun pins s σ H Q I q => h.run pins s σ H Q I (k σ H Q q)⟩
theorem PW.imp {X : Cx} {e : Expr} {t u : TT} (h : PW X e t) (k : ∀ σ H Q, u σ H Q → t σ H Q) : PW X e u := ⟨fun wh pins s σ H Q I q => h.run wh pins s σ H Q I (k σ H Q q)⟩
theorem PA.imp {X : Cx} {es : List Expr} {t u : TA} (h : PA X es t) (k : ∀ σ H Q, u σ H Q → t σ H Q) : PA X es u := ⟨fun pos pins s σ H Q I q => h.run pos pins s σ H Q I (k σ H Q q)⟩
theorem PS.imp {X : Cx} {st : Stmt} {t u : TS} (h : PS X st t) (k : ∀ D σ H, u D σ H → t D σ H) : PS X st u := ⟨fun pins s σ H D I q => h.run pins s σ H D I (k D σ H q)⟩
theorem PSs.imp {X : Cx} {st : List Stmt} {t u : TS} (h : PSs X st t) (k : ∀ D σ H, u D σ H → t D σ H) : PSs X st u := ⟨fun pins s σ H D I q => h.run pins s σ H D I (k D σ H q)⟩
section
variable {K : PySem.W.Frag} {mg : Str → Option Value} {W : WX} {α β γ δ : Type} {R : Gh → Hp → β → α → Prop} {R' : Gh → Hp → δ → γ → Prop} {G0 G G1 : Gh} {H0 H H1 : Hp} {σ : L2.St} {ρ : List Slot} {Q : β → Hp → Prop} {Q' : δ → Hp → Prop} {S : MS}
theorem okG.from {r : Res α} (h : okG K mg W R G0 H0 G H σ ρ Q r) (f : FR G H G1 H1) : okG K mg W R G0 H0 G1 H1 σ ρ Q r := by
  cases r with
  | ok a S => exact fun b G' H' s r q => h b G' H' s (f.trans r) q
  | err e S => exact fun cls da G' H' s r => h cls da G' H' s (f.trans r)
  | bad => exact h
theorem okG.bind {m : M α} {f : α → M γ} (h : okG K mg W R' G0 H0 G H σ ρ Q' (m.bind f S))
    (k : ∀ G1 H1 S1 b a, SI K mg G0 H0 G1 H1 σ ρ S1 → FR G H G1 H1 → R G1 H1 b a → okG K mg W R' G0 H0 G1 H1 σ ρ Q' (f a S1) → Q b H1) : okG K mg W R G0 H0 G H σ ρ Q (m S) := by
  unfold M.bind at h
  cases e : m S with
  | ok a S1 =>
    rw [e] at h
    exact fun b G' H' s r q => k G' H' S1 b a s r q (okG.from h r)
  | err x S1 => rw [e] at h; exact h
  | bad => rw [e] at h; exact h
theorem okG.here {a : α} {b : β} (h : okG K mg W R G0 H0 G H σ ρ Q (.ok a S)) (s : SI K mg G0 H0 G H σ ρ S) (r : R G H b a) : Q b H := h b G H s (.refl G H) r
theorem okG.new {a : α} {b : β} {p : Addr} {o : HO} (h : okG K mg W R G0 H0 G H σ ρ Q (.ok a S)) (s : SI K mg G0 H0 G H σ ρ S) (hp : H p = none) (r : R G (upd H p o) b a) : Q b (upd H p o) := h b G (upd H p o) (s.alloc hp) (.alloc hp) r
end
/-! ### a list that is new: nobody else knows it -/
section
variable (K : PySem.W.Frag) (mg : Str → Option Value) (W : WX)
def okN (G0 : Gh) (H0 : Hp) (G : Gh) (H : Hp) (σ : L2.St) (ρ : List Slot) (Q : VK) : Res (List D) → Prop
  | .ok ds S => ∀ l xs G' H', SI K mg G0 H0 G' H' σ ρ S → FR G H G' H' → H l = none → H' l = some (.lst xs) → xs.length ≤ sizeLine → G'.O l → ¬ G'.cell l → Reps K G' H' xs ds → Q (.ref l) H'
  | .err e S => ∀ cls da G' H', SI K mg G0 H0 G' H' σ ρ S → FR G H G' H' → ErrRep K mg G' H' e cls da → W cls da σ H'
  | .bad => False
def tN (ρ : List Slot) (m : M (List D)) : TE := fun σ H Q => ∃ G0 H0 G S, SI K mg G0 H0 G H σ ρ S ∧ okN K mg W G0 H0 G H σ ρ Q (m S)
end
section
variable {K : PySem.W.Frag} {mg : Str → Option Value} {W : WX} {α β γ δ : Type} {R : Gh → Hp → β → α → Prop} {G0 G G1 : Gh} {H0 H H1 : Hp} {σ : L2.St} {ρ : List Slot} {Q : β → Hp → Prop} {Q' : VK} {S : MS}
theorem okN.from {r : Res (List D)} (h : okN K mg W G0 H0 G H σ ρ Q' r) (f : FR G H G1 H1) : okN K mg W G0 H0 G1 H1 σ ρ Q' r := by
  cases r with
  | ok a S => exact fun l xs G' H' s r n q z m c t => h l xs G' H' s (f.trans r) (f.free n) q z m c t
  | err e S => exact fun cls da G' H' s r => h cls da G' H' s (f.trans r)
  | bad => exact h
theorem okN.bind {m : M α} {f : α → M (List D)} (h : okN K mg W G0 H0 G H σ ρ Q' (m.bind f S))
    (k : ∀ G1 H1 S1 b a, SI K mg G0 H0 G1 H1 σ ρ S1 → FR G H G1 H1 → R G1 H1 b a → okN K mg W G0 H0 G1 H1 σ ρ Q' (f a S1) → Q b H1) : okG K mg W R G0 H0 G H σ ρ Q (m S) := by
  unfold M.bind at h
  cases e : m S with
  | ok a S1 =>
    rw [e] at h
    exact fun b G' H' s r q => k G' H' S1 b a s r q (okN.from h r)
  | err x S1 => rw [e] at h; exact h
  | bad => rw [e] at h; exact h
theorem okN.new {ds : List D} {p : Addr} {xs : List V} (h : okN K mg W G0 H0 G H σ ρ Q' (.ok ds S)) (s : SI K mg G0 H0 G H σ ρ S) (hp : H p = none) (z : xs.length ≤ sizeLine) (r : Reps K G H xs ds) : Q' (.ref p) (upd H p (.lst xs)) :=
  h p xs (G.own p) (upd H p (.lst xs)) (s.allocO hp) (.allocO hp) hp upd_same z (.inl rfl) (fun c => s.wf.fresh hp (.inl c)) (r.mono (.allocO hp))
end
def EN (X : Cx) (W : WX) (ρ : List Slot) (e : Expr) (m : M (List D)) : Prop := PE X e (tN X.K X.mg W ρ m)
end Dl
namespace Dl
open PySem L2
/-! ### the operations over data -/
mutual
def D.toPy : D → PyData
  | .non => .none
  | .bl b => .bool b
  | .int i => .int i
  | .str x => .str x
  | .lst ds => .list (D.toPys ds)
  | .tup ds => .tuple (D.toPys ds)
  | .dic _ _ => .none
  | .obj _ _ _ _ => .none
  | .ptr _ => .none
  | .strm => .none
def D.toPys : List D → List PyData
  | [] => []
  | d :: ds => d.toPy :: D.toPys ds
end
mutual
/-- no pointer in it -/
def D.flat : D → Bool
  | .lst ds => D.flats ds
  | .tup ds => D.flats ds
  | .dic _ _ => false
  | .obj _ _ _ _ => false
  | .ptr _ => false
  | .strm => false
  | _ => true
def D.flats : List D → Bool
  | [] => true
  | d :: ds => d.flat && D.flats ds
end
def D.plain (d : D) : Bool := d.flat && SeqAt.shaped d.toPy
def D.eqv (d e : D) : Bool := PyData.eqv d.toPy e.toPy
def szOk (n : Nat) : Bool := decide (n ≤ 16777216)
theorem sz_of {n : Nat} (h : szOk n = true) : n ≤ sizeLine := by rw [sizeLine_eq]; exact of_decide_eq_true h
def mulOk (i j : Int) : Bool := (decide (-(2 ^ 64) < i) && decide (i < 2 ^ 64)) || (decide (-(2 ^ 64) < j) && decide (j < 2 ^ 64))
theorem mul_of {i j : Int} (h : mulOk i j = true) : CMul i j := by
  unfold mulOk at h
  simp only [Bool.or_eq_true, Bool.and_eq_true, decide_eq_true_eq] at h
  exact h
def guard (b : Bool) (m : M D) : M D := if b = true then m else M.bad
def dAdd : D → D → M D
  | .int i, .int j => M.pure (.int (i + j))
  | .str x, .str y => guard (szOk (x.length + y.length)) (M.pure (.str (x ++ y)))
  | .lst xs, .lst ys => guard (szOk (xs.length + ys.length)) (M.pure (.lst (xs ++ ys)))
  | .tup xs, .tup ys => guard (szOk (xs.length + ys.length)) (M.pure (.tup (xs ++ ys)))
  | _, _ => M.bad
def dSub : D → D → M D
  | .int i, .int j => M.pure (.int (i - j))
  | _, _ => M.bad
def dMul : D → D → M D
  | .int i, .int j => guard (mulOk i j) (M.pure (.int (i * j)))
  | .lst xs, .int k => guard (decide (-(2 ^ 63) ≤ k) && decide (k < 2 ^ 63) && szOk (xs.length * k.toNat)) (M.pure (.lst (List.replicate k.toNat xs).flatten))
  | _, _ => M.bad
def dMod : D → D → M D
  | .int i, .int j => guard (decide (0 < j)) (M.pure (.int (i % j)))
  | _, _ => M.bad
def dDiv : D → D → M D
  | .int i, .int j => guard (decide (0 < j) && decide (j < 2 ^ 256)) (M.pure (.int (i / j)))
  | _, _ => M.bad
def dPow : D → D → M D
  | .int i, .int j => guard (decide (0 ≤ j) && decide (j ≤ 1000000) && decide (i.natAbs < 2 ^ 64)) (M.pure (.int (i ^ j.toNat)))
  | _, _ => M.bad
def dCmp (f : Int → Int → Bool) : D → D → M D
  | .int i, .int j => M.pure (.bl (f i j))
  | _, _ => M.bad
abbrev dLt := dCmp fun i j => decide (i < j)
abbrev dLe := dCmp fun i j => decide (i ≤ j)
abbrev dGt := dCmp fun i j => decide (j < i)
abbrev dGe := dCmp fun i j => decide (j ≤ i)
def dEq (d e : D) : M D := guard (d.plain && e.plain) (M.pure (.bl (d.eqv e)))
def dNe (d e : D) : M D := guard (d.plain && e.plain) (M.pure (.bl (!d.eqv e)))
def dIsN : D → M D
  | .non => M.pure (.bl true)
  | _ => M.pure (.bl false)
def dNotN : D → M D
  | .non => M.pure (.bl false)
  | _ => M.pure (.bl true)
def dNeg : D → M D
  | .int i => M.pure (.int (-i))
  | _ => M.bad
/-- the items of a list or a tuple -/
def asSeq : D → M (List D)
  | .lst ds => M.pure ds
  | .tup ds => M.pure ds
  | .ptr k => fun S => match S.cells[k]? with
    | some (.lst ds) => .ok ds S
    | _ => .bad
  | _ => M.bad
def ofOpt {α : Type} : Option α → M α
  | some a => M.pure a
  | none => M.bad
def dItem (d i : D) : M D := match d, i with
  | .str x, .int i => guard (szOk x.length) (ofOpt ((atI x.cps.toList i).map fun c => .str ⟨#[c]⟩))
  | d, .int i => (asSeq d).bind fun ds => ofOpt (atI ds i)
  | _, _ => M.bad
def dLen (d : D) : M D := match d with
  | .str x => guard (szOk x.length) (M.pure (.int x.length))
  | d => (asSeq d).bind fun ds => M.pure (.int ds.length)
/-! ### the ways to put computations together -/
def bin (f : D → D → M D) (a b : M D) : M D := a.bind fun x => b.bind fun y => f x y
def una (f : D → M D) (a : M D) : M D := a.bind f
def argsM : List (M D) → M (List D)
  | [] => M.pure []
  | m :: ms => m.bind fun d => (argsM ms).bind fun ds => M.pure (d :: ds)
def callM (f : List D → M D) (ms : List (M D)) : M D := (argsM ms).bind f
def tupM (ms : List (M D)) : M D := (argsM ms).bind fun ds => guard (szOk ds.length) (M.pure (.tup ds))
def lstM (ms : List (M D)) : M (List D) := (argsM ms).bind fun ds => if szOk ds.length = true then M.pure ds else M.bad
def frz (m : M (List D)) : M D := m.bind fun ds => M.pure (.lst ds)
def asB : D → M Bool
  | .bl b => M.pure b
  | _ => M.bad
def tst (m : M D) : M Bool := m.bind asB
def ofB (m : M Bool) : M D := m.bind fun b => M.pure (.bl b)
def andT (a b : M Bool) : M Bool := a.bind fun x => if x = true then b else M.pure false
def orT (a b : M Bool) : M Bool := a.bind fun x => if x = true then M.pure true else b
def notT (a : M Bool) : M Bool := a.bind fun x => M.pure (!x)
def ifM {α : Type} (t : M Bool) (a b : M α) : M α := t.bind fun x => if x = true then a else b
def ar1 (f : D → M D) : List D → M D
  | [a] => f a
  | _ => M.bad
def ar2 (f : D → D → M D) : List D → M D
  | [a, b] => f a b
  | _ => M.bad
def ar3 (f : D → D → D → M D) : List D → M D
  | [a, b, c] => f a b c
  | _ => M.bad
def ar4 (f : D → D → D → D → M D) : List D → M D
  | [a, b, c, d] => f a b c d
  | _ => M.bad
def ar5 (f : D → D → D → D → D → M D) : List D → M D
  | [a, b, c, d, e] => f a b c d e
  | _ => M.bad
def ar6 (f : D → D → D → D → D → D → M D) : List D → M D
  | [a, b, c, d, e, g] => f a b c d e g
  | _ => M.bad
end Dl
namespace Dl
open PySem L2
/-! ### expressions -/
section
variable {K : PySem.W.Frag} {mg : Str → Option Value} {G : Gh} {H : Hp}
theorem Reps.length : ∀ {vs : List V} {ds : List D}, Reps K G H vs ds → vs.length = ds.length
  | _, _, .nil => rfl
  | _, _, .cons _ t => by rw [List.length_cons, List.length_cons, Reps.length t]
theorem Reps.append : ∀ {vs us : List V} {ds es : List D}, Reps K G H vs ds → Reps K G H us es → Reps K G H (vs ++ us) (ds ++ es)
  | _, _, _, _, .nil, h => h
  | _, _, _, _, .cons r t, h => .cons r (Reps.append t h)
theorem Reps.get : ∀ {vs : List V} {ds : List D} {i : Nat} {d : D}, Reps K G H vs ds → ds[i]? = some d → ∃ v, vs[i]? = some v ∧ Rep K G H v d
  | _, _, _, _, .nil, h => by simp at h
  | _, _, 0, _, .cons r _, h => by simp at h; subst h; exact ⟨_, rfl, r⟩
  | _, _, i + 1, _, .cons _ t, h => by
    obtain ⟨v, h1, h2⟩ := Reps.get (i := i) t (by simpa using h)
    exact ⟨v, by simpa using h1, h2⟩
theorem Reps.getV : ∀ {vs : List V} {ds : List D} {i : Nat} {v : V}, Reps K G H vs ds → vs[i]? = some v → ∃ d, ds[i]? = some d ∧ Rep K G H v d
  | _, _, _, _, .nil, h => by simp at h
  | _, _, 0, _, .cons r _, h => by simp at h; subst h; exact ⟨_, rfl, r⟩
  | _, _, i + 1, _, .cons _ t, h => by
    obtain ⟨v, h1, h2⟩ := Reps.getV (i := i) t (by simpa using h)
    exact ⟨v, by simpa using h1, h2⟩
theorem Reps.atI {vs : List V} {ds : List D} {i : Int} {d : D} (r : Reps K G H vs ds) (h : L2.atI ds i = some d) : ∃ v, L2.atI vs i = some v ∧ Rep K G H v d := by
  unfold L2.atI at h ⊢
  rw [r.length]
  cases e : ixN ds.length i with
  | none =>
    rw [e] at h
    cases h
  | some j =>
    rw [e] at h
    exact r.get (show ds[j]? = some d from h)
theorem Reps.take : ∀ {vs : List V} {ds : List D} (n : Nat), Reps K G H vs ds → Reps K G H (vs.take n) (ds.take n)
  | _, _, 0, _ => .nil
  | _, _, _ + 1, .nil => .nil
  | _, _, n + 1, .cons r t => .cons r (Reps.take n t)
theorem Reps.drop : ∀ {vs : List V} {ds : List D} (n : Nat), Reps K G H vs ds → Reps K G H (vs.drop n) (ds.drop n)
  | _, _, 0, r => r
  | _, _, _ + 1, .nil => .nil
  | _, _, n + 1, .cons _ t => Reps.drop n t
theorem Reps.set {v : V} {d : D} (r : Rep K G H v d) : ∀ {vs : List V} {ds : List D} (n : Nat), Reps K G H vs ds → Reps K G H (vs.set n v) (ds.set n d)
  | _, _, _, .nil => .nil
  | _, _, 0, .cons _ tl => .cons r tl
  | _, _, n + 1, .cons q t => .cons q (Reps.set r n t)
theorem Reps.rep {vs : List V} {ds : List D} (r : Reps K G H vs ds) : ∀ n : Nat, Reps K G H (List.replicate n vs).flatten (List.replicate n ds).flatten
  | 0 => .nil
  | n + 1 => by
    simp only [List.replicate_succ, List.flatten_cons]
    exact r.append (Reps.rep r n)
mutual
theorem Rep.dp : ∀ {v : V} {d : D}, Rep K G H v d → d.flat = true → Dp K H v d.toPy
  | _, _, .non, _ => .non
  | _, _, .bl b, _ => .bl b
  | _, _, .int i, _ => .int i
  | _, _, .str x, _ => .str x
  | _, _, .lst h _ _ t, f => .lst (SqL.of h) (Reps.dps t f)
  | _, _, .tup h _ t, f => .tup h (Reps.dps t f)
  | _, _, .dic .., f => by cases f
  | _, _, .obj .., f => by cases f
  | _, _, .ptr _, f => by cases f
  | _, _, .strm, f => by cases f
theorem Reps.dps : ∀ {v : List V} {d : List D}, Reps K G H v d → D.flats d = true → DpAll K H v (D.toPys d)
  | _, _, .nil, _ => .nil
  | _, _, .cons r t, f => by
    have f' := Bool.and_eq_true_iff.mp (show (_ && D.flats _) = true from f)
    exact .cons (Rep.dp r f'.1) (Reps.dps t f'.2)
end
variable {S : MS}
theorem rep_new {p : Addr} {xs : List V} {ds : List D} (w : Wf K mg G H S) (hp : H p = none) (z : xs.length ≤ sizeLine) (r : Reps K G H xs ds) : Rep K G (upd H p (.lst xs)) (.ref p) (.lst ds) :=
  .lst upd_same z (w.fresh hp) (r.mono (.alloc hp))
theorem rep_tup {p : Addr} {xs : List V} {ds : List D} (hp : H p = none) (z : xs.length ≤ sizeLine) (r : Reps K G H xs ds) : Rep K G (upd H p (.tup xs)) (.ref p) (.tup ds) :=
  .tup (SqT.of upd_same) z (r.mono (.alloc hp))
end
/-- a two-place operation on data and its reading on values -/
def OpD (K : PySem.W.Frag) (mg : Str → Option Value) (r : R2) (f : D → D → M D) : Prop :=
  ∀ (W : WX) (G0 : Gh) (H0 : Hp) (G : Gh) (H : Hp) (σ : L2.St) (ρ : List Slot) (S : MS) (x y : V) (d e : D) (Q : VK), SI K mg G0 H0 G H σ ρ S → Rep K G H x d → Rep K G H y e →
    okG K mg W (RD K) G0 H0 G H σ ρ Q (f d e S) → r x y H Q
def CallD (K : PySem.W.Frag) (mg : Str → Option Value) (r : List V → Hp → VK → Prop) (f : List D → M D) : Prop :=
  ∀ (W : WX) (G0 : Gh) (H0 : Hp) (G : Gh) (H : Hp) (σ : L2.St) (ρ : List Slot) (S : MS) (xs : List V) (ds : List D) (Q : VK), SI K mg G0 H0 G H σ ρ S → Reps K G H xs ds →
    okG K mg W (RD K) G0 H0 G H σ ρ Q (f ds S) → r xs H Q
theorem okG.guard {K : PySem.W.Frag} {mg : Str → Option Value} {W : WX} {G0 : Gh} {H0 : Hp} {G : Gh} {H : Hp} {σ : L2.St} {ρ : List Slot} {S : MS} {Q : VK} {b : Bool} {m : M D} (h : okG K mg W (RD K) G0 H0 G H σ ρ Q (guard b m S)) :
    b = true ∧ okG K mg W (RD K) G0 H0 G H σ ρ Q (m S) := by
  unfold Dl.guard at h
  cases b with
  | true => exact ⟨rfl, h⟩
  | false => exact False.elim h
section
variable {X : Cx} {W : WX} {ρ : List Slot} {a b c e : Expr} {es : List Expr} {ma mb mc m : M D} {ms : List (M D)} {pos : Pos}
theorem ed_var (i : Nat) {x : Str} {d : D} (hρ : ρ[i]? = some (.val d) := by rfl) (hN : X.N[i]? = some x := by rfl) (hv : Vis X.env.scope x := by first | exact Or.inl rfl | exact Or.inr (Or.inl rfl) | exact Or.inr (Or.inr rfl))
    (hd : (x == ("__debug__" : Str)) = false := by decide) (hcd : (x == ("__classdict__" : Str)) = false := by decide) : ED X W ρ (.Name x pos) (M.pure d) :=
  PE.imp (pv i hN hv hd hcd) fun σ H Q ⟨G0, H0, G, S, si, h⟩ => by
    obtain ⟨v, e, r⟩ := si.env i _ hρ
    exact ⟨v, e, okG.here h si r⟩
theorem ed_int {i : Int} {j : Nat} : ED X W ρ (.Constant (.int i) j pos) (M.pure (.int i)) := PE.imp pe_int fun σ H Q ⟨G0, H0, G, S, si, h⟩ => okG.here h si (.int i)
theorem ed_bl {i : Bool} {j : Nat} : ED X W ρ (.Constant (.bool i) j pos) (M.pure (.bl i)) := PE.imp pe_bl fun σ H Q ⟨G0, H0, G, S, si, h⟩ => okG.here h si (.bl i)
theorem ed_non {j : Nat} : ED X W ρ (.Constant .none j pos) (M.pure .non) := PE.imp pe_non fun σ H Q ⟨G0, H0, G, S, si, h⟩ => okG.here h si .non
theorem ed_str {x : Str} {j : Nat} : ED X W ρ (.Constant (.str x) j pos) (M.pure (.str x)) := PE.imp pe_str fun σ H Q ⟨G0, H0, G, S, si, h⟩ => okG.here h si (.str x)
/-- two operands, then anything -/
theorem two {K : PySem.W.Frag} {mg : Str → Option Value} {σ : L2.St} {H : Hp} {Q : VK} {f : D → D → M D} {r : R2} (hd : OpD K mg r f) (h : tG K mg W (RD K) ρ (bin f ma mb) σ H Q) :
    tG K mg W (RD K) ρ ma σ H fun x H1 => tG K mg W (RD K) ρ mb σ H1 fun y H2 => r x y H2 Q := by
  obtain ⟨G0, H0, G, S, si, h⟩ := h
  refine ⟨G0, H0, G, S, si, okG.bind h fun G1 H1 S1 x d s1 f1 r1 h1 => ⟨G0, H0, G1, S1, s1, okG.bind h1 fun G2 H2 S2 y d' s2 f2 r2 h2 => ?_⟩⟩
  exact hd W G0 H0 G2 H2 σ ρ S2 x y d d' Q s2 (r1.mono f2) r2 h2
theorem ed_bin {op : Operator} {r : R2} {f : D → D → M D} (ho : OpR X (binaryOp op) r) (hd : OpD X.K X.mg r f) (ha : ED X W ρ a ma) (hb : ED X W ρ b mb) : ED X W ρ (.BinOp a op b pos) (bin f ma mb) :=
  PE.imp (pe_op ho ha hb) fun σ H Q h => two hd h
theorem ed_cmp {op : CmpOp} {r : R2} {f : D → D → M D} (ho : OpR X (compareOp op) r) (hd : OpD X.K X.mg r f) (ha : ED X W ρ a ma) (hb : ED X W ρ b mb) (hm : behindInMarks op b = false := by first | exact nobehind _ (by decide) (by decide) | rfl) : ED X W ρ (.Compare a [op] [b] pos) (bin f ma mb) :=
  PE.imp (pe_cmpR ho ha hb hm) fun σ H Q h => two hd h
theorem ea_nil : EA X W ρ [] (argsM []) := PA.imp pa_nil fun σ H Q ⟨G0, H0, G, S, si, h⟩ => okG.here h si .nil
theorem ea_cons (ha : ED X W ρ e m) (hr : EA X W ρ es (argsM ms)) (hs : starEach (e :: es) X.env = (false, eval e X.env) :: starEach es X.env := by rfl) : EA X W ρ (e :: es) (argsM (m :: ms)) :=
  PA.imp (pa_cons ha hr hs) fun σ H Q ⟨G0, H0, G, S, si, h⟩ => ⟨G0, H0, G, S, si, okG.bind h fun G1 H1 S1 x d s1 f1 r1 h1 => ⟨G0, H0, G1, S1, s1, okG.bind h1 fun G2 H2 S2 xs ds s2 f2 r2 h2 => okG.here h2 s2 (.cons (r1.mono f2) r2)⟩⟩
theorem ed_tup {k : Nat} (h : EA X W ρ es (argsM ms)) : ED X W ρ (.Tuple es k pos) (tupM ms) :=
  PE.imp (pe_tup h) fun σ H Q ⟨G0, H0, G, S, si, h⟩ => ⟨G0, H0, G, S, si, okG.bind h fun G1 H1 S1 xs ds s1 f1 r1 h1 => by
    obtain ⟨z, h1⟩ := okG.guard h1
    have z' : xs.length ≤ sizeLine := by rw [r1.length]; exact sz_of z
    exact ⟨z', fun p hp => okG.new h1 s1 hp (rep_tup hp z' r1)⟩⟩
/-- a new list -/
theorem en_lst (h : EA X W ρ es (argsM ms)) : EN X W ρ (.List es pos) (lstM ms) :=
  PE.imp (pe_lst h) fun σ H Q ⟨G0, H0, G, S, si, h⟩ => ⟨G0, H0, G, S, si, okN.bind h fun G1 H1 S1 xs ds s1 f1 r1 h1 => by
    have r1 : Reps X.K G1 H1 xs ds := r1
    by_cases z : szOk ds.length = true
    · rw [if_pos z] at h1
      have z' := sz_of z
      rw [← r1.length] at z'
      exact ⟨z', fun p hp => okN.new h1 s1 hp z' r1⟩
    · rw [if_neg z] at h1
      exact False.elim h1⟩
theorem ed_new {m : M (List D)} (h : EN X W ρ e m) : ED X W ρ e (frz m) :=
  PE.imp h fun σ H Q ⟨G0, H0, G, S, si, h⟩ => ⟨G0, H0, G, S, si, by
    unfold frz M.bind at h
    cases q : m S with
    | ok ds S1 =>
      rw [q] at h
      refine fun l xs G' H' s f n e z ho hc t => h (.ref l) (G'.let l) H' (s.let (si.fr.free n) (si.owns n)) (f.let fun b hb q => ?_) (.lst e z (fun q => ?_) t.let)
      · obtain ⟨u, w⟩ := si.wf.live b (.inr hb)
        rw [q, n] at w; cases w
      · rcases q with q | q
        · exact hc q
        · exact q.1 rfl
    | err _ _ => rw [q] at h; exact h
    | bad => rw [q] at h; exact h⟩
/-! tests -/
theorem et_val {tm : M D} (h : ED X W ρ e tm) (he : ∀ whole, isTrue e X.env whole = (do let v ← whole; standAt e.pos; holding [v] (truthy v)) := by intro _; rfl) : ET X W ρ e (tst tm) :=
  PT.imp (pt_val h he) fun σ H Q ⟨G0, H0, G, S, si, h⟩ => ⟨G0, H0, G, S, si, okG.bind h fun G1 H1 S1 x d s1 f1 r1 h1 => by
    cases r1 with
    | bl b => exact ⟨b, rfl, okG.here h1 s1 rfl⟩
    | _ => exact False.elim h1⟩
theorem et_cmp {op : CmpOp} {r : R2} {f : D → D → M D} (ho : OpR X (compareOp op) r) (hd : OpD X.K X.mg r f) (ha : ED X W ρ a ma) (hb : ED X W ρ b mb) (hm : behindInMarks op b = false := by first | exact nobehind _ (by decide) (by decide) | rfl) : ET X W ρ (.Compare a [op] [b] pos) (tst (bin f ma mb)) :=
  PT.imp (pt_cmpR ho ha hb hm) fun σ H Q ⟨G0, H0, G, S, si, h⟩ => by
    refine two (r := fun x y H Q => r x y H Q) hd ⟨G0, H0, G, S, si, okG.bind h fun G1 H1 S1 x d s1 f1 r1 h1 => ?_⟩
    cases r1 with
    | bl b => exact ⟨b, rfl, okG.here h1 s1 rfl⟩
    | _ => exact False.elim h1
variable {ta tb tc : M Bool} {rest : List Expr}
theorem ew_and1 (ha : ET X W ρ a ta) : PW X (.BoolOp .And [a] pos) (tG X.K X.mg W RB ρ ta) := pw_and1 ha
theorem ew_or1 (ha : ET X W ρ a ta) : PW X (.BoolOp .Or [a] pos) (tG X.K X.mg W RB ρ ta) := pw_or1 ha
theorem ew_and (ha : ET X W ρ a ta) (hb : PW X (.BoolOp .And (b :: rest) pos) (tG X.K X.mg W RB ρ tb)) : PW X (.BoolOp .And (a :: b :: rest) pos) (tG X.K X.mg W RB ρ (andT ta tb)) :=
  PW.imp (pw_and ha hb) fun σ H Q ⟨G0, H0, G, S, si, h⟩ => ⟨G0, H0, G, S, si, okG.bind h fun G1 H1 S1 x d s1 f1 r1 h1 => by
    cases r1
    cases x with
    | true => exact ⟨G0, H0, G1, S1, s1, h1⟩
    | false => exact okG.here h1 s1 rfl⟩
theorem ew_or (ha : ET X W ρ a ta) (hb : PW X (.BoolOp .Or (b :: rest) pos) (tG X.K X.mg W RB ρ tb)) : PW X (.BoolOp .Or (a :: b :: rest) pos) (tG X.K X.mg W RB ρ (orT ta tb)) :=
  PW.imp (pw_or ha hb) fun σ H Q ⟨G0, H0, G, S, si, h⟩ => ⟨G0, H0, G, S, si, okG.bind h fun G1 H1 S1 x d s1 f1 r1 h1 => by
    cases r1
    cases x with
    | true => exact okG.here h1 s1 rfl
    | false => exact ⟨G0, H0, G1, S1, s1, h1⟩⟩
theorem et_w (h : PW X e (tG X.K X.mg W RB ρ ta)) : ET X W ρ e ta := h.pt
theorem et_not (ha : ET X W ρ a ta) : ET X W ρ (.UnaryOp .Not a pos) (notT ta) :=
  PT.imp (pt_not ha) fun σ H Q ⟨G0, H0, G, S, si, h⟩ => ⟨G0, H0, G, S, si, okG.bind h fun G1 H1 S1 x d s1 f1 r1 h1 => by
    cases r1
    exact okG.here h1 s1 rfl⟩
theorem ed_if (hc : ET X W ρ c tc) (ha : ED X W ρ a ma) (hb : ED X W ρ b mb) : ED X W ρ (.IfExp c a b pos) (ifM tc ma mb) :=
  PE.imp (pe_ifExp hc ha hb) fun σ H Q ⟨G0, H0, G, S, si, h⟩ => ⟨G0, H0, G, S, si, okG.bind h fun G1 H1 S1 x d s1 f1 r1 h1 => by
    cases r1
    cases x with
    | true => exact ⟨G0, H0, G1, S1, s1, h1⟩
    | false => exact ⟨G0, H0, G1, S1, s1, h1⟩⟩
/-- and, or, not as values of truths -/
theorem ed_one {op : BoolOp} (h : ED X W ρ a ma) : ED X W ρ (.BoolOp op [a] pos) ma := pe_one h
def andV (a b : M D) : M D := a.bind fun x => (asB x).bind fun c => if c = true then b else M.pure (.bl false)
def orV (a b : M D) : M D := a.bind fun x => (asB x).bind fun c => if c = true then M.pure (.bl true) else b
def notV (a : M D) : M D := a.bind fun x => (asB x).bind fun c => M.pure (.bl (!c))
theorem ed_and (ha : ED X W ρ a ma) (hb : ED X W ρ (.BoolOp .And (b :: rest) pos) mb) : ED X W ρ (.BoolOp .And (a :: b :: rest) pos) (andV ma mb) :=
  PE.imp (pe_and ha hb) fun σ H Q ⟨G0, H0, G, S, si, h⟩ => ⟨G0, H0, G, S, si, okG.bind h fun G1 H1 S1 x d s1 f1 r1 h1 => by
    cases r1 with
    | bl b =>
      refine ⟨b, rfl, ?_⟩
      cases b with
      | true => exact ⟨G0, H0, G1, S1, s1, h1⟩
      | false => exact okG.here h1 s1 (.bl false)
    | _ => exact False.elim h1⟩
theorem ed_or (ha : ED X W ρ a ma) (hb : ED X W ρ (.BoolOp .Or (b :: rest) pos) mb) : ED X W ρ (.BoolOp .Or (a :: b :: rest) pos) (orV ma mb) :=
  PE.imp (pe_or ha hb) fun σ H Q ⟨G0, H0, G, S, si, h⟩ => ⟨G0, H0, G, S, si, okG.bind h fun G1 H1 S1 x d s1 f1 r1 h1 => by
    cases r1 with
    | bl b =>
      refine ⟨b, rfl, ?_⟩
      cases b with
      | true => exact okG.here h1 s1 (.bl true)
      | false => exact ⟨G0, H0, G1, S1, s1, h1⟩
    | _ => exact False.elim h1⟩
theorem ed_not (ha : ED X W ρ a ma) : ED X W ρ (.UnaryOp .Not a pos) (notV ma) :=
  PE.imp (pe_not ha) fun σ H Q ⟨G0, H0, G, S, si, h⟩ => ⟨G0, H0, G, S, si, okG.bind h fun G1 H1 S1 x d s1 f1 r1 h1 => by
    cases r1 with
    | bl b => exact ⟨b, rfl, okG.here h1 s1 (.bl (!b))⟩
    | _ => exact False.elim h1⟩
/-- a builtin's call -/
theorem ed_callB {x : Str} {id : String} {r : List V → Hp → VK → Prop} {f : List D → M D} {p : Pos} (hc : CallR X (.builtin id) r) (hd : CallD X.K X.mg r f) (hm : X.mg x = none) (hv : bootBuiltins x = some (.builtin id)) (ha : EA X W ρ (e :: es) (argsM ms)) (hg : Gl X x := by rfl) (hn : x ≠ "__name__" := by decide) (hdb : (x == ("__debug__" : Str)) = false := by decide)
    (he : starEach (e :: es) X.env = (false, eval e X.env) :: starEach es X.env := by rfl) (hpl : (backTo pos (starEach es X.env)).any (·.1) = false := by rfl) : ED X W ρ (.Call (.Name x p) (e :: es) [] pos) (callM f ms) :=
  PE.imp (pe_callB hc hg hm hv ha hn hdb he hpl) fun σ H Q ⟨G0, H0, G, S, si, h⟩ => ⟨G0, H0, G, S, si, okG.bind h fun G1 H1 S1 xs ds s1 f1 r1 h1 => hd W G0 H0 G1 H1 σ ρ S1 xs ds Q s1 r1 h1⟩
theorem ed_callTy {x : Str} {T : String} {r : List V → Hp → VK → Prop} {f : List D → M D} {p : Pos} (hc : CallR X (.type T) r) (hd : CallD X.K X.mg r f) (hm : X.mg x = none) (hv : bootBuiltins x = some (.type T)) (ha : EA X W ρ (e :: es) (argsM ms)) (hg : Gl X x := by rfl) (hn : x ≠ "__name__" := by decide) (hdb : (x == ("__debug__" : Str)) = false := by decide)
    (he : starEach (e :: es) X.env = (false, eval e X.env) :: starEach es X.env := by rfl) (hpl : (backTo pos (starEach es X.env)).any (·.1) = false := by rfl) : ED X W ρ (.Call (.Name x p) (e :: es) [] pos) (callM f ms) :=
  PE.imp (pe_callTy hc hg hm hv ha hn hdb he hpl) fun σ H Q ⟨G0, H0, G, S, si, h⟩ => ⟨G0, H0, G, S, si, okG.bind h fun G1 H1 S1 xs ds s1 f1 r1 h1 => hd W G0 H0 G1 H1 σ ρ S1 xs ds Q s1 r1 h1⟩
end
/-! ### own defs -/
section
variable (K : PySem.W.Frag) (mg : Str → Option Value)
def okF (G : Gh) (H : Hp) (Q : VK) (E : XK) : Res D → Prop
  | .ok d S => ∀ v G' H', FR G H G' H' → Wf K mg G' H' S → Rep K G' H' v d → Q v H'
  | .err e S => ∀ cls da G' H', FR G H G' H' → Wf K mg G' H' S → ErrRep K mg G' H' e cls da → E cls da H'
  | .bad => False
def spD (n : Nat) (f : List D → M D) : Sp := fun vs H Q E => ∃ G S ds, ds.length = n ∧ Reps K G H vs ds ∧ Wf K mg G H S ∧ okF K mg G H Q E (f ds S)
end
theorem spD_len {K : PySem.W.Frag} {mg : Str → Option Value} {n : Nat} {f : List D → M D} {vs : List V} {H : Hp} {Q : VK} {E : XK} (h : spD K mg n f vs H Q E) : vs.length = n := by
  obtain ⟨G, S, ds, e, r, _⟩ := h
  rw [r.length, e]
section
variable {X : Cx} {W : WX} {ρ : List Slot} {e o : Expr} {es : List Expr} {ms : List (M D)} {pos p apos : Pos} {x : Str} {k n : Nat} {f : Addr} {fd : FuncData} {ps : List Str} {g : List D → M D}
theorem okF_of {K : PySem.W.Frag} {mg : Str → Option Value} {G0 G : Gh} {H0 H : Hp} {σ : L2.St} {S : MS} {Q : VK} {r : Res D} (h : okG K mg W (RD K) G0 H0 G H σ ρ Q r) (si : SI K mg G0 H0 G H σ ρ S) : okF K mg G H Q (WE W σ) r := by
  cases r with
  | ok d S' => exact fun v G' H' fr wf r => h v G' H' (si.mono fr wf) fr r
  | err e S' => exact fun cls da G' H' fr wf r => h cls da G' H' (si.mono fr wf) fr r
  | bad => exact h
theorem ed_call (F : FnOk X.prog X.w X.K X.mg X.base (L2.CX X.prog X.w) k f fd ps (spD X.K X.mg n g)) (tk : Takes X W) (hr : Room k X.A) (hm : X.mg x = some (.ref f)) (hk : PySem.W.keepIn X.K (.ref f) = true) (hb : Binds X.K fd ps []) (ha : EA X W ρ (e :: es) (argsM ms)) (hn : (e :: es).length = n := by rfl) (hg : Gl X x := by rfl)
    (hdb : (x == ("__debug__" : Str)) = false := by decide) (he : starEach (e :: es) X.env = (false, eval e X.env) :: starEach es X.env := by rfl) (hpl : (backTo pos (starEach es X.env)).any (·.1) = false := by rfl) (hl : ms.length = n := by rfl) :
    ED X W ρ (.Call (.Name x p) (e :: es) [] pos) (callM g ms) :=
  PE.imp (pe_callS F hr hg hm hk hb (fun σ => passAt tk σ) ha hdb he hpl) fun σ H Q ⟨G0, H0, G, S, si, h⟩ => ⟨G0, H0, G, S, si, by
    have al : ∀ (ms : List (M D)) (S S1 : MS) (ds : List D), argsM ms S = .ok ds S1 → ds.length = ms.length := by
      intro ms
      induction ms with
      | nil => intro S S1 ds e; cases e; rfl
      | cons m ms ih =>
        intro S S1 ds e
        unfold argsM M.bind at e
        cases e1 : m S with
        | ok d S2 =>
          rw [e1] at e
          simp only at e
          cases e2 : argsM ms S2 with
          | ok ds' S3 =>
            rw [e2] at e
            cases e
            rw [List.length_cons, List.length_cons, ih _ _ _ e2]
          | err _ _ => rw [e2] at e; cases e
          | bad => rw [e2] at e; cases e
        | err _ _ => rw [e1] at e; cases e
        | bad => rw [e1] at e; cases e
    have h' := h
    unfold callM M.bind at h'
    cases e1 : argsM ms S with
    | ok ds S1 =>
      rw [e1] at h'
      have hd := al ms S S1 ds e1
      exact fun vs G1 H1 s1 f1 r1 => ⟨G1, S1, ds, by rw [hd, hl], r1, s1.wf, okF_of (okG.from h' f1) s1⟩
    | err _ _ => rw [e1] at h'; exact h'
    | bad => rw [e1] at h'; exact h'⟩
end
end Dl
namespace Dl
open PySem L2
section
variable {K : PySem.W.Frag} {mg : Str → Option Value}
theorem opd_sub : OpD K mg (rI0 fun i j => .int (i - j)) dSub := by
  intro W G0 H0 G H σ ρ S x y d e Q si r1 r2 h
  cases r1 <;> cases r2 <;> first | exact h.elim | exact ⟨_, _, rfl, rfl, okG.here h si (.int _)⟩
theorem opd_cmp {f : Int → Int → Bool} : OpD K mg (rI0 fun i j => .bl (f i j)) (dCmp f) := by
  intro W G0 H0 G H σ ρ S x y d e Q si r1 r2 h
  cases r1 <;> cases r2 <;> first | exact h.elim | exact ⟨_, _, rfl, rfl, okG.here h si (.bl _)⟩
/-- + -/
def rAddD (K : PySem.W.Frag) : R2 := fun x y H Q => (rI0 (fun i j => .int (i + j)) x y H Q ∨ (∃ i j, x = .str i ∧ y = .str j ∧ i.length + j.length ≤ sizeLine ∧ Q (.str (i ++ j)) H)) ∨ (rCat x y H Q ∨ rCatA K x y H Q)
theorem opr_add {X : Cx} : OpR X (binaryOp .Add) (rAddD X.K) := OpR.or (OpR.or op_add op_add_str) (OpR.or op_cat op_catA)
theorem opd_add : OpD K mg (rAddD K) dAdd := by
  intro W G0 H0 G H σ ρ S x y d e Q si r1 r2 h
  cases r1 with
  | int i =>
    cases r2 <;> first | exact h.elim | exact .inl (.inl ⟨_, _, rfl, rfl, okG.here h si (.int _)⟩)
  | str i =>
    cases r2 <;> first | exact h.elim | (obtain ⟨z, h⟩ := okG.guard h; exact .inl (.inr ⟨_, _, rfl, rfl, sz_of z, okG.here h si (.str _)⟩))
  | lst h1 z1 n1 t1 =>
    cases r2 <;> first | exact h.elim | skip
    rename_i h2 z2 n2 t2
    obtain ⟨z, h⟩ := okG.guard h
    have z' := sz_of z
    rw [← t1.length, ← t2.length] at z'
    exact .inr (.inl ⟨_, _, _, _, rfl, rfl, h1, h2, z', fun p hp => okG.new h si hp (rep_new si.wf hp (by rw [List.length_append]; exact z') (t1.append t2))⟩)
  | tup h1 z1 t1 =>
    cases r2 <;> first | exact h.elim | skip
    rename_i h2 z2 t2
    obtain ⟨z, h⟩ := okG.guard h
    have z' := sz_of z
    rw [← t1.length, ← t2.length] at z'
    refine .inr (.inr ⟨_, _, _, _, rfl, rfl, h1, h2, z', fun en => ?_, fun _ en => ?_, fun _ en p hp => ?_⟩)
    · subst en
      cases t1
      exact okG.here h si (.tup h2 z2 t2)
    · subst en
      cases t2
      rw [List.append_nil] at h
      exact okG.here h si (.tup h1 z1 t1)
    · exact okG.new h si hp (rep_tup hp (by rw [List.length_append]; exact z') (t1.append t2))
  | _ => exact h.elim
/-- * -/
def rMulD : R2 := fun x y H Q => rI CMul (fun i j => .int (i * j)) x y H Q ∨ rRep x y H Q
theorem opr_mul {X : Cx} : OpR X (binaryOp .Mult) rMulD := OpR.or op_mul op_rep
theorem opd_mul : OpD K mg rMulD dMul := by
  intro W G0 H0 G H σ ρ S x y d e Q si r1 r2 h
  cases r1 with
  | int i =>
    cases r2 <;> first | exact h.elim | (obtain ⟨z, h⟩ := okG.guard h; exact .inl ⟨_, _, rfl, rfl, mul_of z, okG.here h si (.int _)⟩)
  | lst h1 z1 n1 t1 =>
    cases r2 <;> first | exact h.elim | skip
    obtain ⟨z, h⟩ := okG.guard h
    simp only [Bool.and_eq_true, decide_eq_true_eq] at z
    obtain ⟨⟨k1, k2⟩, z⟩ := z
    have z' := sz_of z
    rw [← t1.length] at z'
    exact .inr ⟨_, _, _, rfl, rfl, h1, k1, k2, z', fun p hp => okG.new h si hp (rep_new si.wf hp (by simp only [List.length_flatten, List.map_replicate, List.sum_replicate_nat]; rw [Nat.mul_comm]; exact z') (t1.rep _))⟩
  | _ => exact h.elim
theorem opd_div : OpD K mg (rI CDivW fun i j => .int (i / j)) dDiv := by
  intro W G0 H0 G H σ ρ S x y d e Q si r1 r2 h
  cases r1 <;> cases r2 <;> first | exact h.elim | (obtain ⟨z, h⟩ := okG.guard h; simp only [Bool.and_eq_true, decide_eq_true_eq] at z; exact ⟨_, _, rfl, rfl, wide_div (b := 256) z.1 (by omega) (by decide) (by decide), okG.here h si (.int _)⟩)
theorem plain_of {d : D} (h : d.plain = true) : d.flat = true ∧ SeqAt.shaped d.toPy = true := Bool.and_eq_true_iff.mp h
theorem opd_eq : OpD K mg (rEqD K) dEq := by
  intro W G0 H0 G H σ ρ S x y d e Q si r1 r2 h
  obtain ⟨z, h⟩ := okG.guard h
  obtain ⟨z1, z2⟩ := Bool.and_eq_true_iff.mp z
  obtain ⟨f1, s1⟩ := plain_of z1
  obtain ⟨f2, s2⟩ := plain_of z2
  exact ⟨_, _, r1.dp f1, r2.dp f2, s1, s2, okG.here h si (.bl _)⟩
theorem opd_ne : OpD K mg (rNeD K) dNe := by
  intro W G0 H0 G H σ ρ S x y d e Q si r1 r2 h
  obtain ⟨z, h⟩ := okG.guard h
  obtain ⟨z1, z2⟩ := Bool.and_eq_true_iff.mp z
  obtain ⟨f1, s1⟩ := plain_of z1
  obtain ⟨f2, s2⟩ := plain_of z2
  exact ⟨_, _, r1.dp f1, r2.dp f2, s1, s2, okG.here h si (.bl _)⟩
theorem rep_non {G : Gh} {H : Hp} {x : V} {d : D} (r : Rep K G H x d) : dIsN d = M.pure (.bl (decide (x = .non))) ∧ dNotN d = M.pure (.bl (!decide (x = .non))) := by
  cases r <;> exact ⟨rfl, rfl⟩
end
section
variable {X : Cx} {W : WX} {ρ : List Slot} {a b c e : Expr} {es : List Expr} {ma mb mc m : M D} {ms : List (M D)} {pos : Pos}
theorem ed_add (ha : ED X W ρ a ma) (hb : ED X W ρ b mb) : ED X W ρ (.BinOp a .Add b pos) (bin dAdd ma mb) := ed_bin opr_add opd_add ha hb
theorem ed_sub (ha : ED X W ρ a ma) (hb : ED X W ρ b mb) : ED X W ρ (.BinOp a .Sub b pos) (bin dSub ma mb) := ed_bin op_sub opd_sub ha hb
theorem ed_mul (ha : ED X W ρ a ma) (hb : ED X W ρ b mb) : ED X W ρ (.BinOp a .Mult b pos) (bin dMul ma mb) := ed_bin opr_mul opd_mul ha hb
theorem ed_div (ha : ED X W ρ a ma) (hb : ED X W ρ b mb) : ED X W ρ (.BinOp a .FloorDiv b pos) (bin dDiv ma mb) := ed_bin op_fdivW opd_div ha hb
theorem ed_lt (ha : ED X W ρ a ma) (hb : ED X W ρ b mb) : ED X W ρ (.Compare a [.Lt] [b] pos) (bin dLt ma mb) := ed_cmp op_lt opd_cmp ha hb
theorem ed_gt (ha : ED X W ρ a ma) (hb : ED X W ρ b mb) : ED X W ρ (.Compare a [.Gt] [b] pos) (bin dGt ma mb) := ed_cmp op_gt opd_cmp ha hb
theorem ed_ge (ha : ED X W ρ a ma) (hb : ED X W ρ b mb) : ED X W ρ (.Compare a [.GtE] [b] pos) (bin dGe ma mb) := ed_cmp op_ge opd_cmp ha hb
theorem ed_eq {k : Nat} (hr : Room k X.A) (ha : ED X W ρ a ma) (hb : ED X W ρ b mb) : ED X W ρ (.Compare a [.Eq] [b] pos) (bin dEq ma mb) := ed_cmp (op_eqD hr.units) opd_eq ha hb
theorem ed_ne {k : Nat} (hr : Room k X.A) (ha : ED X W ρ a ma) (hb : ED X W ρ b mb) : ED X W ρ (.Compare a [.NotEq] [b] pos) (bin dNe ma mb) := ed_cmp (op_neD hr.units) opd_ne ha hb
theorem ed_isN {j : Nat} {pos' : Pos} (ha : ED X W ρ a ma) : ED X W ρ (.Compare a [.Is] [.Constant .none j pos'] pos) (una dIsN ma) :=
  PE.imp (pe_cmp (pc_isN ha)) fun σ H Q ⟨G0, H0, G, S, si, h⟩ => ⟨G0, H0, G, S, si, okG.bind h fun G1 H1 S1 x d s1 f1 r1 h1 => by
    rw [(rep_non r1).1] at h1
    exact okG.here h1 s1 (.bl _)⟩
theorem ed_notN {j : Nat} {pos' : Pos} (ha : ED X W ρ a ma) : ED X W ρ (.Compare a [.IsNot] [.Constant .none j pos'] pos) (una dNotN ma) :=
  PE.imp (pe_cmp (pc_notN ha)) fun σ H Q ⟨G0, H0, G, S, si, h⟩ => ⟨G0, H0, G, S, si, okG.bind h fun G1 H1 S1 x d s1 f1 r1 h1 => by
    rw [(rep_non r1).2] at h1
    exact okG.here h1 s1 (.bl _)⟩
theorem ed_bad : ED X W ρ e M.bad := ⟨fun _ _ _ _ _ _ h => by
  obtain ⟨_, _, _, _, _, h⟩ := h
  exact h.elim⟩
theorem asSeq_ok {K : PySem.W.Frag} {mg : Str → Option Value} {W : WX} {G0 : Gh} {H0 : Hp} {G : Gh} {H : Hp} {σ : L2.St} {ρ : List Slot} {S : MS} {α β : Type} {R : Gh → Hp → β → α → Prop} {Q : β → Hp → Prop} {f : List D → M α} {v : V} {d : D} (si : SI K mg G0 H0 G H σ ρ S) (r : Rep K G H v d)
    (h : okG K mg W R G0 H0 G H σ ρ Q ((asSeq d).bind f S)) : ∃ a xs ds, v = .ref a ∧ (SqL K H a xs ∨ SqT K H a xs) ∧ xs.length ≤ sizeLine ∧ Reps K G H xs ds ∧ okG K mg W R G0 H0 G H σ ρ Q (f ds S) := by
  cases r with
  | lst h1 z n t => exact ⟨_, _, _, rfl, .inl (SqL.of h1), z, t, h⟩
  | tup h1 z t => exact ⟨_, _, _, rfl, .inr h1, z, t, h⟩
  | ptr e =>
    rename_i a k
    unfold asSeq M.bind at h
    cases q : S.cells[k]? with
    | none => simp only [q] at h; exact h.elim
    | some c =>
      have cr := si.wf.cell k c a q e
      cases c with
      | lst ds =>
        simp only [q] at h
        obtain ⟨xs, hx, z, t⟩ := cr
        exact ⟨_, xs, ds, rfl, .inl (SqL.of hx), z, t, h⟩
      | dic _ => simp only [q] at h; exact h.elim
      | out => simp only [q] at h; exact h.elim
      | ins _ _ => simp only [q] at h; exact h.elim
  | _ => exact h.elim
/-- the items of a list -/
def asLst : D → M (List D)
  | .lst ds => M.pure ds
  | .ptr k => fun S => match S.cells[k]? with
    | some (.lst ds) => .ok ds S
    | _ => .bad
  | _ => M.bad
theorem asLst_ok {K : PySem.W.Frag} {mg : Str → Option Value} {W : WX} {G0 : Gh} {H0 : Hp} {G : Gh} {H : Hp} {σ : L2.St} {ρ : List Slot} {S : MS} {α β : Type} {R : Gh → Hp → β → α → Prop} {Q : β → Hp → Prop} {f : List D → M α} {v : V} {d : D} (si : SI K mg G0 H0 G H σ ρ S) (r : Rep K G H v d)
    (h : okG K mg W R G0 H0 G H σ ρ Q ((asLst d).bind f S)) : ∃ a xs ds, v = .ref a ∧ H a = some (.lst xs) ∧ xs.length ≤ sizeLine ∧ Reps K G H xs ds ∧ okG K mg W R G0 H0 G H σ ρ Q (f ds S) := by
  cases r with
  | lst h1 z n t => exact ⟨_, _, _, rfl, h1, z, t, h⟩
  | ptr e =>
    rename_i a k
    unfold asLst M.bind at h
    cases q : S.cells[k]? with
    | none => simp only [q] at h; exact h.elim
    | some c =>
      have cr := si.wf.cell k c a q e
      cases c with
      | lst ds =>
        simp only [q] at h
        obtain ⟨xs, hx, z, t⟩ := cr
        exact ⟨_, xs, ds, rfl, hx, z, t, h⟩
      | dic _ => simp only [q] at h; exact h.elim
      | out => simp only [q] at h; exact h.elim
      | ins _ _ => simp only [q] at h; exact h.elim
  | _ => exact h.elim
theorem opd_item {K : PySem.W.Frag} {mg : Str → Option Value} : OpD K mg (rIx K) dItem := by
  intro W G0 H0 G H σ ρ S x y d e Q si r1 r2 h
  have other : ∀ {i : Int}, y = .int i → okG K mg W (RD K) G0 H0 G H σ ρ Q ((asSeq d).bind (fun ds => ofOpt (atI ds i)) S) → rIx K x y H Q := fun {i} ey h => by
    obtain ⟨a, xs, ds, rfl, hs, zz, t, h⟩ := asSeq_ok si r1 h
    cases q : atI ds i with
    | none => rw [q] at h; exact h.elim
    | some d' =>
      rw [q] at h
      obtain ⟨v, hv, rv⟩ := t.atI q
      have fin := okG.here h si rv
      rcases hs with hs | hs
      · exact .inl ⟨a, xs, i, v, rfl, ey, hs, hv, fin⟩
      · exact .inr (.inl ⟨a, xs, i, v, rfl, ey, hs, hv, fin⟩)
  cases r2 with
  | int i =>
    cases r1 with
    | str z =>
      obtain ⟨g, h⟩ := okG.guard h
      cases q : atI z.cps.toList i with
      | none => rw [q] at h; exact h.elim
      | some c =>
        rw [q] at h
        exact .inr (.inr ⟨z, i, c, rfl, rfl, sz_of g, q, okG.here h si (.str _)⟩)
    | _ => exact other rfl h
  | _ =>
    cases r1 <;> exact h.elim
theorem ed_item {kpos : Pos} (ha : ED X W ρ a ma) (hb : ED X W ρ b mb) (hs : PlainIx b := by exact fun _ _ => rfl) : ED X W ρ (.Subscript a b pos) (bin dItem ma mb) :=
  PE.imp (pe_ix ix_seq ha hb hs) fun σ H Q h => two opd_item h
/-- len -/
def f1 (f : D → M D) : List D → M D := ar1 f
theorem calld_len {K : PySem.W.Frag} {mg : Str → Option Value} : CallD K mg (fun xs H Q => ∃ x n, xs = [x] ∧ LenV K x H n ∧ Q (.int n) H) (ar1 dLen) := by
  intro W G0 H0 G H σ ρ S xs ds Q si r h
  cases r with
  | nil => exact h.elim
  | cons r1 t =>
    cases t with
    | cons _ _ => exact h.elim
    | nil =>
      rename_i v d
      have other : okG K mg W (RD K) G0 H0 G H σ ρ Q ((asSeq d).bind (fun ds => M.pure (.int ds.length)) S) → ∃ x n, [v] = [x] ∧ LenV K x H n ∧ Q (.int n) H := fun h => by
        obtain ⟨a, xs, ds, rfl, hs, zz, t, h⟩ := asSeq_ok si r1 h
        refine ⟨_, xs.length, rfl, ?_, ?_⟩
        · rcases hs with hs | hs
          · exact .inl ⟨xs, hs, rfl⟩
          · exact .inr ⟨xs, hs, rfl⟩
        · rw [t.length]
          exact okG.here h si (.int _)
      cases r1 with
      | str z =>
        obtain ⟨g, h⟩ := okG.guard h
        exact ⟨_, z.length, rfl, ⟨sz_of g, rfl⟩, okG.here h si (.int _)⟩
      | _ => exact other h
/-- int of an int or a truth -/
def dInt : D → M D
  | .int i => M.pure (.int i)
  | .bl k => M.pure (.int (if k then 1 else 0))
  | _ => M.bad
def dMax : D → D → M D
  | .int i, .int j => M.pure (.int (if j > i then j else i))
  | _, _ => M.bad
def dMin : D → D → M D
  | .int i, .int j => M.pure (.int (if j < i then j else i))
  | _, _ => M.bad
theorem calld_ii {K : PySem.W.Frag} {mg : Str → Option Value} {g : Int → Int → Int} {f : D → D → M D} (hf : ∀ i j, f (.int i) (.int j) = M.pure (.int (g i j))) (hb : ∀ d e S, (∃ i j, d = .int i ∧ e = .int j) ∨ f d e S = .bad) : CallD K mg (fun xs H Q => ∃ i j, xs = [.int i, .int j] ∧ Q (.int (g i j)) H) (ar2 f) := by
  intro W G0 H0 G H σ ρ S xs ds Q si r h
  cases r with
  | nil => exact h.elim
  | cons r1 t =>
    cases t with
    | nil => exact h.elim
    | cons r2 t =>
      cases t with
      | cons _ _ => exact h.elim
      | nil =>
        rename_i v d v' d'
        have h : okG K mg W (RD K) G0 H0 G H σ ρ Q (f d d' S) := h
        rcases hb d d' S with ⟨i, j, rfl, rfl⟩ | q
        · cases r1; cases r2
          rw [hf] at h
          exact ⟨i, j, rfl, okG.here h si (.int _)⟩
        · rw [q] at h
          exact h.elim
theorem calld_max {K : PySem.W.Frag} {mg : Str → Option Value} : CallD K mg (fun xs H Q => ∃ i j, xs = [.int i, .int j] ∧ Q (.int (if j > i then j else i)) H) (ar2 dMax) := calld_ii (fun _ _ => rfl) (fun d e S => by cases d <;> cases e <;> first | exact .inr rfl | exact .inl ⟨_, _, rfl, rfl⟩)
theorem calld_min {K : PySem.W.Frag} {mg : Str → Option Value} : CallD K mg (fun xs H Q => ∃ i j, xs = [.int i, .int j] ∧ Q (.int (if j < i then j else i)) H) (ar2 dMin) := calld_ii (fun _ _ => rfl) (fun d e S => by cases d <;> cases e <;> first | exact .inr rfl | exact .inl ⟨_, _, rfl, rfl⟩)
end
end Dl
namespace Dl
open PySem L2
/-! ### isinstance with built-in types -/
inductive Ty where
  | non | bool | int | str | list | tuple | dict
  deriving DecidableEq
def Ty.nm : Ty → String
  | .non => "NoneType" | .bool => "bool" | .int => "int" | .str => "str" | .list => "list" | .tuple => "tuple" | .dict => "dict"
def Ty.sub : Ty → Ty → Bool
  | .non, .non => true | .bool, .bool => true | .bool, .int => true | .int, .int => true | .str, .str => true | .list, .list => true | .tuple, .tuple => true | .dict, .dict => true
  | _, _ => false
theorem kit_nm (a b : Ty) (h : b ≠ .non) : kitB a.nm b.nm = some (a.sub b) := by
  cases a <;> cases b <;> first | exact absurd rfl h | decide +kernel
def D.ty? (S : MS) : D → Option Ty
  | .non => some .non
  | .bl _ => some .bool
  | .int _ => some .int
  | .str _ => some .str
  | .lst _ => some .list
  | .tup _ => some .tuple
  | .dic _ _ => some .dict
  | .obj _ _ _ _ => none
  | .ptr k => match S.cells[k]? with
    | some (.lst _) => some .list
    | some (.dic _) => some .dict
    | _ => none
  | .strm => some .list
def dIsi (ts : List Ty) (d : D) : M D := fun S => match d.ty? S with
  | some t => .ok (.bl (ts.any t.sub)) S
  | none => .bad
theorem tyx_of {K : PySem.W.Frag} {mg : Str → Option Value} {G : Gh} {H : Hp} {S : MS} {v : V} {d : D} {t : Ty} (w : Wf K mg G H S) (r : Rep K G H v d) (h : d.ty? S = some t) : TyX K H v (.type t.nm) := by
  cases r with
  | non => cases h; exact .base .non
  | bl b => cases h; exact .base (.bl b)
  | int b => cases h; exact .base (.int b)
  | str b => cases h; exact .base (.str b)
  | lst e _ _ _ => cases h; exact .base (.lst e)
  | tup e _ _ =>
    cases h
    rcases e with (e | ⟨o, e⟩) | e
    · exact .base (.tup e)
    · exact .fTuple e
    · obtain ⟨o, its, n, e, c, _⟩ := e
      exact .kTuple e c
  | dic e _ _ _ _ => cases h; exact .base (.dK e)
  | obj _ _ _ _ _ _ => cases h
  | strm => cases h; exact .base (.lst w.ha)
  | ptr e =>
    rename_i a k
    unfold D.ty? at h
    cases q : S.cells[k]? with
    | none => simp only [q] at h; cases h
    | some c =>
      have cr := w.cell k c a q e
      cases c with
      | lst ds =>
        simp only [q] at h; cases h
        obtain ⟨xs, hx, z, t⟩ := cr
        exact .base (.lst hx)
      | dic _ =>
        simp only [q] at h; cases h
        obtain ⟨xs, hx, z, t⟩ := cr
        exact .base (.dK hx)
      | ins _ _ => simp only [q] at h; cases h
      | out => simp only [q] at h; cases h
theorem kitAny_of {K : PySem.W.Frag} (t : Ty) : ∀ ts : List Ty, (∀ b ∈ ts, b ≠ .non) → PySem.W.kitAny K (.type t.nm) (ts.map fun b => .type b.nm) = some (ts.any t.sub)
  | [], _ => rfl
  | b :: ts, h => by
    have h1 : PySem.W.kitOne K (.type t.nm) (.type b.nm) = some (t.sub b) := kit_ty (kit_nm t b (h b List.mem_cons_self))
    rw [List.map_cons, List.any_cons]
    refine kitAny_cons h1 (fun q => ?_) (fun q => ?_)
    · rw [q, Bool.false_or]
      exact kitAny_of t ts fun c hc => h c (List.mem_cons_of_mem _ hc)
    · rw [q, Bool.true_or]
section
variable {X : Cx} {W : WX} {ρ : List Slot} {a b c e : Expr} {es : List Expr} {ma mb mc m : M D} {ms : List (M D)} {pos p p2 : Pos}
/-- a built-in type by its name -/
def TN (X : Cx) (T : Str) (t : Ty) : Prop := X.mg T = none ∧ bootBuiltins T = some (.type t.nm) ∧ Gl X T ∧ T ≠ "__name__" ∧ (T == ("__debug__" : Str)) = false ∧ t ≠ .non
/-- the names of built-in types in a row -/
inductive TNs (X : Cx) : List Expr → List Ty → Prop
  | nil : TNs X [] []
  | cons {T : Str} {t : Ty} {p : Pos} {es : List Expr} {ts : List Ty} : TN X T t → starEach (.Name T p :: es) X.env = (false, eval (.Name T p) X.env) :: starEach es X.env → TNs X es ts → TNs X (.Name T p :: es) (t :: ts)
theorem TNs.pa : ∀ {es : List Expr} {ts : List Ty}, TNs X es ts → PA X es (fun σ H Q => Q (ts.map fun t => V.ty t.nm) H)
  | _, _, .nil => PA.imp pa_nil fun σ H Q h => h
  | _, _, .cons h hs t => by
    obtain ⟨h1, h2, h3, h4, h5, h6⟩ := h
    exact PA.imp (pa_cons (pe_bltn (v := .ty _) h3 h1 h2 rfl h4 h5) (TNs.pa t) hs) fun σ H Q h => h
theorem TNs.no : ∀ {es : List Expr} {ts : List Ty}, TNs X es ts → ∀ b ∈ ts, b ≠ .non
  | _, _, .nil => fun b h => absurd h (by simp)
  | _, _, .cons h _ t => fun b hb => by
    rcases List.mem_cons.mp hb with e | k
    · rw [e]; exact h.2.2.2.2.2
    · exact TNs.no t b k
theorem paired_ty : ∀ ts : List Ty, Paired ClsV (ts.map fun t => V.ty t.nm) (ts.map fun t => Value.type t.nm)
  | [] => .nil
  | t :: ts => .cons (.ty _) (paired_ty ts)
/-! ### list(x), tuple(x), all(x) -/
def toList (m : M D) : M (List D) := m.bind fun d => (asSeq d).bind M.pure
def dTuple (d : D) : M D := (asSeq d).bind fun ds => M.pure (.tup ds)
theorem calld_tuple {K : PySem.W.Frag} {mg : Str → Option Value} : CallD K mg (fun xs H Q => ∃ p ys, xs = [.ref p] ∧ ((SqL K H p ys ∧ ∀ l, H l = none → Q (.ref l) (upd H l (.tup ys))) ∨ (SqT K H p ys ∧ Q (.ref p) H))) (ar1 dTuple) := by
  intro W G0 H0 G H σ ρ S xs ds Q si r h
  cases r with
  | nil => exact h.elim
  | cons r1 t =>
    cases t with
    | cons _ _ => exact h.elim
    | nil =>
      obtain ⟨a, xs, ds, rfl, hs, z, t, h⟩ := asSeq_ok si r1 h
      refine ⟨a, xs, rfl, ?_⟩
      rcases hs with hs | hs
      · exact .inl ⟨hs, fun l hl => okG.new h si hl (rep_tup hl z t)⟩
      · exact .inr ⟨hs, okG.here h si (.tup hs z t)⟩
def bools : List D → Option (List Bool)
  | [] => some []
  | .bl b :: ds => (bools ds).map (b :: ·)
  | _ => none
theorem bools_of {K : PySem.W.Frag} {G : Gh} {H : Hp} : ∀ {xs : List V} {ds : List D} {bs : List Bool}, Reps K G H xs ds → bools ds = some bs → xs = bs.map V.bl
  | _, _, _, .nil, e => by cases e; rfl
  | _, _, _, .cons r t, e => by
    cases r with
    | bl b =>
      rename_i vs ds
      cases q : bools ds with
      | none => unfold bools at e; rw [q] at e; cases e
      | some l =>
        unfold bools at e; rw [q] at e; cases e
        rw [bools_of t q]; rfl
    | _ => unfold bools at e; cases e
def dAll : D → M D
  | .lst ds => match bools ds with
    | some bs => M.pure (.bl (bs.all id))
    | none => M.bad
  | _ => M.bad
theorem calld_all {K : PySem.W.Frag} {mg : Str → Option Value} : CallD K mg (rAll K) (ar1 dAll) := by
  intro W G0 H0 G H σ ρ S xs ds Q si r h
  cases r with
  | nil => exact h.elim
  | cons r1 t =>
    cases t with
    | cons _ _ => exact h.elim
    | nil =>
      cases r1 with
      | lst e z n t =>
        rename_i a xs ds
        have h : okG K mg W (RD K) G0 H0 G H σ ρ Q (dAll (.lst ds) S) := h
        unfold dAll at h
        cases q : bools ds with
        | none => simp only [q] at h; exact h.elim
        | some bs =>
          simp only [q] at h
          exact ⟨a, bs, rfl, by rw [← bools_of t q]; exact SqL.of e, okG.here h si (.bl _)⟩
      | _ => exact h.elim
/-! ### slices of lists -/
def cutD (xs : List D) (lo hi : Option Int) : List D := (xs.drop (HT.sIx xs.length 0 lo)).take (HT.sIx xs.length xs.length hi - HT.sIx xs.length 0 lo)
def partM : Option (M D) → M (Option Int)
  | none => M.pure none
  | some m => m.bind fun d => match d with
    | .int i => M.pure (some i)
    | _ => M.bad
theorem PO.imp {X : Cx} {e : Option Expr} {t u : TO} (h : PO X e t) (k : ∀ σ H Q, u σ H Q → t σ H Q) : PO X e u := ⟨fun pins s σ H Q I q => h.run pins s σ H Q I (k σ H Q q)⟩
/-- xs[lo:hi], a new list -/
def cutM (m : M D) (lo hi : M (Option Int)) : M (List D) := m.bind fun d => lo.bind fun l => hi.bind fun u => (asLst d).bind fun ds => M.pure (cutD ds l u)
end
end Dl
namespace Dl
open PySem L2
/-! ### statements -/
/-- how a block ends: behind it (with what it leaves), by return, break, continue -/
inductive Fl (C L : Type) where
  | nx (c : C) | ret (d : D) | brk (l : L) | cnt (l : L)
/-- what is known behind a block, at an error, at break and continue -/
structure Ct (C L : Type) where
  W : WX
  x : List Slot
  emb : C → List Slot
  embL : L → List Slot
  R : Hp → Gh → Hp → V → D → Prop
/-- forgetting what slots hold -/
inductive Wk : List Slot → List Slot → Prop
  | nil : Wk [] []
  | same {s : Slot} {a b : List Slot} : Wk a b → Wk (s :: a) (s :: b)
  | any {s : Slot} {a b : List Slot} : Wk a b → Wk (s :: a) (.any :: b)
theorem wk_any : ∀ ρ : List Slot, Wk ρ (List.replicate ρ.length .any)
  | [] => .nil
  | s :: ρ => .any (wk_any ρ)
theorem wk_refl : ∀ ρ : List Slot, Wk ρ ρ
  | [] => .nil
  | s :: ρ => .same (wk_refl ρ)
theorem wk_set : ∀ (ρ : List Slot) (i : Nat), Wk ρ (ρ.set i .any)
  | [], _ => .nil
  | s :: ρ, 0 => .any (wk_refl ρ)
  | s :: ρ, i + 1 => .same (wk_set ρ i)
theorem Wk.len : ∀ {a b : List Slot}, Wk a b → a.length = b.length
  | _, _, .nil => rfl
  | _, _, .same t => by rw [List.length_cons, List.length_cons, Wk.len t]
  | _, _, .any t => by rw [List.length_cons, List.length_cons, Wk.len t]
theorem Wk.get : ∀ {a b : List Slot} {i : Nat} {s : Slot}, Wk a b → b[i]? = some s → s = .any ∨ a[i]? = some s
  | _, _, _, _, .nil, h => by simp at h
  | _, _, 0, _, .same _, h => .inr h
  | _, _, 0, _, .any _, h => by simp at h; exact .inl h.symm
  | _, _, i + 1, _, .same t, h => by
    rcases Wk.get (i := i) t (by simpa using h) with q | q
    · exact .inl q
    · exact .inr (by simpa using q)
  | _, _, i + 1, _, .any t, h => by
    rcases Wk.get (i := i) t (by simpa using h) with q | q
    · exact .inl q
    · exact .inr (by simpa using q)
theorem Wk.trans : ∀ {a b c : List Slot}, Wk a b → Wk b c → Wk a c
  | _, _, _, .nil, .nil => .nil
  | _, _, _, .same s, .same t => .same (Wk.trans s t)
  | _, _, _, .same s, .any t => .any (Wk.trans s t)
  | _, _, _, .any s, .same t => .any (Wk.trans s t)
  | _, _, _, .any s, .any t => .any (Wk.trans s t)
section
variable {K : PySem.W.Frag} {mg : Str → Option Value} {G G0 G1 : Gh} {H H0 H1 : Hp} {S : MS} {σ : L2.St} {ρ ρ' : List Slot} {p : Addr} {o : HO}
theorem SI.weak (s : SI K mg G0 H0 G H σ ρ S) (w : Wk ρ ρ') : SI K mg G0 H0 G H σ ρ' S where
  fr := s.fr
  live0 := s.live0
  wf := s.wf
  len := s.len.trans w.len
  env := fun i x h => by
    rcases w.get h with q | q
    · subst q; trivial
    · exact s.env i x q
  apart := fun i j ds es l n h1 h2 => by
    rcases w.get h1 with q | q
    · cases q
    · rcases w.get h2 with q' | q'
      · cases q'
      · exact s.apart i j ds es l n q q'
theorem SI.set (s : SI K mg G0 H0 G H σ ρ S) {v : V} {d : D} (i : Nat) (r : Rep K G H v d) : SI K mg G0 H0 G H (σ.set i (some v)) (ρ.set i (.val d)) S where
  fr := s.fr
  live0 := s.live0
  wf := s.wf
  len := by rw [List.length_set, List.length_set]; exact s.len
  env := fun j x h => by
    by_cases e : i = j
    · subst e
      by_cases hl : i < ρ.length
      · rw [List.getElem?_set_self hl] at h
        cases h
        exact ⟨v, List.getElem?_set_self (by rw [s.len]; exact hl), r⟩
      · rw [List.getElem?_eq_none (by rw [List.length_set]; omega)] at h
        cases h
    · rw [List.getElem?_set_ne e] at h ⊢
      exact s.env j x h
  apart := fun a b ds es l n h1 h2 h3 => by
    have ne : ∀ {c : Nat} {fs : List D}, (ρ.set i (.val d))[c]? = some (.own fs) → i ≠ c ∧ ρ[c]? = some (.own fs) := fun {c fs} h => by
      by_cases e : i = c
      · subst e
        by_cases hl : i < ρ.length
        · rw [List.getElem?_set_self hl] at h; cases h
        · rw [List.getElem?_eq_none (by rw [List.length_set]; omega)] at h; cases h
      · rw [List.getElem?_set_ne e] at h
        exact ⟨e, h⟩
    obtain ⟨n1, q1⟩ := ne h1
    obtain ⟨n2, q2⟩ := ne h2
    rw [List.getElem?_set_ne n1] at h3
    rw [List.getElem?_set_ne n2]
    exact s.apart a b ds es l n q1 q2 h3
/-- a new list becomes a frame's own -/
theorem SI.setOwn (s : SI K mg G0 H0 G H σ ρ S) {l : Addr} {xs : List V} {ds : List D} (i : Nat) (hl : H l = some (.lst xs)) (z : xs.length ≤ sizeLine) (ho : G.O l) (hc : ¬ G.cell l) (h0 : H0 l = none) (r : Reps K G H xs ds)
    (fresh : ∀ (j : Nat) (fs : List D), i ≠ j → ρ[j]? = some (.own fs) → σ[j]? ≠ some (some (.ref l))) :
    SI K mg G0 H0 G H (σ.set i (some (.ref l))) (ρ.set i (.own ds)) S where
  fr := s.fr
  live0 := s.live0
  wf := s.wf
  len := by rw [List.length_set, List.length_set]; exact s.len
  env := fun j x h => by
    by_cases e : i = j
    · subst e
      by_cases hi : i < ρ.length
      · rw [List.getElem?_set_self hi] at h
        cases h
        exact ⟨l, xs, List.getElem?_set_self (by rw [s.len]; exact hi), hl, z, r, ho, hc, h0⟩
      · rw [List.getElem?_eq_none (by rw [List.length_set]; omega)] at h
        cases h
    · rw [List.getElem?_set_ne e] at h ⊢
      exact s.env j x h
  apart := fun a b ds' es l' n' h1 h2 h3 => by
    have cs : ∀ {c : Nat} {fs : List D}, (ρ.set i (.own ds))[c]? = some (.own fs) → i = c ∨ (i ≠ c ∧ ρ[c]? = some (.own fs)) := fun {c fs} h => by
      by_cases e : i = c
      · exact .inl e
      · rw [List.getElem?_set_ne e] at h
        exact .inr ⟨e, h⟩
    have hs : ∀ {c : Nat}, i = c → (σ.set i (some (.ref l)))[c]? = some (some (.ref l')) → l = l' := fun {c} e h => by
      subst e
      by_cases hi : i < σ.length
      · rw [List.getElem?_set_self hi] at h
        cases h; rfl
      · rw [List.getElem?_eq_none (by rw [List.length_set]; omega)] at h
        cases h
    rcases cs h1 with e1 | ⟨n1, q1⟩
    · rcases cs h2 with e2 | ⟨n2, q2⟩
      · exact absurd (e1.symm.trans e2) n'
      · have := hs e1 h3
        subst this
        rw [List.getElem?_set_ne n2]
        exact fresh b es n2 q2
    · rw [List.getElem?_set_ne n1] at h3
      rcases cs h2 with e2 | ⟨n2, q2⟩
      · intro h4
        have := hs e2 h4
        subst this
        exact fresh a ds' n1 q1 h3
      · rw [List.getElem?_set_ne n2]
        exact s.apart a b ds' es l' n' q1 q2 h3
end
section
variable (K : PySem.W.Frag) (mg : Str → Option Value) {C L : Type} (k : Ct C L)
def okS (G0 : Gh) (H0 : Hp) (G1 : Gh) (H1 : Hp) (D : Ends) : Res (Fl C L) → Prop
  | .ok (.nx c) S => ∀ σ G H, SI K mg G0 H0 G H σ (k.emb c) S → LR G1 H1 G H → D.nx σ H
  | .ok (.ret d) S => ∀ v G H, FR G0 H0 G H → Wf K mg G H S → k.R H0 G H v d → D.rt v H
  | .ok (.brk l) S => ∀ σ G H, SI K mg G0 H0 G H σ (k.embL l) S → LR G1 H1 G H → D.bk σ H
  | .ok (.cnt l) S => ∀ σ G H, SI K mg G0 H0 G H σ (k.embL l) S → LR G1 H1 G H → D.ct σ H
  | .err e S => ∀ cls da σ G H, SI K mg G0 H0 G H σ k.x S → LR G1 H1 G H → ErrRep K mg G H e cls da → k.W cls da σ H
  | .bad => False
def tS (ρ : List Slot) (m : M (Fl C L)) : TS := fun D σ H => ∃ G0 H0 G S, SI K mg G0 H0 G H σ ρ S ∧ okS K mg k G0 H0 G H D (m S)
end
def SD (X : Cx) {C L : Type} (k : Ct C L) (ρ : List Slot) (sts : List Stmt) (m : M (Fl C L)) : Prop := PSs X sts (tS X.K X.mg k ρ m)
theorem okS.from {K : PySem.W.Frag} {mg : Str → Option Value} {C L : Type} {k : Ct C L} {G0 G G1 : Gh} {H0 H H1 : Hp} {D : Ends} {r : Res (Fl C L)} (h : okS K mg k G0 H0 G H D r) (f : LR G H G1 H1) : okS K mg k G0 H0 G1 H1 D r := by
  cases r with
  | ok z S =>
    cases z with
    | nx c => exact fun σ G H s r => h σ G H s (f.trans r)
    | ret d => exact h
    | brk l => exact fun σ G H s r => h σ G H s (f.trans r)
    | cnt l => exact fun σ G H s r => h σ G H s (f.trans r)
  | err e S => exact fun cls da σ G H s r => h cls da σ G H s (f.trans r)
  | bad => exact h
/-- behind an expression in a statement -/
theorem okS.bind {K : PySem.W.Frag} {mg : Str → Option Value} {C L : Type} {k : Ct C L} {α β : Type} {R : Gh → Hp → β → α → Prop} {G0 G : Gh} {H0 H : Hp} {D : Ends} {σ : L2.St} {ρ : List Slot} {Q : β → Hp → Prop} {S : MS} {m : M α} {f : α → M (Fl C L)}
    (h : okS K mg k G0 H0 G H D (m.bind f S)) (w : Wk ρ k.x)
    (q : ∀ G1 H1 S1 b a, SI K mg G0 H0 G1 H1 σ ρ S1 → R G1 H1 b a → okS K mg k G0 H0 G1 H1 D (f a S1) → Q b H1) : okG K mg k.W R G0 H0 G H σ ρ Q (m S) := by
  unfold M.bind at h
  cases e : m S with
  | ok a S1 =>
    rw [e] at h
    exact fun b G' H' s r z => q G' H' S1 b a s z (okS.from h r.lr)
  | err x S1 =>
    rw [e] at h
    exact fun cls da G' H' s f r => h cls da σ G' H' (s.weak w) f.lr r
  | bad => rw [e] at h; exact h
theorem okS.bind2 {K : PySem.W.Frag} {mg : Str → Option Value} {C L : Type} {k : Ct C L} {α β : Type} {R : Gh → Hp → β → α → Prop} {G0 G : Gh} {H0 H : Hp} {D : Ends} {σ : L2.St} {ρ : List Slot} {Q : β → Hp → Prop} {S : MS} {m : M α} {f : α → M (Fl C L)}
    (h : okS K mg k G0 H0 G H D (m.bind f S)) (w : Wk ρ k.x)
    (q : ∀ G1 H1 S1 b a, SI K mg G0 H0 G1 H1 σ ρ S1 → FR G H G1 H1 → R G1 H1 b a → okS K mg k G0 H0 G1 H1 D (f a S1) → Q b H1) : okG K mg k.W R G0 H0 G H σ ρ Q (m S) := by
  unfold M.bind at h
  cases e : m S with
  | ok a S1 =>
    rw [e] at h
    exact fun b G' H' s r z => q G' H' S1 b a s r z (okS.from h r.lr)
  | err x S1 =>
    rw [e] at h
    exact fun cls da G' H' s f r => h cls da σ G' H' (s.weak w) f.lr r
  | bad => rw [e] at h; exact h
theorem okS.bindN {K : PySem.W.Frag} {mg : Str → Option Value} {C L : Type} {k : Ct C L} {G0 G : Gh} {H0 H : Hp} {E : Ends} {σ : L2.St} {ρ : List Slot} {Q : VK} {S : MS} {m : M (List D)} {f : List D → M (Fl C L)}
    (h : okS K mg k G0 H0 G H E (m.bind f S)) (w : Wk ρ k.x)
    (q : ∀ l xs G1 H1 S1 ds, SI K mg G0 H0 G1 H1 σ ρ S1 → FR G H G1 H1 → H l = none → H1 l = some (.lst xs) → xs.length ≤ sizeLine → G1.O l → ¬ G1.cell l → Reps K G1 H1 xs ds → okS K mg k G0 H0 G1 H1 E (f ds S1) → Q (.ref l) H1) : okN K mg k.W G0 H0 G H σ ρ Q (m S) := by
  unfold M.bind at h
  cases e : m S with
  | ok a S1 =>
    rw [e] at h
    exact fun l xs G' H' s r n hl z ho hc t => q l xs G' H' S1 a s r n hl z ho hc t (okS.from h r.lr)
  | err x S1 =>
    rw [e] at h
    exact fun cls da G' H' s f r => h cls da σ G' H' (s.weak w) f.lr r
  | bad => rw [e] at h; exact h
/-! ### the statements' rules -/
section
variable {X : Cx} {C L : Type} {k : Ct C L} {ρ : List Slot} {a b c e : Expr} {es : List Expr} {m : M D} {pos p : Pos} {rest sts : List Stmt}
/-- the end of a block -/
theorem sd_nil {c : C} (w : Wk ρ (k.emb c)) : SD X k ρ [] (M.pure (.nx c)) := PSs.imp pss_nil fun D σ H ⟨G0, H0, G, S, si, h⟩ => h σ G H (si.weak w) (.refl G H)
theorem sd_bad : SD X k ρ sts M.bad := ⟨fun _ _ _ _ _ _ h => by
  obtain ⟨_, _, _, _, _, h⟩ := h
  exact h.elim⟩
def retM {C L : Type} (m : M D) : M (Fl C L) := m.bind fun d => M.pure (.ret d)
theorem sd_ret (w : Wk ρ k.x) (he : ED X k.W ρ e m) (hR : ∀ H0 G H v d, Rep X.K G H v d → k.R H0 G H v d := by exact fun _ _ _ _ _ h => h) : SD X k ρ (.Return (some e) pos :: rest) (retM m) :=
  PSs.imp (pss_cons (ps_ret he) pss_never) fun D σ H ⟨G0, H0, G, S, si, h⟩ => ⟨G0, H0, G, S, si, okS.bind h w fun G1 H1 S1 v d s1 r1 h1 => h1 v G1 H1 s1.fr s1.wf (hR _ _ _ _ _ r1)⟩
theorem sd_cnt {l : L} (w : Wk ρ (k.embL l)) : SD X k ρ (.Continue pos :: rest) (M.pure (.cnt l)) := PSs.imp (pss_cons ps_continue pss_never) fun D σ H ⟨G0, H0, G, S, si, h⟩ => h σ G H (si.weak w) (.refl G H)
/-- x = e -/
theorem sd_set (i : Nat) {x : Str} {f : D → M (Fl C L)} (w : Wk ρ k.x) (hN : X.N.Nodup) (he : ED X k.W ρ e m) (hr : ∀ d, SD X k (ρ.set i (.val d)) rest (f d)) (hi : X.N[i]? = some x := by rfl) (hx : Loc X.env.scope x := by first | exact Or.inl rfl | exact Or.inr rfl)
    (hs : swapsWith e (some (.Name x p)) pos.line X.env = pure false := by rfl) (hf : X.fn x = true ∨ X.env.scope.names.lookup x = some .local := by first | exact .inl rfl | exact .inr rfl) :
    SD X k ρ (.Assign [.Name x p] e pos :: rest) (m.bind f) := by
  let u : TS := fun D σ H => ∃ d, tS X.K X.mg k (ρ.set i (.val d)) (f d) D σ H
  have hu : PSs X rest u := ⟨fun pins s σ H D I ⟨d, q⟩ => (hr d).run pins s σ H D I q⟩
  refine PSs.imp (pss_cons (ps_set hN hi hx he hs hf) hu) fun D σ H ⟨G0, H0, G, S, si, h⟩ => ⟨G0, H0, G, S, si, okS.bind h w fun G1 H1 S1 v d s1 r1 h1 => ?_⟩
  exact ⟨d, G0, H0, G1, S1, s1.set i r1, h1⟩
/-- x = a new list, of which more is to come -/
theorem sd_own (i : Nat) {x : Str} {mn : M (List D)} {f : List D → M (Fl C L)} (w : Wk ρ k.x) (hN : X.N.Nodup) (he : EN X k.W ρ e mn) (hr : ∀ d, SD X k (ρ.set i (.own d)) rest (f d)) (hi : X.N[i]? = some x := by rfl) (hx : Loc X.env.scope x := by first | exact Or.inl rfl | exact Or.inr rfl)
    (hs : swapsWith e (some (.Name x p)) pos.line X.env = pure false := by rfl) (hf : X.fn x = true ∨ X.env.scope.names.lookup x = some .local := by first | exact .inl rfl | exact .inr rfl) :
    SD X k ρ (.Assign [.Name x p] e pos :: rest) (mn.bind f) := by
  let u : TS := fun D σ H => ∃ d, tS X.K X.mg k (ρ.set i (.own d)) (f d) D σ H
  have hu : PSs X rest u := ⟨fun pins s σ H D I ⟨d, q⟩ => (hr d).run pins s σ H D I q⟩
  refine PSs.imp (pss_cons (ps_set hN hi hx he hs hf) hu) fun D σ H ⟨G0, H0, G, S, si, h⟩ => ⟨G0, H0, G, S, si, okS.bindN h w fun l xs G1 H1 S1 ds s1 f1 n hl z ho hc t h1 => ?_⟩
  exact ⟨ds, G0, H0, G1, S1, s1.setOwn i hl z ho hc (si.fr.free n) t fun j fs _ e => si.owns n j fs e, h1⟩
/-- what is built is done -/
theorem sd_frz (i : Nat) {ds : List D} {m : M (Fl C L)} (h : SD X k (ρ.set i (.val (.lst ds))) sts m) (hρ : ρ[i]? = some (.own ds) := by rfl) : SD X k ρ sts m := PSs.imp h fun D σ H ⟨G0, H0, G, S, si, h⟩ => by
  obtain ⟨l, xs, e, hl, z, t, ho, hc, h0⟩ := si.env i _ hρ
  have hi : i < ρ.length := (List.getElem?_eq_some_iff.mp hρ).1
  have s1 : SI X.K X.mg G0 H0 G H σ (ρ.set i .any) S := si.weak (wk_set ρ i)
  have s2 : SI X.K X.mg G0 H0 (G.let l) H σ (ρ.set i .any) S := s1.let h0 fun j es ej q => by
    by_cases q' : i = j
    · subst q'
      rw [List.getElem?_set_self hi] at ej; cases ej
    · rw [List.getElem?_set_ne q'] at ej
      exact si.apart i j ds es l q' hρ ej e q
  have s3 := s2.set (v := .ref l) (d := .lst ds) i (.lst hl z (fun q => q.elim hc fun y => y.1 rfl) t.let)
  have e1 : σ.set i (some (.ref l)) = σ := by
    apply List.ext_getElem?
    intro j
    by_cases q : i = j
    · subst q
      rw [List.getElem?_set_self (by rw [si.len]; exact hi), e]
    · rw [List.getElem?_set_ne q]
  rw [e1, List.set_set] at s3
  exact ⟨G0, H0, G.let l, S, s3, okS.from h LR.let⟩
/-- an expression alone -/
theorem sd_expr {mr : M (Fl C L)} (w : Wk ρ k.x) (he : ED X k.W ρ e m) (hr : SD X k ρ rest mr) (hs : swapsWith e none pos.line X.env = pure false := by rfl) : SD X k ρ (.Expr e pos :: rest) (m.bind fun _ => mr) :=
  PSs.imp (pss_cons (ps_expr he hs) hr) fun D σ H ⟨G0, H0, G, S, si, h⟩ => ⟨G0, H0, G, S, si, okS.bind h w fun G1 H1 S1 v d s1 r1 h1 => ⟨G0, H0, G1, S1, s1, h1⟩⟩
/-- if, each way with what follows -/
theorem sd_if {tc : M Bool} {ma mb : M (Fl C L)} {sa sb : List Stmt} (w : Wk ρ k.x) (hc : ET X k.W ρ c tc) (ha : SD X k ρ sa ma) (hb : SD X k ρ sb mb) : SD X k ρ [.If c sa sb pos] (ifM tc ma mb) :=
  PSs.imp (pss_one (ps_if hc ha hb)) fun D σ H ⟨G0, H0, G, S, si, h⟩ => ⟨G0, H0, G, S, si, okS.bind h w fun G1 H1 S1 v d s1 r1 h1 => by
    cases r1
    cases v with
    | true => exact ⟨G0, H0, G1, S1, s1, h1⟩
    | false => exact ⟨G0, H0, G1, S1, s1, h1⟩⟩
/-- a way that never goes on behind the if -/
def outM {C L : Type} (m : M (Fl Empty L)) : M (Fl C L) := m.bind fun f => match f with
  | .ret d => M.pure (.ret d)
  | .brk l => M.pure (.brk l)
  | .cnt l => M.pure (.cnt l)
  | .nx c => c.elim
def Ct.no {C L : Type} (k : Ct C L) : Ct Empty L := ⟨k.W, k.x, fun c => c.elim, k.embL, k.R⟩
theorem okS.out {K : PySem.W.Frag} {mg : Str → Option Value} {G0 : Gh} {H0 : Hp} {D D' : Ends} {S : MS} {m : M (Fl Empty L)} {G1 : Gh} {H1 : Hp} (h : okS K mg k G0 H0 G1 H1 D (outM m S)) (e1 : D'.rt = D.rt) (e2 : D'.bk = D.bk) (e3 : D'.ct = D.ct) : okS K mg k.no G0 H0 G1 H1 D' (m S) := by
  unfold outM M.bind at h
  cases q : m S with
  | ok f S1 =>
    rw [q] at h
    cases f with
    | nx c => exact c.elim
    | ret d => intro v G H; rw [e1]; exact h v G H
    | brk l => intro σ G H; rw [e2]; exact h σ G H
    | cnt l => intro σ G H; rw [e3]; exact h σ G H
  | err x S1 => rw [q] at h; exact h
  | bad => rw [q] at h; exact h
theorem sd_ifR {tc : M Bool} {ma : M (Fl Empty L)} {mr : M (Fl C L)} {sa : List Stmt} (w : Wk ρ k.x) (hc : ET X k.W ρ c tc) (ha : SD X k.no ρ sa ma) (hr : SD X k ρ rest mr) : SD X k ρ (.If c sa [] pos :: rest) (ifM tc (outM ma) mr) :=
  PSs.imp (pss_cons (ps_if hc ha pss_nil) hr) fun D σ H ⟨G0, H0, G, S, si, h⟩ => ⟨G0, H0, G, S, si, okS.bind h w fun G1 H1 S1 v d s1 r1 h1 => by
    cases r1
    cases v with
    | true => exact ⟨G0, H0, G1, S1, s1, h1.out rfl rfl rfl⟩
    | false => exact ⟨G0, H0, G1, S1, s1, h1⟩⟩
/-- a block, then what follows it -/
def thenM {J C L : Type} (m : M (Fl J L)) (f : J → M (Fl C L)) : M (Fl C L) := m.bind fun z => match z with
  | .nx c => f c
  | .ret d => M.pure (.ret d)
  | .brk l => M.pure (.brk l)
  | .cnt l => M.pure (.cnt l)
def Ct.to {C L J : Type} (k : Ct C L) (emb : J → List Slot) : Ct J L := ⟨k.W, k.x, emb, k.embL, k.R⟩
theorem okS.then {K : PySem.W.Frag} {mg : Str → Option Value} {G0 : Gh} {H0 : Hp} {D D' : Ends} {S : MS} {J : Type} {emb : J → List Slot} {m : M (Fl J L)} {f : J → M (Fl C L)} {G1 : Gh} {H1 : Hp} (h : okS K mg k G0 H0 G1 H1 D (thenM m f S)) (e0 : ∀ c S1 σ G H, SI K mg G0 H0 G H σ (emb c) S1 → LR G1 H1 G H → okS K mg k G0 H0 G H D (f c S1) → D'.nx σ H)
    (e1 : D'.rt = D.rt) (e2 : D'.bk = D.bk) (e3 : D'.ct = D.ct) : okS K mg (k.to emb) G0 H0 G1 H1 D' (m S) := by
  unfold thenM M.bind at h
  cases q : m S with
  | ok f S1 =>
    rw [q] at h
    cases f with
    | nx c => intro σ G H si lr; exact e0 c S1 σ G H si lr (okS.from h lr)
    | ret d => intro v G H; rw [e1]; exact h v G H
    | brk l => intro σ G H; rw [e2]; exact h σ G H
    | cnt l => intro σ G H; rw [e3]; exact h σ G H
  | err x S1 => rw [q] at h; exact h
  | bad => rw [q] at h; exact h
theorem sd_ifJ {J : Type} (emb : J → List Slot) {tc : M Bool} {ma mb : M (Fl J L)} {f : J → M (Fl C L)} {sa sb : List Stmt} (w : Wk ρ k.x) (hc : ET X k.W ρ c tc) (ha : SD X (k.to emb) ρ sa ma) (hb : SD X (k.to emb) ρ sb mb) (hr : ∀ c, SD X k (emb c) rest (f c)) :
    SD X k ρ (.If c sa sb pos :: rest) (thenM (ifM tc ma mb) f) := by
  let u : TS := fun D σ H => ∃ c, tS X.K X.mg k (emb c) (f c) D σ H
  have hu : PSs X rest u := ⟨fun pins s σ H D I ⟨d, q⟩ => (hr d).run pins s σ H D I q⟩
  refine PSs.imp (pss_cons (ps_if hc ha hb) hu) fun D σ H ⟨G0, H0, G, S, si, h⟩ => ?_
  have h' : okS X.K X.mg (k.to emb) G0 H0 G H { D with nx := u D } (ifM tc ma mb S) := okS.then h (fun c S1 σ G H si _ h => ⟨c, G0, H0, G, S1, si, h⟩) rfl rfl rfl
  exact ⟨G0, H0, G, S, si, okS.bind (k := k.to emb) h' w fun G1 H1 S1 v d s1 r1 h1 => by
    cases r1
    cases v with
    | true => exact ⟨G0, H0, G1, S1, s1, h1⟩
    | false => exact ⟨G0, H0, G1, S1, s1, h1⟩⟩
end
end Dl
namespace Dl
open PySem L2
/-! ### what is walked -/
/-- J gives the items ds, one by one, as long as what does not change stands -/
def IsW (K : PySem.W.Frag) (J : It) (ds : List D) (G : Gh) (H : Hp) : Prop := ∃ (Gd : Hp → Prop) (Y : Nat → Hp → V → Hp → Prop), Walk J ds.length Gd Y ∧ (∀ G1 H1, LR G H G1 H1 → Gd H1) ∧
  ∀ i G1 H1 x H2, i < ds.length → LR G H G1 H1 → Y i H1 x H2 → (H2 = H1 ∨ ∃ p o, H1 p = none ∧ H2 = upd H1 p o) ∧ ∃ d, ds[i]? = some d ∧ Rep K G1 H2 x d
section
variable (K : PySem.W.Frag) (mg : Str → Option Value) (W : WX)
def okI (G0 : Gh) (H0 : Hp) (G : Gh) (H : Hp) (σ : L2.St) (ρ : List Slot) (R : It → Hp → Prop) : Res (List D) → Prop
  | .ok ds S => ∀ J G' H', SI K mg G0 H0 G' H' σ ρ S → FR G H G' H' → IsW K J ds G' H' → R J H'
  | .err e S => ∀ cls da G' H', SI K mg G0 H0 G' H' σ ρ S → FR G H G' H' → ErrRep K mg G' H' e cls da → W cls da σ H'
  | .bad => False
def tI (ρ : List Slot) (m : M (List D)) : TI := fun σ H R => ∃ G0 H0 G S, SI K mg G0 H0 G H σ ρ S ∧ okI K mg W G0 H0 G H σ ρ R (m S)
end
def ID (X : Cx) (W : WX) (ρ : List Slot) (tg iter : Expr) (m : M (List D)) : Prop := PI X tg iter (tI X.K X.mg W ρ m)
theorem PI.imp {X : Cx} {tg it : Expr} {t u : TI} (h : PI X tg it t) (k : ∀ σ H R, u σ H R → t σ H R) : PI X tg it u := ⟨fun pins s σ H R I q => h.run pins s σ H R I (k σ H R q)⟩
section
variable {K : PySem.W.Frag} {mg : Str → Option Value} {W : WX} {α β : Type} {R : Gh → Hp → β → α → Prop} {G0 G G1 : Gh} {H0 H H1 : Hp} {σ : L2.St} {ρ : List Slot} {Q : β → Hp → Prop} {Q' : It → Hp → Prop} {S : MS}
theorem okI.from {r : Res (List D)} (h : okI K mg W G0 H0 G H σ ρ Q' r) (f : FR G H G1 H1) : okI K mg W G0 H0 G1 H1 σ ρ Q' r := by
  cases r with
  | ok a S => exact fun J G' H' s r q => h J G' H' s (f.trans r) q
  | err e S => exact fun cls da G' H' s r => h cls da G' H' s (f.trans r)
  | bad => exact h
theorem okI.bind {m : M α} {f : α → M (List D)} (h : okI K mg W G0 H0 G H σ ρ Q' (m.bind f S))
    (k : ∀ G1 H1 S1 b a, SI K mg G0 H0 G1 H1 σ ρ S1 → FR G H G1 H1 → R G1 H1 b a → okI K mg W G0 H0 G1 H1 σ ρ Q' (f a S1) → Q b H1) : okG K mg W R G0 H0 G H σ ρ Q (m S) := by
  unfold M.bind at h
  cases e : m S with
  | ok a S1 =>
    rw [e] at h
    exact fun b G' H' s r q => k G' H' S1 b a s r q (okI.from h r)
  | err x S1 => rw [e] at h; exact h
  | bad => rw [e] at h; exact h
theorem okI.here {J : It} {ds : List D} (h : okI K mg W G0 H0 G H σ ρ Q' (.ok ds S)) (s : SI K mg G0 H0 G H σ ρ S) (w : IsW K J ds G H) : Q' J H := h J G H s (.refl G H) w
theorem isW_list {a : Addr} {xs : List V} {ds : List D} (h : H a = some (.lst xs)) (n : ¬ G.mu a) (t : Reps K G H xs ds) : IsW K (Itl K a) ds G H := by
  refine ⟨fun H => SqL K H a xs, YAt xs, by rw [← t.length]; exact walk_list, fun G1 H1 r => SqL.of (r.keep _ _ h (.inl n)), fun i G1 H1 x H2 _ r y => ?_⟩
  obtain ⟨e, q⟩ := y
  subst e
  obtain ⟨d, hd, rd⟩ := (t.lr r).getV q
  exact ⟨.inl rfl, d, hd, rd⟩
theorem isW_tup {a : Addr} {xs : List V} {ds : List D} (h : SqT K H a xs) (t : Reps K G H xs ds) : IsW K (Itt K a) ds G H := by
  refine ⟨fun H => SqT K H a xs, YAt xs, by rw [← t.length]; exact walk_tup, fun G1 H1 r => r.sqT h, fun i G1 H1 x H2 _ r y => ?_⟩
  obtain ⟨e, q⟩ := y
  subst e
  obtain ⟨d, hd, rd⟩ := (t.lr r).getV q
  exact ⟨.inl rfl, d, hd, rd⟩
theorem isW_fn {J : It} {n : Nat} {f : Nat → V} {g : Nat → D} (w : Walk J n (fun _ => True) (YFn f)) (h : ∀ i G H, Rep K G H (f i) (g i)) : IsW K J ((List.range n).map g) G H := by
  refine ⟨fun _ => True, YFn f, by rw [List.length_map, List.length_range]; exact w, fun _ _ _ => trivial, fun i G1 H1 x H2 hi r y => ?_⟩
  obtain ⟨e, q⟩ := y
  subst e q
  rw [List.length_map, List.length_range] at hi
  exact ⟨.inl rfl, g i, by rw [List.getElem?_map, List.getElem?_range hi]; rfl, h i _ _⟩
/-- pairs that are made on the way -/
theorem isW_pair {J : It} {n : Nat} {Gd : Hp → Prop} {xs ys : Nat → Option V} {ds es : List D} (w : Walk J n Gd (YPair xs ys)) (hG : ∀ G1 H1, LR G H G1 H1 → Gd H1) (hn : (ds.zip es).length = n)
    (hx : ∀ i x G1 H1, LR G H G1 H1 → i < n → xs i = some x → ∃ d, ds[i]? = some d ∧ Rep K G1 H1 x d) (hy : ∀ i x G1 H1, LR G H G1 H1 → i < n → ys i = some x → ∃ d, es[i]? = some d ∧ Rep K G1 H1 x d) :
    IsW K J ((ds.zip es).map fun p => .tup [p.1, p.2]) G H := by
  refine ⟨Gd, YPair xs ys, by rw [List.length_map, hn]; exact w, hG, fun i G1 H1 v H2 hi r y => ?_⟩
  rw [List.length_map, hn] at hi
  obtain ⟨T, x, z, e1, e2, e3, e4, e5⟩ := y
  subst e1 e3
  obtain ⟨d, hd, rd⟩ := hx i x G1 H1 r hi e4
  obtain ⟨e, he, re⟩ := hy i z G1 H1 r hi e5
  refine ⟨.inr ⟨T, _, e2, rfl⟩, .tup [d, e], ?_, rep_tup e2 (by show 2 ≤ sizeLine; rw [sizeLine_eq]; decide) (.cons rd (.cons re .nil))⟩
  rw [List.getElem?_map, show (ds.zip es)[i]? = some (d, e) from List.getElem?_zip_eq_some.mpr ⟨hd, he⟩]
  rfl
end
section
variable {X : Cx} {W : WX} {ρ : List Slot} {a b c e tg : Expr} {es : List Expr} {ma mb mc m : M D} {ms : List (M D)} {pos p p2 : Pos}
/-- a list or a tuple -/
def iSeq (K : PySem.W.Frag) (tl : TE) : TI := fun σ H R => tl σ H fun x H1 => ∃ a, x = .ref a ∧ (((∃ xs, SqL K H1 a xs) ∧ R (Itl K a) H1) ∨ ((∃ xs, SqT K H1 a xs) ∧ R (Itt K a) H1))
theorem pi_seq {l : Expr} {tl : TE} (hl : PE X l tl) : PI X tg l (iSeq X.K tl) := by
  constructor
  intro pins s σ H R I h
  refine wpAny_mono (hl.run pins s σ H _ I h) ?_ (fun _ _ z => z)
  rintro v t ⟨x, H1, J, rx, a, e, w⟩
  subst e
  cases rx
  -- the iterator is the object that is made now
  have fresh : ∀ b ∈ [t.heap.objs.size], FpOk X pins H1 b := fun b hb => by
    cases List.mem_singleton.mp hb
    exact J.fpOk (Nat.le_refl t.heap.objs.size) (J.hok.fresh (Nat.le_refl t.heap.objs.size))
  have kept : ∀ (o : Obj) (b : Addr) (u : Obj), t.heap.get? b = some u → (t.heap.push o).get? b = some u := fun o b u z => Heap.get?_push_of_some o z
  rcases w with ⟨⟨xs, sq⟩, r⟩ | ⟨⟨xs, sq⟩, r⟩
  · obtain ⟨is, _, p, _⟩ := J.list sq
    exact wpAny_pyIter_list p.isList ⟨_, _, _, _, H1, rfl, J.kept (t' := t.toks) (kept _), turn_list a _, ⟨_, Heap.get?_push_size _ rfl, rfl, rfl⟩, fresh, r⟩
  · obtain ⟨is, _, p, _⟩ := J.tuple sq
    exact wpAny_pyIter_tuple (show Heap.IsTuple t.heap a is.toArray from p) ⟨_, _, _, _, H1, rfl, J.kept (t' := t.toks) (kept _), turn_tuple a _, ⟨_, Heap.get?_push_size _ rfl, rfl, rfl⟩, fresh, r⟩
/-- the items of a list that does not change, or of a tuple -/
def items : D → M (List D)
  | .lst ds => M.pure ds
  | .tup ds => M.pure ds
  | _ => M.bad
theorem id_seq (h : ED X W ρ e m) : ID X W ρ tg e (m.bind items) := PI.imp (pi_seq h) fun σ H R ⟨G0, H0, G, S, si, h⟩ => ⟨G0, H0, G, S, si, okI.bind h fun G1 H1 S1 x d s1 f1 r1 h1 => by
  cases r1 with
  | lst e z n t => exact ⟨_, rfl, .inl ⟨⟨_, SqL.of e⟩, okI.here h1 s1 (isW_list e n t)⟩⟩
  | tup e z t => exact ⟨_, rfl, .inr ⟨⟨_, e⟩, okI.here h1 s1 (isW_tup e t)⟩⟩
  | _ => exact h1.elim⟩
def rng1i (j : Int) : M (List D) := if decide (-(2 ^ 62) ≤ j) && decide (j < 2 ^ 62) then M.pure ((List.range j.toNat).map fun (i : Nat) => .int i) else M.bad
def rng1 : D → M (List D)
  | .int j => rng1i j
  | _ => M.bad
theorem id_rng1 (hm : X.mg "range" = none) (ha : ED X W ρ a m) (hg : Gl X "range" := by rfl) (hs : starEach [a] X.env = [(false, eval a X.env)] := by rfl) : ID X W ρ tg (.Call (.Name "range" p) [a] [] pos) (m.bind rng1) :=
  PI.imp (pi_range1 hg hm (pa_cons ha pa_nil hs) hs) fun σ H R ⟨G0, H0, G, S, si, h⟩ => ⟨G0, H0, G, S, si, okI.bind h fun G1 H1 S1 x d s1 f1 r1 h1 => by
    cases r1 with
    | int j =>
      have h1 : okI X.K X.mg W G0 H0 G1 H1 σ ρ R (rng1i j S1) := h1
      unfold rng1i at h1
      by_cases z : (decide (-(2 ^ 62) ≤ j) && decide (j < 2 ^ 62)) = true
      · rw [if_pos z] at h1
        simp only [Bool.and_eq_true, decide_eq_true_eq] at z
        refine ⟨j, rfl, z.1, z.2, okI.here h1 s1 (isW_fn (walk_range (lo := 0) (n := j.toNat)) fun i G H => ?_)⟩
        rw [Int.zero_add]
        exact .int _
      · rw [if_neg z] at h1
        exact h1.elim
    | _ => exact h1.elim⟩
def enumD (ds : List D) : List D := (((List.range ds.length).map fun (i : Nat) => D.int i).zip ds).map fun p => .tup [p.1, p.2]
def enumM : D → M (List D)
  | .lst ds => M.pure (enumD ds)
  | _ => M.bad
theorem id_enum {elts : List Expr} {kk : Nat} (hm : X.mg "enumerate" = none) (ha : ED X W ρ a m) (hg : Gl X "enumerate" := by rfl) (hs : starEach [a] X.env = [(false, eval a X.env)] := by rfl) : ID X W ρ (.Tuple elts kk p2) (.Call (.Name "enumerate" p) [a] [] pos) (m.bind enumM) :=
  PI.imp (pi_enum hg hm (pa_cons ha pa_nil hs) hs) fun σ H R ⟨G0, H0, G, S, si, h⟩ => ⟨G0, H0, G, S, si, okI.bind h fun G1 H1 S1 x d s1 f1 r1 h1 => by
    cases r1 with
    | lst e z n t =>
      rename_i a xs ds
      refine ⟨a, xs, rfl, SqL.of e, okI.here h1 s1 ?_⟩
      refine isW_pair (n := xs.length) walk_enum (fun G1 H1 r => SqL.of (r.keep _ _ e (.inl n))) (by rw [List.length_zip, List.length_map, List.length_range, t.length]; exact Nat.min_self _) (fun i x G1 H1 r hi q => ?_) (fun i x G1 H1 r hi q => (t.lr r).getV q)
      cases q
      rw [t.length] at hi
      exact ⟨.int i, by rw [List.getElem?_map, List.getElem?_range hi]; rfl, .int _⟩
    | _ => exact h1.elim⟩
def zipD (ds es : List D) : List D := (ds.zip es).map fun p => .tup [p.1, p.2]
def zipM : List D → M (List D)
  | [.lst ds, .lst es] => M.pure (zipD ds es)
  | [.tup ds, .tup es] => M.pure (zipD ds es)
  | _ => M.bad
theorem walk_zipT {K : PySem.W.Frag} {a b : Addr} {xs ys : List V} {n : Nat} (hn : n = min xs.length ys.length) : Walk (RZ.ItzT K a b) n (fun H => SqT K H a xs ∧ SqT K H b ys) (YPair (fun i => xs[i]?) (fun i => ys[i]?)) := by
  subst hn
  constructor
  · intro i _ lt sq
    obtain ⟨l1, l2⟩ : i < xs.length ∧ i < ys.length := ⟨by omega, by omega⟩
    exact ⟨xs, ys, xs[i]'l1, ys[i]'l2, sq.1, sq.2, List.getElem?_eq_getElem l1, List.getElem?_eq_getElem l2⟩
  · exact fun _ sq => ⟨xs, ys, sq.1, sq.2, by omega⟩
  · rintro i _ _ _ _ sq ⟨T, x, y, c1, c2, c3, c4, c5⟩
    exact ⟨T, x, y, c1, c2, c3, c4 xs sq.1, c5 ys sq.2⟩
theorem id_zip {elts : List Expr} {kk : Nat} (hm : X.mg "zip" = none) (ha : EA X W ρ [a, b] (argsM ms)) (hg : Gl X "zip" := by rfl) (hs : starEach [a, b] X.env = (false, eval a X.env) :: starEach [b] X.env := by rfl) (hpl : (backTo pos (starEach [b] X.env)).any (·.1) = false := by rfl) :
    ID X W ρ (.Tuple elts kk p2) (.Call (.Name "zip" p) [a, b] [] pos) ((argsM ms).bind zipM) :=
  PI.imp (RZ.pi_zipA hg hm ha hs hpl) fun σ H R ⟨G0, H0, G, S, si, h⟩ => ⟨G0, H0, G, S, si, okI.bind h fun G1 H1 S1 xs ds s1 f1 r1 h1 => by
    cases r1 with
    | nil => exact h1.elim
    | cons r1 t =>
      cases t with
      | nil => cases r1 <;> exact h1.elim
      | cons r2 t =>
        cases t with
        | cons _ _ => cases r1 <;> cases r2 <;> exact h1.elim
        | nil =>
          cases r1 with
          | lst e1 z1 n1 t1 =>
            cases r2 with
            | lst e2 z2 n2 t2 =>
              refine ⟨_, _, _, _, rfl, .inl ⟨SqL.of e1, SqL.of e2, okI.here h1 s1 ?_⟩⟩
              exact isW_pair (walk_zip rfl) (fun G1 H1 r => ⟨SqL.of (r.keep _ _ e1 (.inl n1)), SqL.of (r.keep _ _ e2 (.inl n2))⟩) (by rw [List.length_zip, t1.length, t2.length]) (fun i x G1 H1 r hi q => (t1.lr r).getV q) (fun i x G1 H1 r hi q => (t2.lr r).getV q)
            | _ => exact h1.elim
          | tup e1 z1 t1 =>
            cases r2 with
            | tup e2 z2 t2 =>
              refine ⟨_, _, _, _, rfl, .inr ⟨e1, e2, okI.here h1 s1 ?_⟩⟩
              exact isW_pair (walk_zipT rfl) (fun G1 H1 r => ⟨r.sqT e1, r.sqT e2⟩) (by rw [List.length_zip, t1.length, t2.length]) (fun i x G1 H1 r hi q => (t1.lr r).getV q) (fun i x G1 H1 r hi q => (t2.lr r).getV q)
            | _ => exact h1.elim
          | _ => cases r2 <;> exact h1.elim⟩
/-! ### targets -/
/-- what is stored at a target: u takes the item apart, sl tells the slots -/
def TgD (K : PySem.W.Frag) (mg : Str → Option Value) (g : TG) (u : D → Option (List D)) (sl : List Slot → List D → List Slot) (is : List Nat) : Prop :=
  ∀ (G0 : Gh) (H0 : Hp) (G : Gh) (H : Hp) (σ : L2.St) (ρ : List Slot) (S : MS) (v : V) (d : D) (ds : List D) (Q : L2.St → Hp → Prop), SI K mg G0 H0 G H σ ρ S → Rep K G H v d → u d = some ds → (∀ σ', SI K mg G0 H0 G H σ' (sl ρ ds) S → (∀ vs, (∀ i ∈ is, i ∈ vs) → wipe σ' vs = wipe σ vs) → Q σ' H) → g v σ H Q
def TgsD (K : PySem.W.Frag) (mg : Str → Option Value) (g : TGs) (u : List D → Option (List D)) (sl : List Slot → List D → List Slot) (is : List Nat) : Prop :=
  ∀ (G0 : Gh) (H0 : Hp) (G : Gh) (H : Hp) (σ : L2.St) (ρ : List Slot) (S : MS) (v : List V) (d : List D) (ds : List D) (Q : L2.St → Hp → Prop), SI K mg G0 H0 G H σ ρ S → Reps K G H v d → u d = some ds → (∀ σ', SI K mg G0 H0 G H σ' (sl ρ ds) S → (∀ vs, (∀ i ∈ is, i ∈ vs) → wipe σ' vs = wipe σ vs) → Q σ' H) → g v σ H Q
def u1 : D → Option (List D) := fun d => some [d]
def sl1 (i : Nat) : List Slot → List D → List Slot
  | ρ, [d] => ρ.set i (.val d)
  | ρ, _ => ρ
theorem wipe_set {σ : L2.St} {i : Nat} {x : Option V} : ∀ {vs : List Nat}, i ∈ vs → wipe (σ.set i x) vs = wipe σ vs
  | [], h => absurd h (by simp)
  | v :: vs, h => by
    unfold wipe
    by_cases q : i ∈ vs
    · rw [wipe_set q]
    · have e : i = v := by
        cases List.mem_cons.mp h with
        | inl y => exact y
        | inr y => exact absurd y q
      subst e
      have z : ∀ ws : List Nat, i ∉ ws → wipe (σ.set i x) ws = (wipe σ ws).set i x := by
        intro ws
        induction ws with
        | nil => intro _; rfl
        | cons w ws ih =>
          intro hn
          have h1 : i ≠ w := fun e => hn (by rw [e]; exact List.mem_cons_self)
          have h2 : i ∉ ws := fun e => hn (List.mem_cons_of_mem _ e)
          unfold wipe
          rw [ih h2, List.set_comm _ _ (Ne.symm h1)]
      rw [z vs q, List.set_set]
theorem tg_name {K : PySem.W.Frag} {mg : Str → Option Value} (i : Nat) : TgD K mg (gName i) u1 (sl1 i) [i] := fun G0 H0 G H σ ρ S v d ds Q si r e k => by
  cases e
  exact k _ (si.set i r) fun vs h => wipe_set (h i List.mem_cons_self)
/-- names in a row: n of them -/
def uN (n : Nat) : List D → Option (List D) := fun ds => if ds.length = n then some ds else none
def slN : List Nat → List Slot → List D → List Slot
  | i :: is, ρ, d :: ds => slN is (ρ.set i (.val d)) ds
  | _, ρ, _ => ρ
def gN : List Nat → TGs
  | [] => gNil
  | i :: is => gCons (gName i) (gN is)
theorem tgs_names {K : PySem.W.Frag} {mg : Str → Option Value} : ∀ is : List Nat, TgsD K mg (gN is) (uN is.length) (slN is) is
  | [] => fun G0 H0 G H σ ρ S v d ds Q si r e k => by
    cases r with
    | nil =>
      cases e
      exact ⟨rfl, k _ si fun _ _ => rfl⟩
    | cons _ _ => cases e
  | i :: is => fun G0 H0 G H σ ρ S v d ds Q si r e k => by
    cases r with
    | nil => cases e
    | cons r t =>
      rename_i v d vs ds'
      unfold uN at e
      by_cases hl : (d :: ds').length = (i :: is).length
      · rw [if_pos hl] at e
        cases e
        refine ⟨v, vs, rfl, ?_⟩
        exact tgs_names is G0 H0 G H _ _ S vs ds' ds' Q (si.set i r) t (by unfold uN; rw [if_pos (by simpa using hl)]) fun σ' s' hw => k σ' s' fun vs h => (hw vs fun j hj => h j (List.mem_cons_of_mem _ hj)).trans (wipe_set (h i List.mem_cons_self))
      · rw [if_neg hl] at e; cases e
def uT (n : Nat) : D → Option (List D)
  | .tup ds => uN n ds
  | _ => none
theorem tg_tup {K : PySem.W.Frag} {mg : Str → Option Value} (is : List Nat) : TgD K mg (gTup K is.length (gN is)) (uT is.length) (slN is) is := fun G0 H0 G H σ ρ S v d ds Q si r e k => by
  cases r with
  | tup h z t =>
    refine ⟨_, _, rfl, h, ?_, tgs_names is G0 H0 G H σ ρ S _ _ ds Q si t e k⟩
    rename_i a xs es
    rw [t.length]
    have e : uN is.length es = some ds := e
    unfold uN at e
    by_cases hl : es.length = is.length
    · exact hl
    · rw [if_neg hl] at e; cases e
  | _ => cases e
/-! ### for -/
def forM {C L : Type} (body : C → D → M (Fl C C)) : List D → C → M (Fl C L)
  | [], c => M.pure (.nx c)
  | d :: ds, c => (body c d).bind fun z => match z with
    | .nx c' => forM body ds c'
    | .cnt c' => forM body ds c'
    | .brk c' => M.pure (.nx c')
    | .ret v => M.pure (.ret v)
def unM {α : Type} (u : D → Option (List D)) (f : List D → M α) (d : D) : M α := (ofOpt (u d)).bind f
theorem LR.new {G : Gh} {H : Hp} {p : Addr} {o : HO} (h : H p = none) : LR G H G (upd H p o) := (FR.alloc h).lr
theorem sd_for {C L J : Type} {k : Ct C L} (emb : J → List Slot) (c0 : J) {iter : Expr} {body rest : List Stmt} {mi : M (List D)} {g : TG} {u : D → Option (List D)} {sl : List Slot → List D → List Slot} {mb : J → List D → M (Fl J J)} {f : J → M (Fl C L)}
    (w : Wk ρ k.x) (w0 : Wk ρ (emb c0)) (hp : PassesOwn (model X.prog X.w) X.A X.env X.xe) (hi : ID X k.W ρ tg iter mi) (hg : PG X tg g) {is : List Nat} (ht : TgD X.K X.mg g u sl is)
    (hb : ∀ c ds, SD X ⟨k.W, k.x, emb, emb, k.R⟩ (sl (emb c) ds) body (mb c ds)) (hr : ∀ c, SD X k (emb c) rest (f c)) (hc : X.calm = true := by rfl) (hs : ∀ x, foldedSetIterable iter X.env x = pure x := by intro _; rfl) :
    SD X k ρ (.For tg iter body [] pos :: rest) (mi.bind fun ds => thenM (forM (fun c => unM u (mb c)) ds c0) f) := by
  let ub : TS := fun D σ H => ∃ c ds, tS X.K X.mg ⟨k.W, k.x, emb, emb, k.R⟩ (sl (emb c) ds) (mb c ds) D σ H
  have hub : PSs X body ub := ⟨fun pins s σ H D I ⟨c, d, q⟩ => (hb c d).run pins s σ H D I q⟩
  let ur : TS := fun D σ H => ∃ c, tS X.K X.mg k (emb c) (f c) D σ H
  have hur : PSs X rest ur := ⟨fun pins s σ H D I ⟨c, q⟩ => (hr c).run pins s σ H D I q⟩
  refine PSs.imp (pss_cons (ps_for hp hc hi hg hub hs) hur) fun D σ H ⟨G0, H0, G, S, si, h⟩ => ⟨G0, H0, G, S, si, ?_⟩
  unfold M.bind at h
  cases e : mi S with
  | err x S1 =>
    rw [e] at h
    exact fun cls da G' H' s f r => h cls da σ G' H' (s.weak w) f.lr r
  | bad => rw [e] at h; exact h
  | ok ds S1 =>
    rw [e] at h
    intro J1 G1 H1 s1 f1 iw
    have h1 : okS X.K X.mg k G0 H0 G1 H1 D (thenM (forM (fun c => unM u (mb c)) ds c0) f S1) := okS.from h f1.lr
    obtain ⟨Gd, Y, wk, hG, hY⟩ := iw
    let Pv : Nat → L2.St → Hp → Prop := fun i σ' H' => ∃ c G' S', SI X.K X.mg G0 H0 G' H' σ' (emb c) S' ∧ LR G1 H1 G' H' ∧ okS X.K X.mg k G0 H0 G' H' D (thenM (forM (fun c => unM u (mb c)) (ds.drop i) c) f S')
    refine for_it wk Pv ⟨c0, G1, S1, s1.weak w0, .refl _ _, h1⟩
      (fun i σ' H' _ ⟨c, G', S', _, lr, _⟩ => hG G' H' lr) ?_ ?_
    · rintro i x σ' H' H2 hi ⟨c, G', S', s', lr, h'⟩ y
      obtain ⟨hH, d, hd, rd⟩ := hY i G' H' x H2 hi lr y
      have s2 : SI X.K X.mg G0 H0 G' H2 σ' (emb c) S' := by
        rcases hH with e | ⟨p, o, hp, e⟩
        · rw [e]; exact s'
        · rw [e]; exact s'.alloc hp
      have l2 : LR G' H' G' H2 := by
        rcases hH with e | ⟨p, o, hp, e⟩
        · rw [e]; exact .refl _ _
        · rw [e]; exact LR.new hp
      have ed : ds.drop i = d :: ds.drop (i + 1) := by
        obtain ⟨hi', e⟩ := List.getElem?_eq_some_iff.mp hd
        rw [← e]
        exact List.drop_eq_getElem_cons hi'
      rw [ed] at h'
      have h2 := okS.from h' l2
      have h3 : okS X.K X.mg ⟨k.W, k.x, emb, emb, k.R⟩ G0 H0 G' H2 { D with nx := Pv (i + 1), ct := Pv (i + 1), bk := ur D } (unM u (mb c) d S') := by
        unfold thenM forM M.bind at h2
        cases q : unM u (mb c) d S' with
        | ok z S3 =>
          rw [q] at h2
          cases z with
          | nx c' => exact fun σ'' G'' H'' s'' l'' => ⟨c', G'', S3, s'', (lr.trans l2).trans l'', okS.from h2 l''⟩
          | cnt c' => exact fun σ'' G'' H'' s'' l'' => ⟨c', G'', S3, s'', (lr.trans l2).trans l'', okS.from h2 l''⟩
          | brk c' => exact fun σ'' G'' H'' s'' l'' => ⟨c', G0, H0, G'', S3, s'', okS.from h2 l''⟩
          | ret v => exact h2
        | err x S3 => rw [q] at h2; exact h2
        | bad => rw [q] at h2; exact h2
      unfold unM at h3
      cases q : u d with
      | none => rw [q] at h3; exact h3.elim
      | some us =>
        rw [q] at h3
        exact ht G0 H0 G' H2 σ' (emb c) S' x d us _ s2 rd q fun σ3 s3 _ => ⟨c, us, G0, H0, G', S', s3, h3⟩
    · rintro σ' H' ⟨c, G', S', s', lr, h'⟩
      rw [List.drop_length] at h'
      exact ⟨c, G0, H0, G', S', s', h'⟩
end
end Dl
namespace Dl
open PySem L2
/-! ### a list of a frame's own changes -/
section
variable {K : PySem.W.Frag} {mg : Str → Option Value} {G G0 G1 : Gh} {H H0 H1 : Hp} {S : MS} {σ : L2.St} {ρ : List Slot} {l : Addr} {o o' : HO}
theorem FR.putO (r : FR G0 H0 G H) (h : H0 l = none) : FR G0 H0 G (upd H l o') where
  pre := r.pre
  sa := r.sa
  sb := r.sb
  mg := r.mg
  keep := fun b u e q => by rw [upd_ne (ne_of_none e h)]; exact r.keep b u e q
  cnew := r.cnew
  onew := r.onew
  oold := r.oold
  there := fun b u e => by
    obtain ⟨u', q⟩ := r.there b u e
    exact ⟨u', by rw [upd_ne (ne_of_none e h)]; exact q⟩
theorem Wf.putO (w : Wf K mg G H S) (hl : H l = some o) (hf : ¬ Fix o) (hO : G.O l) (hc : ¬ G.cell l) : Wf K mg G (upd H l o') S where
  len := w.len
  nd := w.nd
  cell := fun i c a h1 h2 => by
    have q := w.cell i c a h1 h2
    have ne : c ≠ .out → a ≠ l := fun n e => hc (.inl (by rw [← e]; exact ⟨List.mem_of_getElem? h2, w.nz i c a h1 h2 n⟩))
    have r : LR G H G (upd H l o') := .put hl hf (.inr hO)
    cases c with
    | out => trivial
    | lst ds => obtain ⟨xs, e, z, t⟩ := q; exact ⟨xs, by rw [upd_ne (ne (by intro h; cases h))]; exact e, z, t.lr r⟩
    | dic kvs => obtain ⟨xs, e, z, t⟩ := q; exact ⟨xs, by rw [upd_ne (ne (by intro h; cases h))]; exact e, z, t.lr r⟩
    | ins c fs => obtain ⟨C, dx, gs, m, e, t⟩ := q; exact ⟨C, dx, gs, m, by rw [upd_ne (ne (by intro h; cases h))]; exact e, t.lr r⟩
  live := fun b h => by
    obtain ⟨u, e⟩ := w.live b h
    exact (LR.put (o' := o') hl hf (.inr hO)).there b u e
  ha := by rw [upd_ne fun e => hc (.inr (.inl e.symm))]; exact w.ha
  hb := by rw [upd_ne fun e => hc (.inr (.inr e.symm))]; exact w.hb
  sab := w.sab
  na := w.na
  nb := w.nb
  zs := w.zs
  hmg := w.hmg
  nz := w.nz
  zo := w.zo
  zl := fun b h => by
    obtain ⟨u, e⟩ := w.zl b h
    exact (LR.put (o' := o') hl hf (.inr hO)).there b u e
theorem SI.putO (s : SI K mg G0 H0 G H σ ρ S) (hl : H l = some o) (hf : ¬ Fix o) (hO : G.O l) (hc : ¬ G.cell l) (h0 : H0 l = none) (n : ∀ (i : Nat) (ds : List D), ρ[i]? = some (.own ds) → σ[i]? ≠ some (some (V.ref l))) : SI K mg G0 H0 G (upd H l o') σ ρ S where
  fr := s.fr.putO h0
  live0 := s.live0
  wf := s.wf.putO hl hf hO hc
  len := s.len
  env := fun i x h => by
    have q := s.env i x h
    have r : LR G H G (upd H l o') := .put hl hf (.inr hO)
    cases x with
    | any => trivial
    | val d => obtain ⟨v, e, t⟩ := q; exact ⟨v, e, t.lr r⟩
    | own ds =>
      obtain ⟨m, xs, e, hm, z, t, ho, hc', h0'⟩ := q
      refine ⟨m, xs, e, ?_, z, t.lr r, ho, hc', h0'⟩
      rw [upd_ne fun e' => ?_]
      · exact hm
      · subst e'
        exact n i ds h e
    | exc a dd f d => obtain ⟨e, v, hd, n, t⟩ := q; exact ⟨e, v, r.keep _ _ hd (.inl n), n, t.lr r⟩
  apart := s.apart
def wipeR (ρ : List Slot) : List Nat → List Slot
  | [] => ρ
  | v :: vs => (wipeR ρ vs).set v .any
theorem SI.wipe (s : SI K mg G0 H0 G H σ ρ S) : ∀ vs : List Nat, SI K mg G0 H0 G H (wipe σ vs) (wipeR ρ vs) S
  | [] => s
  | v :: vs => by
    have ih := SI.wipe s vs
    unfold L2.wipe wipeR
    have key : ∀ (i : Nat) (x : Slot), ((wipeR ρ vs).set v .any)[i]? = some x → x = .any ∨ (v ≠ i ∧ (wipeR ρ vs)[i]? = some x) := fun i x h => by
      by_cases e : v = i
      · subst e
        by_cases hl : v < (wipeR ρ vs).length
        · rw [List.getElem?_set_self hl] at h; cases h; exact .inl rfl
        · rw [List.getElem?_eq_none (by rw [List.length_set]; omega)] at h; cases h
      · rw [List.getElem?_set_ne e] at h
        exact .inr ⟨e, h⟩
    refine ⟨ih.fr, ih.live0, ih.wf, by rw [List.length_set, List.length_set]; exact ih.len, fun i x h => ?_, fun i j ds es l n h1 h2 h3 => ?_⟩
    · rcases key i x h with e | ⟨ne, q⟩
      · subst e; trivial
      · rw [List.getElem?_set_ne ne]
        exact ih.env i x q
    · rcases key i _ h1 with e | ⟨ne, q⟩
      · cases e
      · rcases key j _ h2 with e | ⟨ne', q'⟩
        · cases e
        · rw [List.getElem?_set_ne ne] at h3
          rw [List.getElem?_set_ne ne']
          exact ih.apart i j ds es l n q q' h3
end
theorem wipe_idem {σ : L2.St} {vs : List Nat} : ∀ ws : List Nat, (∀ v ∈ ws, v ∈ vs) → L2.wipe (L2.wipe σ vs) ws = L2.wipe σ vs
  | [], _ => rfl
  | v :: ws, hv => by
    have ih := wipe_idem (σ := σ) ws fun w hw' => hv w (List.mem_cons_of_mem _ hw')
    have hvv := hv v List.mem_cons_self
    generalize hτ : L2.wipe σ vs = τ at ih ⊢
    show (L2.wipe τ ws).set v none = τ
    rw [ih]
    apply List.ext_getElem?
    intro j
    by_cases ej : v = j
    · subst ej
      by_cases hl : v < τ.length
      · rw [List.getElem?_set_self hl]
        cases qq : τ[v]? with
        | none => rw [List.getElem?_eq_none_iff] at qq; omega
        | some z =>
          cases z with
          | none => rfl
          | some z =>
            rw [← hτ] at qq
            exact absurd hvv (wipe_some qq).2
      · rw [List.getElem?_eq_none (by rw [List.length_set]; omega), List.getElem?_eq_none (by omega)]
    · rw [List.getElem?_set_ne ej]
/-! ### comprehensions -/
def compM (f : D → M (Option D)) : List D → M (List D)
  | [] => M.pure []
  | d :: ds => (f d).bind fun o => (compM f ds).bind fun r => M.pure (match o with | some x => x :: r | none => r)
/-- nothing is raised here -/
def calmM {α : Type} (m : M α) : M α := fun S => match m S with
  | .err _ _ => .bad
  | r => r
def eltM (mt : List D → M Bool) (me : List D → M D) (us : List D) : M (Option D) := (mt us).bind fun b => if b = true then (me us).bind fun x => M.pure (some x) else M.pure none
abbrev W0 : WX := fun _ _ _ _ => False
theorem okG_calm {K : PySem.W.Frag} {mg : Str → Option Value} {W : WX} {G0 G : Gh} {H0 H : Hp} {σ : L2.St} {ρ : List Slot} {S : MS} {α β : Type} {R : Gh → Hp → β → α → Prop} {Q : β → Hp → Prop} {m : M α} (h : okG K mg W R G0 H0 G H σ ρ Q (calmM m S)) : okG K mg W0 R G0 H0 G H σ ρ Q (m S) := by
  unfold calmM at h
  cases e : m S with
  | ok a S1 => rw [e] at h; exact h
  | err x S1 => rw [e] at h; exact h.elim
  | bad => rw [e] at h; exact h
section
variable {X : Cx} {W : WX} {ρ : List Slot} {tg iter elt : Expr} {ifs : List Expr} {scope : Scope} {own : List (Str × Nat)} {pos : Pos} {mi : M (List D)} {g : TG} {u : D → Option (List D)} {sl : List Slot → List D → List Slot} {is : List Nat} {mt : List D → M Bool} {me : List D → M D}
theorem etf_nil {us : List D} {ρ' : List Slot} : PTs X [] (tG X.K X.mg W RB ρ' (M.pure true)) := ⟨fun pins s σ H Q I ⟨G0, H0, G, S, si, h⟩ => pts_nil.run pins s σ H Q I (okG.here h si rfl)⟩
end
end Dl
namespace Dl
open PySem L2
/-! ### lists of the frame's own, changed -/
section
variable {K : PySem.W.Frag} {mg : Str → Option Value} {G G0 G1 : Gh} {H H0 H1 : Hp} {S : MS} {σ : L2.St} {ρ : List Slot} {l : Addr} {o o' : HO}
theorem SI.ownPut (s : SI K mg G0 H0 G H σ ρ S) {i : Nat} {ds es : List D} {xs ys : List V} (hρ : ρ[i]? = some (.own ds)) (hσ : σ[i]? = some (some (.ref l))) (z : ys.length ≤ sizeLine) (t : Reps K G H ys es) :
    SI K mg G0 H0 G (upd H l (.lst ys)) σ (ρ.set i (.own es)) S ∧ LR G H G (upd H l (.lst ys)) := by
  obtain ⟨l', xs, e, hl, _, _, ho, hc, h0⟩ := s.env i _ hρ
  rw [hσ] at e; cases e
  have hi : i < ρ.length := (List.getElem?_eq_some_iff.mp hρ).1
  have na : ∀ (j : Nat) (fs : List D), (ρ.set i .any)[j]? = some (.own fs) → σ[j]? ≠ some (some (V.ref l)) := fun j fs ej q => by
    by_cases q' : i = j
    · subst q'
      rw [List.getElem?_set_self hi] at ej; cases ej
    · rw [List.getElem?_set_ne q'] at ej
      exact s.apart i j ds fs l q' hρ ej hσ q
  have lr : LR G H G (upd H l (.lst ys)) := .put hl (fun z => z) (.inr ho)
  have s1 := (s.weak (wk_set ρ i)).putO (o' := .lst ys) hl (fun z => z) ho hc h0 na
  have s2 := s1.setOwn (ds := es) i upd_same z ho hc h0 (t.lr lr) fun j fs nj ej => na j fs ej
  have e1 : σ.set i (some (.ref l)) = σ := by
    apply List.ext_getElem?
    intro j
    by_cases q : i = j
    · subst q
      rw [List.getElem?_set_self (by rw [s.len]; exact hi), hσ]
    · rw [List.getElem?_set_ne q]
  rw [e1, List.set_set] at s2
  exact ⟨s2, lr⟩
end
def szLt (n : Nat) : Bool := decide (n < 16777216)
theorem szLt_of {n : Nat} (h : szLt n = true) : n < sizeLine := by rw [sizeLine_eq]; exact of_decide_eq_true h
def gd {α : Type} (b : Bool) (m : M α) : M α := if b = true then m else M.bad
section
variable {X : Cx} {C L : Type} {k : Ct C L} {ρ : List Slot} {a b c e o : Expr} {es : List Expr} {m mo mi mv : M D} {pos p p2 cp ap : Pos} {rest sts : List Stmt}
theorem okS.gd {K : PySem.W.Frag} {mg : Str → Option Value} {G0 G : Gh} {H0 H : Hp} {D : Ends} {S : MS} {b : Bool} {m : M (Fl C L)} (h : okS K mg k G0 H0 G H D (Dl.gd b m S)) : b = true ∧ okS K mg k G0 H0 G H D (m S) := by
  unfold Dl.gd at h
  cases b with
  | true => exact ⟨rfl, h⟩
  | false => exact h.elim
/-- xs.append(e) -/
theorem sd_append (i : Nat) {x : Str} {ds : List D} {f : D → M (Fl C L)} (w : Wk ρ k.x) (hpe : PE X (.Call (.Attribute (.Name x p) "append" ap) [e] [] cp) (tBM X.K "list" rAppend (tVar i) (tCons (tG X.K X.mg k.W (RD X.K) ρ m) tNil)))
    (hr : ∀ d, SD X k (ρ.set i (.own (ds ++ [d]))) rest (f d)) (hρ : ρ[i]? = some (.own ds) := by rfl) (hs : swapsWith (.Call (.Attribute (.Name x p) "append" ap) [e] [] cp) none pos.line X.env = pure false := by rfl) :
    SD X k ρ (.Expr (.Call (.Attribute (.Name x p) "append" ap) [e] [] cp) pos :: rest) (m.bind fun d => gd (szLt ds.length) (f d)) := by
  let u : TS := fun D σ H => ∃ d, tS X.K X.mg k (ρ.set i (.own (ds ++ [d]))) (f d) D σ H
  have hu : PSs X rest u := ⟨fun pins s σ H D I ⟨d, q⟩ => (hr d).run pins s σ H D I q⟩
  refine PSs.imp (pss_cons (ps_expr hpe hs) hu) fun D σ H ⟨G0, H0, G, S, si, h⟩ => ?_
  obtain ⟨l, xs, e1, hl, z, t, ho, hc, h0⟩ := si.env i _ hρ
  refine ⟨.ref l, e1, .inl ⟨rfl, _, SqL.of hl⟩, G0, H0, G, S, si, okS.bind h w fun G1 H1 S1 v d s1 r1 h1 => ?_⟩
  obtain ⟨zz, h1⟩ := h1.gd
  obtain ⟨l', xs', e1', hl', z', t', ho', hc', h0'⟩ := s1.env i _ hρ
  rw [e1] at e1'; cases e1'
  have zl := szLt_of zz
  rw [← t'.length] at zl
  refine ⟨l, xs', v, rfl, rfl, hl', zl, d, ?_⟩
  obtain ⟨s2, lr⟩ := s1.ownPut (xs := xs') hρ e1 (ys := xs' ++ [v]) (by rw [List.length_append, List.length_singleton]; omega) (t'.append (.cons r1 .nil))
  exact ⟨G0, H0, G1, S1, s2, okS.from h1 lr⟩
/-- xs.extend(e), e a list -/
theorem sd_extend (i : Nat) {x : Str} {ds : List D} {f : List D → M (Fl C L)} (w : Wk ρ k.x) (hpe : PE X (.Call (.Attribute (.Name x p) "extend" ap) [e] [] cp) (tBM X.K "list" rExtend (tVar i) (tCons (tG X.K X.mg k.W (RD X.K) ρ m) tNil)))
    (hr : ∀ es, SD X k (ρ.set i (.own (ds ++ es))) rest (f es)) (hρ : ρ[i]? = some (.own ds) := by rfl) (hs : swapsWith (.Call (.Attribute (.Name x p) "extend" ap) [e] [] cp) none pos.line X.env = pure false := by rfl) :
    SD X k ρ (.Expr (.Call (.Attribute (.Name x p) "extend" ap) [e] [] cp) pos :: rest) (m.bind fun d => (asLst d).bind fun es => gd (szOk (ds.length + es.length)) (f es)) := by
  let u : TS := fun D σ H => ∃ d, tS X.K X.mg k (ρ.set i (.own (ds ++ d))) (f d) D σ H
  have hu : PSs X rest u := ⟨fun pins s σ H D I ⟨d, q⟩ => (hr d).run pins s σ H D I q⟩
  refine PSs.imp (pss_cons (ps_expr hpe hs) hu) fun D σ H ⟨G0, H0, G, S, si, h⟩ => ?_
  obtain ⟨l, xs, e1, hl, z, t, ho, hc, h0⟩ := si.env i _ hρ
  refine ⟨.ref l, e1, .inl ⟨rfl, _, SqL.of hl⟩, G0, H0, G, S, si, okS.bind h w fun G1 H1 S1 v d s1 r1 h1 => ?_⟩
  obtain ⟨l', xs', e1', hl', z', t', ho', hc', h0'⟩ := s1.env i _ hρ
  rw [e1] at e1'; cases e1'
  have key : ∀ {a : Addr} {ys : List V} {es : List Dl.D}, H1 a = some (.lst ys) → Reps X.K G1 H1 ys es → okS X.K X.mg k G0 H0 G1 H1 D (gd (szOk (ds.length + es.length)) (f es) S1) → rExtend (.ref l) [.ref a] H1 fun _ H2 => u D σ H2 := fun {a ys es} ha tt h1 => by
    obtain ⟨zz, h1⟩ := h1.gd
    have zl := sz_of zz
    rw [← t'.length, ← tt.length] at zl
    refine ⟨l, a, xs', ys, rfl, rfl, hl', ha, zl, es, ?_⟩
    obtain ⟨s2, lr⟩ := s1.ownPut (xs := xs') hρ e1 (ys := xs' ++ ys) (by rw [List.length_append]; exact zl) (t'.append tt)
    exact ⟨G0, H0, G1, S1, s2, okS.from h1 lr⟩
  cases r1 with
  | lst ha _ _ tt => exact key ha tt h1
  | ptr q =>
    rename_i a kk
    unfold asLst M.bind at h1
    cases qc : S1.cells[kk]? with
    | none => simp only [qc] at h1; exact h1.elim
    | some c =>
      have cr := s1.wf.cell kk c a qc q
      cases c with
      | lst es =>
        simp only [qc] at h1
        obtain ⟨ys, hy, _, tt⟩ := cr
        exact key hy tt h1
      | dic _ => simp only [qc] at h1; exact h1.elim
      | out => simp only [qc] at h1; exact h1.elim
      | ins _ _ => simp only [qc] at h1; exact h1.elim
  | _ => exact h1.elim
end
/-! ### what stands at a pointer changes -/
def MS.put (S : MS) (k : Nat) (c : Cell) : MS := { S with cells := S.cells.set k c }
section
variable {K : PySem.W.Frag} {mg : Str → Option Value} {G G0 G1 : Gh} {H H0 H1 : Hp} {S : MS} {σ : L2.St} {ρ : List Slot} {a : Addr} {o o' : HO} {k : Nat} {c : Cell}
theorem FR.putC (hk : G.φ[k]? = some a) (ha : H a = some o) (hf : ¬ Fix o) (hz : ¬ G.Z a) : FR G H G (upd H a o') where
  pre := List.prefix_rfl
  sa := rfl
  sb := rfl
  mg := rfl
  keep := fun b u e q => by
    rw [upd_ne fun z => ?_]
    · exact e
    · subst z
      rw [ha] at e; cases e
      exact q.elim (fun y => y (.inl ⟨List.mem_of_getElem? hk, hz⟩)) hf
  cnew := fun _ h => .inl h
  onew := fun _ h => .inl h
  oold := fun _ h => h
  there := fun b u e => by
    by_cases z : b = a
    · rw [z]; exact ⟨o', upd_same⟩
    · exact ⟨u, by rw [upd_ne z]; exact e⟩
theorem Wf.putC (w : Wf K mg G H S) (hk : G.φ[k]? = some a) (ha : H a = some o) (hf : ¬ Fix o) (hz : ¬ G.Z a) (hc : CellRep K mg G (upd H a o') a c) : Wf K mg G (upd H a o') (S.put k c) where
  len := by show _ = (S.cells.set k c).length; rw [List.length_set]; exact w.len
  nd := w.nd
  cell := fun i c' b h1 h2 => by
    have h1 : (S.cells.set k c)[i]? = some c' := h1
    have hkl : k < S.cells.length := by rw [← w.len]; exact (List.getElem?_eq_some_iff.mp hk).1
    by_cases e : k = i
    · subst e
      rw [List.getElem?_set_self hkl] at h1
      cases h1
      rw [hk] at h2; cases h2
      exact hc
    · rw [List.getElem?_set_ne e] at h1
      have q := w.cell i c' b h1 h2
      have ne : b ≠ a := fun z => e (by
        subst z
        have e1 := List.getElem?_eq_some_iff.mp hk
        have e2 := List.getElem?_eq_some_iff.mp h2
        exact (List.getElem_inj w.nd).mp (e1.2.trans e2.2.symm))
      have r : LR G H G (upd H a o') := .put ha hf (.inl (.inl ⟨List.mem_of_getElem? hk, hz⟩))
      cases c' with
      | out => trivial
      | lst ds => obtain ⟨xs, e, z, t⟩ := q; exact ⟨xs, by rw [upd_ne ne]; exact e, z, t.lr r⟩
      | dic kvs => obtain ⟨xs, e, z, t⟩ := q; exact ⟨xs, by rw [upd_ne ne]; exact e, z, t.lr r⟩
      | ins c fs => obtain ⟨C, dx, gs, m, e, t⟩ := q; exact ⟨C, dx, gs, m, by rw [upd_ne ne]; exact e, t.lr r⟩
  live := fun b h => by
    obtain ⟨u, e⟩ := w.live b h
    exact (FR.putC (o' := o') hk ha hf hz).there b u e
  ha := by
    have ne : G.sa ≠ a := fun z => w.na (by rw [z]; exact List.mem_of_getElem? hk)
    rw [upd_ne ne]; exact w.ha
  hb := by
    have ne : G.sb ≠ a := fun z => w.nb (by rw [z]; exact List.mem_of_getElem? hk)
    rw [upd_ne ne]; exact w.hb
  sab := w.sab
  na := w.na
  nb := w.nb
  zs := w.zs
  hmg := w.hmg
  zo := w.zo
  nz := fun i c' b h1 h2 n => by
    have h1 : (S.cells.set k c)[i]? = some c' := h1
    by_cases e : k = i
    · subst e
      rw [hk] at h2; cases h2
      exact hz
    · rw [List.getElem?_set_ne e] at h1
      exact w.nz i c' b h1 h2 n
  zl := fun b h => by
    obtain ⟨u, e⟩ := w.zl b h
    exact (FR.putC (o' := o') hk ha hf hz).there b u e
theorem SI.putC (s : SI K mg G0 H0 G H σ ρ S) (hk : G.φ[k]? = some a) (ha : H a = some o) (hf : ¬ Fix o) (hz : ¬ G.Z a) (hc : CellRep K mg G (upd H a o') a c) : SI K mg G0 H0 G (upd H a o') σ ρ (S.put k c) := s.mono (.putC hk ha hf hz) (s.wf.putC hk ha hf hz hc)
end
end Dl
namespace Dl
open PySem L2
/-! ### instances -/
section
variable {K : PySem.W.Frag} {G : Gh} {H : Hp}
theorem FReps.look : ∀ {gs : List (Str × V)} {fs : List (Str × D)} {f : Str}, FReps K G H gs fs → (∀ d, fs.lookup f = some d → ∃ v, gs.lookup f = some v ∧ Rep K G H v d) ∧ (fs.lookup f = none → gs.lookup f = none)
  | _, _, f, .nil => ⟨fun d h => (by cases h), fun _ => rfl⟩
  | _, _, f, .cons (k := k) r t => by
    have ih := FReps.look (f := f) t
    by_cases e : f = k
    · subst e
      refine ⟨fun d h => ?_, fun h => ?_⟩
      · rw [List.lookup_cons_self] at h ⊢
        cases h
        exact ⟨_, rfl, r⟩
      · rw [List.lookup_cons_self] at h; cases h
    · have q : (f == k) = false := by simpa using e
      refine ⟨fun d h => ?_, fun h => ?_⟩
      · simp only [List.lookup, q] at h ⊢
        exact ih.1 d h
      · simp only [List.lookup, q] at h ⊢
        exact ih.2 h
theorem FReps.length : ∀ {gs : List (Str × V)} {fs : List (Str × D)}, FReps K G H gs fs → gs.length = fs.length
  | _, _, .nil => rfl
  | _, _, .cons _ t => by rw [List.length_cons, List.length_cons, FReps.length t]
def putFD (f : Str) (v : D) : List (Str × D) → List (Str × D)
  | [] => [(f, v)]
  | (g, w) :: r => if g = f then (g, v) :: r else (g, w) :: putFD f v r
theorem FReps.put {f : Str} {v : V} {d : D} (r : Rep K G H v d) : ∀ {gs : List (Str × V)} {fs : List (Str × D)}, FReps K G H gs fs → FReps K G H (putF f v gs) (putFD f d fs)
  | _, _, .nil => .cons r .nil
  | _, _, .cons (k := k) q t => by
    unfold putF putFD
    by_cases e : k = f
    · rw [if_pos e, if_pos e]; exact .cons r t
    · rw [if_neg e, if_neg e]; exact .cons q (FReps.put r t)
end
/-- an instance: its class and its attributes -/
def insOf (S : MS) : D → Option (Str × List (Str × D))
  | .ptr k => match S.cells[k]? with
    | some (.ins c fs) => some (c, fs)
    | _ => none
  | .obj _ c ns ds => some (c, ns.zip ds)
  | _ => none
/-- e.f of an instance of the class c -/
def dFld (c f : Str) (d : D) : M D := fun S => match insOf S d with
  | some (c', fs) => if c' = c then (match fs.lookup f with
      | some d => .ok d S
      | none => .bad) else .bad
  | none => .bad
/-- it is an instance of the class c without an attribute m of its own -/
def isA (c m : Str) (d : D) : M Unit := fun S => match insOf S d with
  | some (c', fs) => if c' = c then (match fs.lookup m with
      | some _ => .bad
      | none => .ok () S) else .bad
  | none => .bad
def setF (c f : Str) (o v : D) : M Unit := fun S => match o with
  | .ptr k => match S.cells[k]? with
    | some (.ins c' fs) => if c' = c then (if fs.length < 900 then .ok () (S.put k (.ins c (putFD f v fs))) else .bad) else .bad
    | _ => .bad
  | _ => .bad
/-- what is known of a class -/
structure CI (K : PySem.W.Frag) (mg : Str → Option Value) (c : Str) (C : Addr) : Prop where
  mg : mg c = some (.ref C)
  cl : Cls K C
theorem FReps.zip {K : PySem.W.Frag} {G : Gh} {H : Hp} : ∀ {gs : List (Str × V)} {ns : List Str} {ds : List D}, gs.map Prod.fst = ns → Reps K G H (gs.map Prod.snd) ds → FReps K G H gs (ns.zip ds)
  | [], _, _, e, r => by subst e; cases r; exact .nil
  | (k, v) :: gs, _, _, e, r => by
    subst e
    cases r with
    | cons r t => exact .cons r (FReps.zip rfl t)
theorem ins_of {K : PySem.W.Frag} {mg : Str → Option Value} {G : Gh} {H : Hp} {S : MS} {v : V} {d : D} {c : Str} {C : Addr} {fs : List (Str × D)} (w : Wf K mg G H S) (r : Rep K G H v d) (e : insOf S d = some (c, fs)) (T : mg c = some (.ref C)) :
    ∃ a dx gs, v = .ref a ∧ H a = some (.ins C dx gs) ∧ FReps K G H gs fs := by
  cases r with
  | ptr q =>
    rename_i a k
    unfold insOf at e
    cases q1 : S.cells[k]? with
    | none => simp only [q1] at e; cases e
    | some cc =>
      cases cc with
      | ins c' fs' =>
        simp only [q1] at e; cases e
        obtain ⟨C', dx, gs, m, h, t⟩ := w.cell k _ _ q1 q
        rw [T] at m; cases m
        exact ⟨_, dx, gs, rfl, h, t⟩
      | lst _ => simp only [q1] at e; cases e
      | dic _ => simp only [q1] at e; cases e
      | out => simp only [q1] at e; cases e
  | obj p m h n en t =>
    cases e
    rw [w.hmg, T] at m; cases m
    exact ⟨_, _, _, rfl, h, FReps.zip en t⟩
  | _ => cases e
theorem ins_ptr {K : PySem.W.Frag} {mg : Str → Option Value} {G : Gh} {H : Hp} {S : MS} {v : V} {k : Nat} {c : Str} {C : Addr} {fs : List (Str × D)} (w : Wf K mg G H S) (r : Rep K G H v (.ptr k)) (e : S.cells[k]? = some (.ins c fs)) (T : mg c = some (.ref C)) :
    ∃ a dx gs, v = .ref a ∧ G.φ[k]? = some a ∧ H a = some (.ins C dx gs) ∧ FReps K G H gs fs := by
  cases r with
  | ptr q =>
    obtain ⟨C', dx, gs, m, h, t⟩ := w.cell k _ _ e q
    rw [T] at m; cases m
    exact ⟨_, dx, gs, rfl, q, h, t⟩
section
variable {X : Cx} {W : WX} {ρ : List Slot} {a b c e o : Expr} {es : List Expr} {m mo mv : M D} {ms : List (M D)} {pos p apos p2 : Pos}
theorem ed_fld {cn f : Str} {CA : Addr} (T : CI X.K X.mg cn CA) (n : NoAttr X.K CA f) (he : ED X W ρ e m) (hb : attributeBase e f X.env (eval e X.env) = eval e X.env := by rfl) : ED X W ρ (.Attribute e f pos) (una (dFld cn f) m) :=
  PE.imp (pe_fld he hb) fun σ H Q ⟨G0, H0, G, S, si, h⟩ => ⟨G0, H0, G, S, si, okG.bind h fun G1 H1 S1 x d s1 f1 r1 h1 => by
    unfold dFld at h1
    cases q : insOf S1 d with
    | none => simp only [q] at h1; exact h1.elim
    | some cc =>
      obtain ⟨c', fs⟩ := cc
      simp only [q] at h1
      by_cases ec : c' = cn
      · subst ec
        simp only [if_true] at h1
        obtain ⟨a, dx, gs, ev, ha, t⟩ := ins_of s1.wf r1 q T.mg
        cases ql : fs.lookup f with
        | none => simp only [ql] at h1; exact h1.elim
        | some d' =>
          simp only [ql] at h1
          obtain ⟨v, hv, rv⟩ := t.look.1 d' ql
          exact ⟨a, CA, dx, gs, v, ev, ha, T.cl, n, hv, okG.here h1 s1 rv⟩
      · rw [if_neg ec] at h1; exact h1.elim⟩
variable {C L : Type} {k : Ct C L} {rest : List Stmt}
/-- o.f = e -/
theorem sd_fld {cn f : Str} {CA : Addr} {mr : M (Fl C L)} (w : Wk ρ k.x) (T : CI X.K X.mg cn CA) (n : NoAttr X.K CA f) (ho : ED X k.W ρ o mo) (he : ED X k.W ρ e mv) (hr : SD X k ρ rest mr) (hs : swapsWith e (some (.Attribute o f p)) pos.line X.env = pure false := by rfl) :
    SD X k ρ (.Assign [.Attribute o f p] e pos :: rest) (mv.bind fun v => mo.bind fun o => (setF cn f o v).bind fun _ => mr) :=
  PSs.imp (pss_cons (ps_fld ho he hs) hr) fun D σ H ⟨G0, H0, G, S, si, h⟩ => ⟨G0, H0, G, S, si, okS.bind2 h w fun G1 H1 S1 v d s1 f1 r1 h1 => ⟨G0, H0, G1, S1, s1, okS.bind2 h1 w fun G2 H2 S2 ov od s2 f2 r2 h2 => by
    have rv : Rep X.K G2 H2 v d := Rep.mono f2 r1
    unfold setF M.bind at h2
    cases od with
    | ptr kk =>
      cases q : S2.cells[kk]? with
      | none => simp only [q] at h2; exact h2.elim
      | some cc =>
        cases cc with
        | ins c' fs =>
          simp only [q] at h2
          by_cases ec : c' = cn
          · subst ec
            simp only [if_true] at h2
            by_cases hz : fs.length < 900
            · rw [if_pos hz] at h2
              obtain ⟨a, dx, gs, ev, hk, ha, t⟩ := ins_ptr s2.wf r2 q T.mg
              have nz := s2.wf.nz _ _ _ q hk (by intro h; cases h)
              have lr : LR G2 H2 G2 (upd H2 a (.ins CA dx (putF f v gs))) := .put ha (fun z => z) (.inl (.inl ⟨List.mem_of_getElem? hk, nz⟩))
              refine ⟨a, CA, dx, gs, ev, ha, T.cl, n, by rw [t.length]; omega, ?_⟩
              exact ⟨G0, H0, G2, _, s2.putC (c := .ins c' (putFD f d fs)) hk ha (fun z => z) nz ⟨CA, dx, _, T.mg, upd_same, (FReps.put rv t).lr lr⟩, okS.from h2 lr⟩
            · rw [if_neg hz] at h2; exact h2.elim
          · rw [if_neg ec] at h2; exact h2.elim
        | lst _ => simp only [q] at h2; exact h2.elim
        | dic _ => simp only [q] at h2; exact h2.elim
        | out => simp only [q] at h2; exact h2.elim
    | _ => exact h2.elim⟩⟩
/-- the side conditions of calls: no star among the arguments -/
abbrev NS1 (X : Cx) (e : Expr) (es : List Expr) : Prop := starEach (e :: es) X.env = (false, eval e X.env) :: starEach es X.env
abbrev NS2 (X : Cx) (pos : Pos) (es : List Expr) : Prop := (backTo pos (starEach es X.env)).any (·.1) = false
/-- how the call of a method runs -/
abbrev MC (X : Cx) (o : Expr) (mn : Str) (apos pos : Pos) (es : List Expr) (pl : Sem Bool) : Prop :=
  eval (.Call (.Attribute o mn apos) es [] pos) X.env = (eval o X.env >>= fun ov => standAt apos.atName >>= fun _ => holding [ov] (getMethod ov mn pl) >>= fun fb => callWith pos fb.1 fb.2 (backTo pos (starEach es X.env)) (backToKw pos (keywordEach [] X.env)))
/-! ### methods -/
def tMethV (C : Addr) (m : Str) (sp : Sp) (E : L2.St → XK) (ta : TE) (t : TA) : TE := fun σ H Q => ta σ H fun x H1 => ∃ a dx fs, x = .ref a ∧ H1 a = some (.ins C dx fs) ∧ fs.lookup m = none ∧ t σ H1 fun vs H2 => sp (x :: vs) H2 Q (E σ)
theorem pe_methV {CX : CXT} {kk : Nat} {f CA : Addr} {fd : FuncData} {ps : List Str} {sp : Sp} {E : L2.St → XK} {mn : Str} {ta : TE} {t : TA} {pl : Sem Bool} (he : PE X o ta) (c : Cls X.K CA) (hm : Meth X.K CA mn f) (F : FnOk X.prog X.w X.K X.mg X.base CX kk f fd ps sp) (hr : Room kk X.A) (hb : Binds X.K fd ps []) (hx : ∀ σ, PassesAt CX X σ (E σ)) (ha : PA X (e :: es) t)
    (hst : NS1 X e es := by rfl) (hpl : NS2 X pos es := by rfl)
    (ht : MC X o mn apos pos (e :: es) pl := by rfl) :
    PE X (.Call (.Attribute o mn apos) (e :: es) [] pos) (tMethV CA mn sp E ta t) := by
  constructor
  intro pins s σ H Q I h
  refine PySem.W.methodCall_KW (pl := pl) (wpAny_mono (he.run pins s σ H _ I h) ?_ fun _ _ z => z) ht
  rintro u t1 ⟨x, H1, J1, rx, a, dx, fs, ex, ea, nl, w⟩
  subst ex
  cases rx
  refine getmeth_ok J1 ea c hm nl (PySem.W.callWith_K (first := [.ref a]) (h₀ := X.base) I.ok.mod.kin hm.kp (wpAny_mono (ha.run pos pins t1 σ H1 _ J1 w) ?_ fun _ _ z => z) hst hpl)
  rintro us t2 ⟨vs, H2, J2, rs, w2⟩
  exact ⟨J2.kIn, run_fnS (vs := V.ref a :: vs) (us := Value.ref a :: us) F hr hb (hx σ) J2 (.cons rfl rs) w2⟩
def methM (cn mn : Str) (g : List D → M D) (mo : M D) (ms : List (M D)) : M D := mo.bind fun o => (isA cn mn o).bind fun _ => (argsM ms).bind fun ds => g (o :: ds)
theorem args_len : ∀ {ms : List (M D)} {S S1 : MS} {ds : List D}, argsM ms S = .ok ds S1 → ds.length = ms.length
  | [], S, S1, ds, e => by cases e; rfl
  | m :: ms, S, S1, ds, e => by
    unfold argsM M.bind at e
    cases e1 : m S with
    | ok d S2 =>
      rw [e1] at e
      simp only at e
      cases e2 : argsM ms S2 with
      | ok ds' S3 =>
        rw [e2] at e
        cases e
        rw [List.length_cons, List.length_cons, args_len e2]
      | err _ _ => rw [e2] at e; cases e
      | bad => rw [e2] at e; cases e
    | err _ _ => rw [e1] at e; cases e
    | bad => rw [e1] at e; cases e
theorem isA_ok {K : PySem.W.Frag} {mg : Str → Option Value} {α β : Type} {R : Gh → Hp → β → α → Prop} {G0 G : Gh} {H0 H : Hp} {σ : L2.St} {S : MS} {Q : β → Hp → Prop} {cn mn : Str} {CA : Addr} {v : V} {d : D} {f : Unit → M α} (si : SI K mg G0 H0 G H σ ρ S) (r : Rep K G H v d) (T : mg cn = some (.ref CA))
    (h : okG K mg W R G0 H0 G H σ ρ Q ((isA cn mn d).bind f S)) : (∃ a dx gs, v = .ref a ∧ H a = some (.ins CA dx gs) ∧ gs.lookup mn = none) ∧ okG K mg W R G0 H0 G H σ ρ Q (f () S) := by
  unfold isA M.bind at h
  cases q : insOf S d with
  | none => simp only [q] at h; exact h.elim
  | some cc =>
    obtain ⟨c', fs⟩ := cc
    simp only [q] at h
    by_cases ec : c' = cn
    · subst ec
      simp only [if_true] at h
      obtain ⟨a, dx, gs, ev, ha, t⟩ := ins_of si.wf r q T
      cases ql : fs.lookup mn with
      | none => simp only [ql] at h; exact ⟨⟨a, dx, gs, ev, ha, t.look.2 ql⟩, h⟩
      | some d' => simp only [ql] at h; exact h.elim
    · rw [if_neg ec] at h; exact h.elim
theorem ed_meth {kk n : Nat} {f CA : Addr} {fd : FuncData} {ps : List Str} {g : List D → M D} {cn mn : Str} {pl : Sem Bool} (T : CI X.K X.mg cn CA) (hm : Meth X.K CA mn f) (F : FnOk X.prog X.w X.K X.mg X.base (L2.CX X.prog X.w) kk f fd ps (spD X.K X.mg n g)) (tk : Takes X W) (hr : Room kk X.A) (hb : Binds X.K fd ps []) (ho : ED X W ρ o mo) (ha : EA X W ρ (e :: es) (argsM ms)) (hl : ms.length + 1 = n := by rfl)
    (hst : NS1 X e es := by rfl) (hpl : NS2 X pos es := by rfl)
    (ht : MC X o mn apos pos (e :: es) pl := by rfl) :
    ED X W ρ (.Call (.Attribute o mn apos) (e :: es) [] pos) (methM cn mn g mo ms) :=
  PE.imp (pe_methV (pl := pl) ho T.cl hm F hr hb (fun σ => passAt tk σ) ha hst hpl ht) fun σ H Q ⟨G0, H0, G, S, si, h⟩ => ⟨G0, H0, G, S, si, okG.bind h fun G1 H1 S1 x d s1 f1 r1 h1 => by
    obtain ⟨⟨a, dx, gs, ev, ea, el⟩, h1⟩ := isA_ok s1 r1 T.mg h1
    refine ⟨a, dx, gs, ev, ea, el, G0, H0, G1, S1, s1, ?_⟩
    unfold M.bind at h1
    cases q : argsM ms S1 with
    | ok ds S2 =>
      rw [q] at h1
      exact fun vs G2 H2 s2 f2 r2 => ⟨G2, S2, d :: ds, by rw [List.length_cons, args_len q, hl], .cons (Rep.mono f2 r1) r2, s2.wf, okF_of (okG.from h1 f2) s2⟩
    | err _ _ => rw [q] at h1; exact h1
    | bad => rw [q] at h1; exact h1⟩
/-! ### a new instance -/
def newM (cn : Str) (g : List D → M D) (ms : List (M D)) : M D := (argsM ms).bind fun ds S => match g (.ptr S.cells.length :: ds) { S with cells := S.cells ++ [.ins cn []] } with
  | .ok .non S' => .ok (.ptr S.cells.length) S'
  | .ok _ _ => .bad
  | .err e S' => .err e S'
  | .bad => .bad
theorem alloc_ins {K : PySem.W.Frag} {mg : Str → Option Value} {G : Gh} {H : Hp} {S : MS} {x dx CA : Addr} {cn : Str} (w : Wf K mg G H S) (hx : H x = none) (hd : H dx = none) (ne : dx ≠ x) (T : mg cn = some (.ref CA)) :
    FR G H { G with φ := G.φ ++ [x] } (upd (upd H dx (.own x)) x (.ins CA dx [])) ∧ Wf K mg { G with φ := G.φ ++ [x] } (upd (upd H dx (.own x)) x (.ins CA dx [])) { S with cells := S.cells ++ [.ins cn []] } := by
  have keep : ∀ b u, H b = some u → (upd (upd H dx (.own x)) x (.ins CA dx [])) b = some u := fun b u e => by rw [upd_ne (ne_of_none e hx), upd_ne (ne_of_none e hd)]; exact e
  have cc : ∀ b, Gh.cell { G with φ := G.φ ++ [x] } b → G.cell b ∨ b = x := fun b h => by
    rcases h with h | h | h
    · rcases List.mem_append.mp h.1 with k | h'
      · exact .inl (.inl ⟨k, h.2⟩)
      · have h := h'; exact Or.inr (List.mem_singleton.mp h)
    · exact .inl (.inr (.inl h))
    · exact .inl (.inr (.inr h))
  have fr : FR G H { G with φ := G.φ ++ [x] } (upd (upd H dx (.own x)) x (.ins CA dx [])) :=
    ⟨List.prefix_append _ _, rfl, rfl, rfl, fun b u e _ => keep b u e, fun b h => (cc b h).elim .inl fun e => by rw [e]; exact .inr hx, fun b h => .inl h, fun b h => h, fun b u e => ⟨u, keep b u e⟩⟩
  have nx : ∀ b, G.mu b → b ≠ x := fun b h e => by
    obtain ⟨u, q⟩ := w.live b h
    rw [e, hx] at q; cases q
  refine ⟨fr, ⟨?_, ?_, ?_, ?_, keep _ _ w.ha, keep _ _ w.hb, w.sab, ?_, ?_, w.zs, w.hmg, ?_, fun b h => ?_, fun b h => ⟨fun q => ?_, (w.zo b h).2⟩⟩⟩
  · show (G.φ ++ [x]).length = (S.cells ++ [Cell.ins cn []]).length
    rw [List.length_append, List.length_append, w.len]
    rfl
  · show (G.φ ++ [x]).Nodup
    rw [List.nodup_append]
    refine ⟨w.nd, by simp, fun a ha b hb => ?_⟩
    have e : b = x := by simpa using hb
    rw [e]
    exact fun e => by
      obtain ⟨u, q⟩ := w.phi ha
      rw [e, hx] at q; cases q
  · intro i c a h1 h2
    have h1 : (S.cells ++ [Cell.ins cn []])[i]? = some c := h1
    have h2 : (G.φ ++ [x])[i]? = some a := h2
    by_cases hi : i < S.cells.length
    · rw [List.getElem?_append_left hi] at h1
      rw [List.getElem?_append_left (by rw [w.len]; exact hi)] at h2
      have q := w.cell i c a h1 h2
      cases c with
      | lst ds => obtain ⟨xs, e, z, t⟩ := q; exact ⟨xs, keep _ _ e, z, t.mono fr⟩
      | dic kvs => obtain ⟨xs, e, z, t⟩ := q; exact ⟨xs, keep _ _ e, z, t.mono fr⟩
      | ins c fs => obtain ⟨C, dx, gs, m, e, t⟩ := q; exact ⟨C, dx, gs, m, keep _ _ e, t.mono fr⟩
      | out => trivial
    · rw [List.getElem?_append_right (by omega)] at h1
      rw [List.getElem?_append_right (by rw [w.len]; omega)] at h2
      have ei : i - S.cells.length = 0 := by
        have := (List.getElem?_eq_some_iff.mp h1).1
        simp at this
        omega
      rw [ei] at h1
      rw [w.len, ei] at h2
      cases h1; cases h2
      exact ⟨CA, dx, [], T, upd_same, .nil⟩
  · intro b h
    rcases h with h | h
    · rcases cc b h with h | h
      · obtain ⟨u, e⟩ := w.live b (.inl h)
        exact ⟨u, keep _ _ e⟩
      · rw [h]; exact ⟨_, upd_same⟩
    · obtain ⟨u, e⟩ := w.live b (.inr h)
      exact ⟨u, keep _ _ e⟩
  · intro h
    rcases List.mem_append.mp (show G.sa ∈ G.φ ++ [x] from h) with h | h
    · exact w.na h
    · exact nx G.sa (.inl (.inr (.inl rfl))) (by simpa using h)
  · intro h
    rcases List.mem_append.mp (show G.sb ∈ G.φ ++ [x] from h) with h | h
    · exact w.nb h
    · exact nx G.sb (.inl (.inr (.inr rfl))) (by simpa using h)
  · intro i c a h1 h2 hn z
    have h1 : (S.cells ++ [Cell.ins cn []])[i]? = some c := h1
    have h2 : (G.φ ++ [x])[i]? = some a := h2
    have z : G.Z a := z
    by_cases hi : i < S.cells.length
    · rw [List.getElem?_append_left hi] at h1
      rw [List.getElem?_append_left (by rw [w.len]; exact hi)] at h2
      exact w.nz i c a h1 h2 hn z
    · rw [List.getElem?_append_right (by rw [w.len]; omega)] at h2
      have e : a = x := by simpa using List.mem_of_getElem? h2
      obtain ⟨u, q⟩ := w.zl a z
      rw [e, hx] at q; cases q
  · obtain ⟨u, e⟩ := w.zl b h
    exact ⟨u, keep _ _ e⟩
  · rcases List.mem_append.mp (show b ∈ G.φ ++ [x] from q) with q | q
    · exact (w.zo b h).1 q
    · exact nx b (.inr h) (by simpa using q)
def tMakeV (C : Addr) (sp : Sp) (E : L2.St → XK) (t : TA) : TE := fun σ H Q => t σ H fun vs H1 => ∀ x dx, H1 x = none → H1 dx = none → dx ≠ x →
  sp (.ref x :: vs) (upd (upd H1 dx (.own x)) x (.ins C dx [])) (fun v H2 => v = .non ∧ Q (.ref x) H2) (E σ)
theorem pe_makeV {CX : CXT} {kk : Nat} {f CA : Addr} {fd : FuncData} {ps : List Str} {sp : Sp} {E : L2.St → XK} {x : Str} {t : TA} (M : Mk X.K CA f) (F : FnOk X.prog X.w X.K X.mg X.base CX kk f fd ps sp) (hr : Room (kk + 1) X.A) (hg : Gl X x) (hm : X.mg x = some (.ref CA)) (hb : Binds X.K fd ps []) (hx : ∀ σ, PassesAt CX X σ (E σ))
    (ha : PA X (e :: es) t) (hdb : (x == ("__debug__" : Str)) = false := by decide) (he : NS1 X e es := by rfl) (hpl : NS2 X pos es := by rfl) :
    PE X (.Call (.Name x p) (e :: es) [] pos) (tMakeV CA sp E t) := by
  constructor
  intro pins s σ H Q I h
  refine wpAny_Call_Name_kw (ld_glob I hg hm (PySem.W.callWith_K (h₀ := X.base) I.ok.mod.kin M.kp (wpAny_mono (ha.run pos pins s σ H _ I h) ?_ fun _ _ z => z) he hpl) hdb)
  rintro us t1 ⟨vs, H1, J1, rs, w⟩
  refine ⟨J1.kIn, ?_⟩
  -- the new instance stands at n, its dict ahead of it
  generalize en : t1.heap.objs.size + 1 = n
  have w0 := w n t1.heap.objs.size (J1.hok.fresh (by rw [← en]; exact Nat.le_succ _)) (J1.hok.fresh (Nat.le_refl _)) (by rw [← en]; exact (Nat.succ_ne_self _).symm)
  have J2 := Inv.made (C := CA) J1
  rw [en] at J2
  have rs' : Vals (V.ref n :: vs) (Value.ref n :: us) := .cons rfl rs
  have ln : (Value.ref n :: us).length = ps.length := by rw [← rs'.length]; exact F.len _ _ _ _ w0
  have bd := hb _ (Value.ref n :: us) J2.kIn (by rw [List.append_nil]; exact ln)
  rw [List.append_nil] at bd
  have run := F.run _ X.stack _ _ ⟨Value.ref n :: us, []⟩ (Value.ref n :: us) _ _ (E σ) (hr.make CA us []) (J2.env0.make CA us []) bd rs' w0
  subst en
  refine wpAny_call (make_map (f := f) J1.kIn M.makes M.init (beq_iff_eq.mp M.fn) (codeAny_mono run ?_))
  rintro (z | fl) t2 post
  · exact hx σ pins _ _ z t2 J2 post
  · cases fl with
    | ret u =>
      obtain ⟨v, H', J3, rv, ev, w3⟩ := J2.after post
      subst ev
      exact ⟨rv, ⟨.ref (t1.heap.objs.size + 1), H', J3, rfl, w3⟩⟩
    | _ => exact post.elim
theorem ed_make {kk n : Nat} {f CA : Addr} {fd : FuncData} {ps : List Str} {g : List D → M D} {x : Str} (T : CI X.K X.mg x CA) (mk : Mk X.K CA f) (F : FnOk X.prog X.w X.K X.mg X.base (L2.CX X.prog X.w) kk f fd ps (spD X.K X.mg n g)) (tk : Takes X W) (hr : Room (kk + 1) X.A) (hb : Binds X.K fd ps []) (ha : EA X W ρ (e :: es) (argsM ms)) (hl : ms.length + 1 = n := by rfl) (hg : Gl X x := by rfl)
    (hdb : (x == ("__debug__" : Str)) = false := by decide) (he : NS1 X e es := by rfl) (hpl : NS2 X pos es := by rfl) :
    ED X W ρ (.Call (.Name x p) (e :: es) [] pos) (newM x g ms) :=
  PE.imp (pe_makeV mk F hr hg T.mg hb (fun σ => passAt tk σ) ha hdb he hpl) fun σ H Q ⟨G0, H0, G, S, si, h⟩ => ⟨G0, H0, G, S, si, by
    unfold newM M.bind at h
    cases q : argsM ms S with
    | err _ _ => rw [q] at h; exact h
    | bad => rw [q] at h; exact h
    | ok ds S1 =>
      rw [q] at h
      intro vs G1 H1 s1 f1 r1 x' dx hx hd ne
      have h := okG.from h f1
      obtain ⟨fr, wf⟩ := alloc_ins s1.wf hx hd ne T.mg
      refine ⟨{ G1 with φ := G1.φ ++ [x'] }, _, .ptr S1.cells.length :: ds, by rw [List.length_cons, args_len q, hl], .cons (.ptr ?_) (r1.mono fr), wf, ?_⟩
      · show (G1.φ ++ [x'])[S1.cells.length]? = some x'
        rw [← s1.wf.len, List.getElem?_append_right (Nat.le_refl _), Nat.sub_self]
        rfl
      · simp only at h
        cases qg : g (.ptr S1.cells.length :: ds) { S1 with cells := S1.cells ++ [.ins x []] } with
        | ok d S2 =>
          rw [qg] at h
          intro v G2 H2 fr2 wf2 rv
          cases d with
          | non =>
            cases rv
            refine ⟨rfl, h (.ref x') G2 H2 (s1.mono (fr.trans fr2) wf2) (fr.trans fr2) (.ptr ?_)⟩
            obtain ⟨t, e⟩ := fr2.pre
            rw [← e]
            show ((G1.φ ++ [x']) ++ t)[S1.cells.length]? = some x'
            rw [List.append_assoc, ← s1.wf.len, List.getElem?_append_right (Nat.le_refl _), Nat.sub_self]
            rfl
          | _ => exact h.elim
        | err _ _ =>
          rw [qg] at h
          exact fun cls da G2 H2 fr2 wf2 r2 => h cls da G2 H2 (s1.mono (fr.trans fr2) wf2) (fr.trans fr2) r2
        | bad => rw [qg] at h; exact h⟩
end
end Dl
namespace Dl
open PySem L2
/-! ### errors -/
/-- the __init__ of an error: self.f = f -/
def spExc (C : Addr) (f : Str) : Sp := fun vs H Q _ => ∃ a v, vs = [.ref a, v] ∧ H a = some (exo a C none) ∧ ∀ dx, H dx = none → dx ≠ a → Q .non (upd (upd H dx (exd dx [(f, v)])) a (exo a C (some dx)))
/-- what is known of an error's class -/
structure XI (P : Program) (w : World) (K : PySem.W.Frag) (mg : Str → Option Value) (base : Heap) (c f : Str) (C fI : Addr) (fd : FuncData) : Prop where
  hm : mg c = some (.ref C)
  ox : OexC K C
  nf : PySem.W.findIn K (.ref C) f = some none
  iC : PySem.W.findIn K (.ref C) "__init__" = some (some (.ref fI))
  tI : PySem.W.typeIn K (.ref fI) = some (.type "function")
  ok : FnOk P w K mg base (L2.CX P w) 1 fI fd ["self", f] (spExc C f)
  bd : Binds K fd ["self", f] []
theorem ok_exc {P : Program} {w : World} {K : PySem.W.Frag} {mg : Str → Option Value} {base : Heap} {x f : Str} {st : Stmt} {fI C : Addr} {fd : FuncData} {p1 p2 p3 p4 : Pos} (F : Fun K "__init__" x st fI fd) (S : FnScope ["self", f] ["self", f] (defScope st)) (hb : defBody st = [.Assign [.Attribute (.Name "self" p1) f p2] (.Name f p3) p4])
    (T : OexC K C) (n : PySem.W.findIn K (.ref C) f = some none) (hl1 : (defScope st).names.lookup ("self" : Str) = some .local := by rfl) (hl2 : (defScope st).names.lookup f = some .local := by rfl) (hd : (f == ("__debug__" : Str)) = false := by decide) (hcd : (f == ("__classdict__" : Str)) = false := by decide) : FnOk P w K mg base (L2.CX P w) 1 fI fd ["self", f] (spExc C f) := by
  refine F.okX S (fun vs H Q E h => ?_) (fun cdv A outer s H vs Q E hr h => ?_)
  · obtain ⟨a, v, rfl, _⟩ := h
    rfl
  · obtain ⟨a, v, rfl, ha, q⟩ := h
    rw [hb]
    refine ⟨_, pss_one (ps_ost (pv 0 rfl (.inl hl1)) (pv 1 rfl (.inl hl2) hd hcd)), v, rfl, .ref a, rfl, a, C, rfl, T, n, .inl ⟨ha, fun dx hd ne => ?_⟩⟩
    exact q dx hd ne
section
variable {X : Cx} {C L : Type} {k : Ct C L} {ρ : List Slot} {a b c e o : Expr} {es : List Expr} {m mo mi mv : M D} {pos p p2 cp ap : Pos} {rest sts : List Stmt}
/-- raise C(e) -/
theorem sd_raise {x f : Str} {CA fI : Addr} {fd : FuncData} (w : Wk ρ k.x) (T : XI X.prog X.w X.K X.mg X.base x f CA fI fd) (tk : Takes X k.W) (hr : Room 2 X.A) (he : ED X k.W ρ e m) (hc : X.calm = true := by rfl) (hg : Gl X x := by rfl)
    (hdb : (x == ("__debug__" : Str)) = false := by decide) (hst : starEach (e :: []) X.env = (false, eval e X.env) :: starEach [] X.env := by rfl) (hpl : (backTo p2 (starEach [] X.env)).any (·.1) = false := by rfl) :
    SD X k ρ (.Raise (some (.Call (.Name x p) [e] [] p2)) none pos :: rest) (m.bind fun d => M.raise ⟨x, f, d⟩) := by
  refine PSs.imp (pss_cons (ps_raise hc tk (pmk_oex T.ox T.iC T.tI T.ok hr T.bd .nil passL hg T.hm (pa_cons he pa_nil hst) hdb hst hpl)) pss_never) fun D σ H ⟨G0, H0, G, S, si, h⟩ => ?_
  refine ⟨G0, H0, G, S, si, okS.bind2 h w fun G1 H1 S1 v d s1 f1 r1 h1 => ?_⟩
  refine ⟨by show 1 ≤ 1000; decide, fun a ha => ⟨a, v, rfl, upd_same, fun dx hdx ne => ⟨rfl, dx, [(f, v)], upd_same, ?_, ?_, ?_⟩⟩⟩
  · rw [upd_ne ne, upd_same]
  · rw [upd_ne ne] at hdx; exact hdx
  · have hdx' : H1 dx = none := by rw [upd_ne ne] at hdx; exact hdx
    have eH : upd (del (upd (upd (upd H1 a (exo a CA none)) dx (exd dx [(f, v)])) a (exo a CA (some dx))) a) dx (.xd [(f, v)]) = upd H1 dx (.xd [(f, v)]) := by
      funext b
      by_cases e1 : b = dx
      · rw [e1, upd_same, upd_same]
      · rw [upd_ne e1, upd_ne e1]
        by_cases e2 : b = a
        · rw [e2, del_same, ha]
        · rw [del_ne e2, upd_ne e2, upd_ne e1, upd_ne e2]
    rw [eH]
    exact h1 (.ref CA) (some dx) σ G1 _ ((s1.weak w).alloc hdx') (FR.alloc hdx').lr ⟨CA, dx, v, T.hm, rfl, rfl, upd_same, s1.wf.fresh hdx', Rep.mono (.alloc hdx') r1⟩
/-- e.f of a caught error -/
theorem ed_xf {W : WX} {i : Nat} {n f : Str} {CA aa dd : Addr} {oe : Obj} {d : D} {pn : List (Addr × Obj)} {np : Pos} (T : XfC X.K CA) (hno : PySem.W.findIn X.K (.ref CA) f = some none) (hz : Zc (.ref CA) (some dd) oe) (hv : ∃ vs, oe.data = .fields vs)
    (hρ : ρ[i]? = some (.exc aa dd f d)) (hN : X.N[i]? = some n := by rfl) (hvis : Vis X.env.scope n := by first | exact Or.inl rfl | exact Or.inr (Or.inl rfl) | exact Or.inr (Or.inr rfl)) (hd : (n == ("__debug__" : Str)) = false := by decide) (hcd : (n == ("__classdict__" : Str)) = false := by decide)
    (hb : attributeBase (.Name n np) f X.env (eval (.Name n np) X.env) = eval (.Name n np) X.env := by rfl) :
    ED (X.suite aa ((aa, oe) :: pn)) W ρ (.Attribute (.Name n np) f pos) (M.pure d) :=
  PE.imp (pe_xf T hno hz hv (pv i hN hvis hd hcd) hb) fun σ H Q ⟨G0, H0, G, S, si, h⟩ => by
    obtain ⟨e, v, hdd, hmu, rv⟩ := si.env i _ hρ
    exact ⟨_, e, rfl, rfl, dd, _, v, rfl, hdd, by rw [List.lookup_cons_self], okG.here h si rv⟩
end
end Dl
namespace Dl
open PySem L2
/-! ### a def as a computation -/
def finM (m : M (Fl Unit Empty)) : M D := m.bind fun z => match z with
  | .nx _ => M.pure .non
  | .ret d => M.pure d
  | .brk l => l.elim
  | .cnt l => l.elim
/-- the context of a def's body -/
def Ct.fn (K : PySem.W.Frag) (n : Nat) (E : XK) : Ct Unit Empty := ⟨fun cls d _ H => E cls d H, List.replicate n .any, fun _ => List.replicate n .any, fun l => l.elim, fun _ G H v d => Rep K G H v d⟩
def finN (m : M (Fl Unit Empty)) : M (List D) := m.bind fun z => match z with
  | .ret (.lst ds) => M.pure ds
  | _ => M.bad
def args (n : Nat) (ds : List D) : List Slot := ds.map .val ++ List.replicate (n - ds.length) .any
section
variable {P : Program} {w : World} {K : PySem.W.Frag} {base : Heap} {mg : Str → Option Value}
theorem si_start {G : Gh} {H : Hp} {S : MS} {N : List Str} {vs : List V} {ds : List D} (wf : Wf K mg G H S) (r : Reps K G H vs ds) : SI K mg G H G H (L2.start N vs) (args N.length ds) S where
  fr := .refl G H
  live0 := wf.live
  wf := wf
  len := by unfold L2.start args; rw [List.length_append, List.length_append, List.length_map, List.length_map, List.length_replicate, List.length_replicate, r.length]
  env := fun i s h => by
    unfold args at h
    by_cases hi : i < ds.length
    · rw [List.getElem?_append_left (by rw [List.length_map]; exact hi), List.getElem?_map] at h
      cases q : ds[i]? with
      | none => rw [q] at h; cases h
      | some d =>
        rw [q] at h
        cases h
        obtain ⟨v, hv, rv⟩ := r.get q
        refine ⟨v, ?_, rv⟩
        unfold L2.start
        rw [List.getElem?_append_left (by rw [List.length_map, r.length]; exact hi), List.getElem?_map, hv]
        rfl
    · rw [List.getElem?_append_right (by rw [List.length_map]; omega), List.getElem?_replicate] at h
      split at h
      · cases h; trivial
      · cases h
  apart := fun i j ds' es l n h1 => by
    unfold args at h1
    by_cases hi : i < ds.length
    · rw [List.getElem?_append_left (by rw [List.length_map]; exact hi), List.getElem?_map] at h1
      cases q : ds[i]? with
      | none => rw [q] at h1; cases h1
      | some d => rw [q] at h1; cases h1
    · rw [List.getElem?_append_right (by rw [List.length_map]; omega), List.getElem?_replicate] at h1
      split at h1
      · cases h1
      · cases h1
/-- THE RULE for a def: its body's computation -/
theorem fn_of_D {x qual : Str} {st : Stmt} {f : Addr} {fd : FuncData} {N ps : List Str} {k : Nat} {g : List D → M D} (F : Fun K x qual st f fd) (S : FnScope N ps (defScope st))
    (hb : ∀ (ds : List D), ds.length = ps.length → ∀ (cdv : Value) (A : Around) (outer : List Env) (s : Shared) (H : Hp) (E : XK), Room k (A.deeper (PyProof.Rows.envOfC qual (defScope st) s.heap.objs.size f cdv)) →
      Takes (cxOf (L2.CX P w) P w K mg base N qual (defScope st) f cdv A outer s H E) (fun cls d _ H => E cls d H) → PassesOwn (model P w) (A.deeper (PyProof.Rows.envOfC qual (defScope st) s.heap.objs.size f cdv)) (PyProof.Rows.envOfC qual (defScope st) s.heap.objs.size f cdv) (cxOf (L2.CX P w) P w K mg base N qual (defScope st) f cdv A outer s H E).xe →
      ∃ m : M (Fl Unit Empty), g ds = finM m ∧ SD (cxOf (L2.CX P w) P w K mg base N qual (defScope st) f cdv A outer s H E) (Ct.fn K N.length E) (args N.length ds) (defBody st) m) :
    FnOk P w K mg base (L2.CX P w) (k + 1) f fd ps (spD K mg ps.length g) := by
  refine F.okX S (fun vs H Q E h => spD_len h) (fun cdv A outer s H vs Q E hr h => ?_)
  obtain ⟨G, S', ds, hl, r, wf, h⟩ := h
  obtain ⟨m, e, hm⟩ := hb ds hl cdv A outer s H E hr (takes_of rfl rfl rfl rfl) (passes_of rfl)
  refine ⟨_, hm, G, H, G, S', si_start wf r, ?_⟩
  rw [e] at h
  unfold finM M.bind at h
  cases q : m S' with
  | ok z S1 =>
    rw [q] at h
    cases z with
    | nx c => exact fun σ G' H' s' _ => h .non G' H' s'.fr s'.wf .non
    | ret d => exact fun v G' H' fr wf r => h v G' H' fr wf r
    | brk l => exact l.elim
    | cnt l => exact l.elim
  | err x S1 =>
    rw [q] at h
    exact fun cls da σ G' H' s' _ r => h cls da G' H' s'.fr s'.wf r
  | bad => rw [q] at h; exact h
end
/-! ### what a caller must know of defs, methods, classes, errors -/
section
variable (P : Program) (w : World) (K : PySem.W.Frag) (mg : Str → Option Value) (base : Heap)
def FI (x : Str) (ps : List Str) (k : Nat) (g : List D → M D) : Prop :=
  ∃ f fd, mg x = some (.ref f) ∧ PySem.W.keepIn K (.ref f) = true ∧ Binds K fd ps [] ∧ FnOk P w K mg base (L2.CX P w) k f fd ps (spD K mg ps.length g)
def MI (c m : Str) (ps : List Str) (k : Nat) (g : List D → M D) : Prop :=
  ∃ C f fd, CI K mg c C ∧ Meth K C m f ∧ Binds K fd ps [] ∧ FnOk P w K mg base (L2.CX P w) k f fd ps (spD K mg ps.length g)
def KI (c : Str) (ps : List Str) (k : Nat) (g : List D → M D) : Prop :=
  ∃ C f fd, CI K mg c C ∧ Mk K C f ∧ Binds K fd ps [] ∧ FnOk P w K mg base (L2.CX P w) k f fd ps (spD K mg ps.length g)
def EI (c f : Str) : Prop := ∃ C fI fd, XI P w K mg base c f C fI fd
/-- what a clause that catches an error must know -/
def EX (c f : Str) : Prop := ∃ C, mg c = some (.ref C) ∧ PySem.W.exmOne K (.ref C) (.ref C) = some true ∧ XfC K C ∧ PySem.W.findIn K (.ref C) f = some none
/-- a field that no class has as an attribute of its own -/
def NA (c f : Str) : Prop := ∃ C, CI K mg c C ∧ NoAttr K C f
end
section
variable {X : Cx} {W : WX} {ρ : List Slot} {a b c e o : Expr} {es : List Expr} {m mo mv : M D} {ms : List (M D)} {pos p apos p2 : Pos}
theorem ed_callF {x : Str} {ps : List Str} {k : Nat} {g : List D → M D} (F : FI X.prog X.w X.K X.mg X.base x ps k g) (tk : Takes X W) (hr : Room k X.A) (ha : EA X W ρ (e :: es) (argsM ms)) (hl : ms.length = ps.length := by rfl) (hn : (e :: es).length = ps.length := by rfl) (hg : Gl X x := by rfl)
    (hdb : (x == ("__debug__" : Str)) = false := by decide) (he : NS1 X e es := by rfl) (hpl : NS2 X pos es := by rfl) :
    ED X W ρ (.Call (.Name x p) (e :: es) [] pos) (callM g ms) := by
  obtain ⟨f, fd, h1, h2, h3, h4⟩ := F
  exact ed_call h4 tk hr h1 h2 h3 ha hn hg hdb he hpl hl
theorem ed_methF {cn mn : Str} {ps : List Str} {k : Nat} {g : List D → M D} {pl : Sem Bool} (F : MI X.prog X.w X.K X.mg X.base cn mn ps k g) (tk : Takes X W) (hr : Room k X.A) (ho : ED X W ρ o mo) (ha : EA X W ρ (e :: es) (argsM ms)) (hl : ms.length + 1 = ps.length := by rfl)
    (hst : NS1 X e es := by rfl) (hpl : NS2 X pos es := by rfl)
    (ht : MC X o mn apos pos (e :: es) pl := by rfl) :
    ED X W ρ (.Call (.Attribute o mn apos) (e :: es) [] pos) (methM cn mn g mo ms) := by
  obtain ⟨C, f, fd, h1, h2, h3, h4⟩ := F
  exact ed_meth (pl := pl) h1 h2 h4 tk hr h3 ho ha hl hst hpl ht
theorem ed_makeF {x : Str} {ps : List Str} {k : Nat} {g : List D → M D} (F : KI X.prog X.w X.K X.mg X.base x ps k g) (tk : Takes X W) (hr : Room (k + 1) X.A) (ha : EA X W ρ (e :: es) (argsM ms)) (hl : ms.length + 1 = ps.length := by rfl) (hg : Gl X x := by rfl)
    (hdb : (x == ("__debug__" : Str)) = false := by decide) (he : NS1 X e es := by rfl) (hpl : NS2 X pos es := by rfl) :
    ED X W ρ (.Call (.Name x p) (e :: es) [] pos) (newM x g ms) := by
  obtain ⟨C, f, fd, h1, h2, h3, h4⟩ := F
  exact ed_make h1 h2 h4 tk hr h3 ha hl hg hdb he hpl
theorem ed_fldF {cn f : Str} (T : NA X.K X.mg cn f) (he : ED X W ρ e m) (hb : attributeBase e f X.env (eval e X.env) = eval e X.env := by rfl) : ED X W ρ (.Attribute e f pos) (una (dFld cn f) m) := by
  obtain ⟨C, h1, h2⟩ := T
  exact ed_fld h1 h2 he hb
variable {C L : Type} {k : Ct C L} {rest : List Stmt}
theorem sd_fldF {cn f : Str} {mr : M (Fl C L)} (w : Wk ρ k.x) (T : NA X.K X.mg cn f) (ho : ED X k.W ρ o mo) (he : ED X k.W ρ e mv) (hr : SD X k ρ rest mr) (hs : swapsWith e (some (.Attribute o f p)) pos.line X.env = pure false := by rfl) :
    SD X k ρ (.Assign [.Attribute o f p] e pos :: rest) (mv.bind fun v => mo.bind fun o => (setF cn f o v).bind fun _ => mr) := by
  obtain ⟨CA, h1, h2⟩ := T
  exact sd_fld w h1 h2 ho he hr hs
theorem sd_raiseF {x f : Str} (w : Wk ρ k.x) (T : EI X.prog X.w X.K X.mg X.base x f) (tk : Takes X k.W) (hr : Room 2 X.A) (he : ED X k.W ρ e m) (hc : X.calm = true := by rfl) (hg : Gl X x := by rfl)
    (hdb : (x == ("__debug__" : Str)) = false := by decide) (hst : starEach (e :: []) X.env = (false, eval e X.env) :: starEach [] X.env := by rfl) (hpl : (backTo p2 (starEach [] X.env)).any (·.1) = false := by rfl) :
    SD X k ρ (.Raise (some (.Call (.Name x p) [e] [] p2)) none pos :: rest) (m.bind fun d => M.raise ⟨x, f, d⟩) := by
  obtain ⟨CA, fI, fd, T⟩ := T
  exact sd_raise w T tk hr he hc hg hdb hst hpl
end
/-! ### the law's stream -/
def fill : List Int → Int → Int → List Int × Int × Int
  | [], cur, mix => ([], cur, mix)
  | x :: xs, cur, mix => if cur = 0 then (if x < 10 ^ 18 then fill xs 0 ((mix * 31 + x + 7) % 2147483647) else (xs, x, mix)) else (x :: xs, cur, mix)
def Strm.full (s : Strm) : Strm := let f := fill s.xs s.cur s.mix; ⟨f.1, f.2.1, s.cnt, f.2.2⟩
def Strm.mixd (s : Strm) : Int := ((s.mix + 104729 * (s.cnt + 1) + 17) ^ 5) % 2147483629
def Strm.last (s : Strm) : Int := ((s.mixd * 48271 + 40503 * (s.cnt + 1) * (s.cnt + 1) + 13) ^ 3) % 1000000007
def Strm.take (s : Strm) (n : Int) : Int := if 0 < s.full.cur then s.full.cur % n else s.full.last % n
def Strm.next (s : Strm) (n : Int) : Strm := if 0 < s.full.cur then { s.full with cur := s.full.cur / n } else { s.full with cnt := s.full.cnt + 1 }
/-- a stream from which so many numbers may be drawn -/
def Strm.good (s : Strm) : Bool := decide (0 ≤ s.mix) && decide (s.mix < 2147483647) && decide (0 ≤ s.cnt) && decide (s.cnt < 8388607) && decide (0 ≤ s.cur)
def drawD (st n : D) : M D := fun S => match st, n with
  | .strm, .int n => if (decide (0 < n) && decide (n < 18446744073709551616) && S.st.good) = true then .ok (.int (S.st.take n)) { S with st := S.st.next n } else .bad
  | _, _ => .bad
theorem fill_mix : ∀ (xs : List Int) (cur mix : Int), 0 ≤ mix → mix < 2147483647 → 0 ≤ (fill xs cur mix).2.2 ∧ (fill xs cur mix).2.2 < 2147483647
  | [], cur, mix, h1, h2 => ⟨h1, h2⟩
  | x :: xs, cur, mix, h1, h2 => by
    unfold fill
    by_cases e : cur = 0
    · rw [if_pos e]
      by_cases q : x < 10 ^ 18
      · rw [if_pos q]
        exact fill_mix xs 0 _ (Int.emod_nonneg _ (by decide)) (Int.emod_lt_of_pos _ (by decide))
      · rw [if_neg q]; exact ⟨h1, h2⟩
    · rw [if_neg e]; exact ⟨h1, h2⟩
theorem fill_cur : ∀ (xs : List Int) (cur mix : Int), 0 ≤ cur → 0 ≤ (fill xs cur mix).2.1
  | [], cur, mix, h => h
  | x :: xs, cur, mix, h => by
    unfold fill
    by_cases e : cur = 0
    · rw [if_pos e]
      by_cases q : x < 10 ^ 18
      · rw [if_pos q]; exact fill_cur xs 0 _ (Int.le_refl _)
      · rw [if_neg q]
        have : (10 : Int) ^ 18 ≤ x := Int.not_lt.mp q
        exact Int.le_trans (by decide) this
    · rw [if_neg e]; exact h
end Dl
namespace Dl
open PySem L2
/-! ### new lists -/
section
variable {X : Cx} {W : WX} {ρ : List Slot} {a b c e o : Expr} {es : List Expr} {m mo mv ma mb : M D} {ms : List (M D)} {pos p apos p2 : Pos} {tc : M Bool} {na nb : M (List D)}
/-- xs * n, a new list -/
def repM (a : M (List D)) (b : M D) : M (List D) := a.bind fun ds => b.bind fun k => match k with
  | .int k => gd (decide (-(2 ^ 63) ≤ k) && decide (k < 2 ^ 63) && szOk (ds.length * k.toNat)) (M.pure (List.replicate k.toNat ds).flatten)
  | _ => M.bad
/-- a new list that will change: it gets a pointer -/
def boxM (m : M (List D)) : M D := m.bind fun ds S => .ok (.ptr S.cells.length) { S with cells := S.cells ++ [.lst ds] }
theorem box_ok {K : PySem.W.Frag} {mg : Str → Option Value} {G0 G : Gh} {H0 H : Hp} {σ : L2.St} {S : MS} {l : Addr} {xs : List V} {ds : List D} (s : SI K mg G0 H0 G H σ ρ S) (hl : H l = some (.lst xs)) (z : xs.length ≤ sizeLine) (ho : G.O l) (hc : ¬ G.cell l) (h0 : H0 l = none) (t : Reps K G H xs ds)
    (own : ∀ (i : Nat) (es : List D), ρ[i]? = some (.own es) → σ[i]? ≠ some (some (V.ref l))) :
    SI K mg G0 H0 { G with φ := G.φ ++ [l], O := fun b => b ≠ l ∧ G.O b } H σ ρ { S with cells := S.cells ++ [.lst ds] } ∧ Rep K { G with φ := G.φ ++ [l], O := fun b => b ≠ l ∧ G.O b } H (.ref l) (.ptr S.cells.length) := by
  let G' : Gh := { G with φ := G.φ ++ [l], O := fun b => b ≠ l ∧ G.O b }
  have cc : ∀ b, G'.cell b → G.cell b ∨ b = l := fun b h => by
    rcases h with h | h | h
    · rcases List.mem_append.mp h.1 with k | h'
      · exact .inl (.inl ⟨k, h.2⟩)
      · have h := h'; exact Or.inr (List.mem_singleton.mp h)
    · exact .inl (.inr (.inl h))
    · exact .inl (.inr (.inr h))
  have mm : ∀ b, G'.mu b → G.mu b := fun b h => by
    rcases h with h | h
    · rcases cc b h with h | h
      · exact .inl h
      · rw [h]; exact .inr ho
    · exact .inr h.2
  have lr : LR G H G' H := ⟨List.prefix_append _ _, rfl, rfl, rfl, fun _ _ h _ => h, fun b h => .inl (mm b h), fun _ u h => ⟨u, h⟩⟩
  have ne0 : ∀ b, G0.O b → b ≠ l := fun b hb e => by
    obtain ⟨u, q⟩ := s.live0 b (.inr hb)
    rw [e, h0] at q; cases q
  have fr : FR G0 H0 G' H := ⟨s.fr.pre.trans (List.prefix_append _ _), s.fr.sa, s.fr.sb, s.fr.mg, s.fr.keep, fun b h => by
      rcases cc b h with h | h
      · exact s.fr.cnew b h
      · rw [h]; exact .inr h0, fun b h => s.fr.onew b h.2, fun b h => ⟨ne0 b h, s.fr.oold b h⟩, s.fr.there⟩
  have wf : Wf K mg G' H { S with cells := S.cells ++ [.lst ds] } := by
    refine ⟨?_, ?_, ?_, fun b h => s.wf.live b (mm b h), s.wf.ha, s.wf.hb, s.wf.sab, ?_, ?_, s.wf.zs, s.wf.hmg, ?_, s.wf.zl, fun b h => ⟨fun q => ?_, (s.wf.zo b h.2).2⟩⟩
    · show (G.φ ++ [l]).length = (S.cells ++ [Cell.lst ds]).length
      rw [List.length_append, List.length_append, s.wf.len]; rfl
    · show (G.φ ++ [l]).Nodup
      rw [List.nodup_append]
      refine ⟨s.wf.nd, by simp, fun a ha b hb => ?_⟩
      have e : b = l := by simpa using hb
      rw [e]
      intro e'
      exact (s.wf.zo l ho).1 (by rw [← e']; exact ha)
    · intro i c a h1 h2
      have h1 : (S.cells ++ [Cell.lst ds])[i]? = some c := h1
      have h2 : (G.φ ++ [l])[i]? = some a := h2
      by_cases hi : i < S.cells.length
      · rw [List.getElem?_append_left hi] at h1
        rw [List.getElem?_append_left (by rw [s.wf.len]; exact hi)] at h2
        have q := s.wf.cell i c a h1 h2
        cases c with
        | lst ds => obtain ⟨xs, e, z, t⟩ := q; exact ⟨xs, e, z, t.lr lr⟩
        | dic kvs => obtain ⟨xs, e, z, t⟩ := q; exact ⟨xs, e, z, t.lr lr⟩
        | ins c fs => obtain ⟨C, dx, gs, m, e, t⟩ := q; exact ⟨C, dx, gs, m, e, t.lr lr⟩
        | out => trivial
      · rw [List.getElem?_append_right (by omega)] at h1
        rw [List.getElem?_append_right (by rw [s.wf.len]; omega)] at h2
        have ei : i - S.cells.length = 0 := by
          have := (List.getElem?_eq_some_iff.mp h1).1
          simp at this
          omega
        rw [ei] at h1
        rw [s.wf.len, ei] at h2
        cases h1; cases h2
        exact ⟨xs, hl, z, t.lr lr⟩
    · intro h
      rcases List.mem_append.mp (show G.sa ∈ G.φ ++ [l] from h) with h | h
      · exact s.wf.na h
      · exact hc (.inr (.inl (by simpa using Eq.symm (List.mem_singleton.mp h))))
    · intro h
      rcases List.mem_append.mp (show G.sb ∈ G.φ ++ [l] from h) with h | h
      · exact s.wf.nb h
      · exact hc (.inr (.inr (by simpa using Eq.symm (List.mem_singleton.mp h))))
    · intro i c a h1 h2 hn zz
      have h1 : (S.cells ++ [Cell.lst ds])[i]? = some c := h1
      have h2 : (G.φ ++ [l])[i]? = some a := h2
      have zz : G.Z a := zz
      by_cases hi : i < S.cells.length
      · rw [List.getElem?_append_left hi] at h1
        rw [List.getElem?_append_left (by rw [s.wf.len]; exact hi)] at h2
        exact s.wf.nz i c a h1 h2 hn zz
      · rw [List.getElem?_append_right (by rw [s.wf.len]; omega)] at h2
        have e : a = l := by simpa using List.mem_of_getElem? h2
        rw [e] at zz
        exact (s.wf.zo l ho).2 zz
    · rcases List.mem_append.mp (show b ∈ G.φ ++ [l] from q) with q | q
      · exact (s.wf.zo b h.2).1 q
      · exact h.1 (by simpa using q)
  refine ⟨⟨fr, s.live0, wf, s.len, fun i x h => ?_, s.apart⟩, .ptr ?_⟩
  · have q := s.env i x h
    cases x with
    | any => trivial
    | val d => obtain ⟨v, e, t⟩ := q; exact ⟨v, e, t.lr lr⟩
    | own es =>
      obtain ⟨m, ys, e, hm, zm, tm, hom, hcm, h0m⟩ := q
      have ne : m ≠ l := fun e' => own i es h (by rw [← e']; exact e)
      refine ⟨m, ys, e, hm, zm, tm.lr lr, ⟨ne, hom⟩, fun q' => ?_, h0m⟩
      rcases cc m q' with q' | q'
      · exact hcm q'
      · exact ne q'
    | exc a dd f d => obtain ⟨e, v, hd, n, t⟩ := q; exact ⟨e, v, hd, fun z => n (mm _ z), t.lr lr⟩
  · show (G.φ ++ [l])[S.cells.length]? = some l
    rw [← s.wf.len, List.getElem?_append_right (Nat.le_refl _), Nat.sub_self]
    rfl
theorem ed_box {mn : M (List D)} (h : EN X W ρ e mn) : ED X W ρ e (boxM mn) :=
  PE.imp h fun σ H Q ⟨G0, H0, G, S, si, h⟩ => ⟨G0, H0, G, S, si, by
    unfold boxM M.bind at h
    cases q : mn S with
    | ok ds S1 =>
      rw [q] at h
      intro l xs G' H' s f n e z ho hc t
      obtain ⟨s2, r2⟩ := box_ok s e z ho hc (si.fr.free n) t (si.owns n)
      refine h (.ref l) _ H' s2 ?_ r2
      refine ⟨f.pre.trans (List.prefix_append _ _), f.sa, f.sb, f.mg, f.keep, fun b hb => ?_, fun b hb => f.onew b hb.2, fun b hb => ⟨fun e' => ?_, f.oold b hb⟩, f.there⟩
      · rcases hb with hb | hb | hb
        · rcases List.mem_append.mp hb.1 with k | hb'
          · exact f.cnew b (.inl ⟨k, hb.2⟩)
          · have hb := hb'
            have e' : b = l := by simpa using hb
            rw [e']; exact .inr n
        · exact f.cnew b (.inr (.inl hb))
        · exact f.cnew b (.inr (.inr hb))
      · obtain ⟨u, w⟩ := si.wf.live b (.inr hb)
        rw [e', n] at w; cases w
    | err _ _ => rw [q] at h; exact h
    | bad => rw [q] at h; exact h⟩
variable {C L : Type} {k : Ct C L} {rest : List Stmt}
/-! ### is, chains, in -/
def dIsB (b : Bool) : D → M D
  | .bl c => M.pure (.bl (decide (c = b)))
  | _ => M.bad
def chainM (f g : D → D → M D) (a b c : M D) : M D := a.bind fun x => b.bind fun y => (f x y).bind fun z => (asB z).bind fun k => if k = true then c.bind fun w => g y w else M.pure (.bl false)
end
end Dl
namespace Dl
open PySem L2
/-! ### the forms in which loops are told -/
def on1 {α : Type} (f : D → M α) : List D → M α
  | [a] => f a
  | _ => M.bad
def on2 {α : Type} (f : D → D → M α) : List D → M α
  | [a, b] => f a b
  | _ => M.bad
def on3 {α : Type} (f : D → D → D → M α) : List D → M α
  | [a, b, c] => f a b c
  | _ => M.bad
def un2 {α : Type} (f : D → D → M α) : D → M α
  | .tup ds => on2 f ds
  | _ => M.bad
def un3 {α : Type} (f : D → D → D → M α) : D → M α
  | .tup ds => on3 f ds
  | _ => M.bad
theorem un1_eq {α : Type} (f : D → M α) : unM u1 (on1 f) = f := by
  funext d
  rfl
theorem un3_eq {α : Type} (f : D → D → D → M α) : unM (uT 3) (on3 f) = un3 f := by
  funext d
  cases d with
  | tup ds =>
    match ds with
    | [] => rfl
    | [_] => rfl
    | [_, _] => rfl
    | [_, _, _] => rfl
    | _ :: _ :: _ :: _ :: _ => unfold unM uT uN; simp [un3, on3]; rfl
  | _ => rfl
section
variable {X : Cx} {W : WX} {ρ : List Slot} {a b c e o tg iter elt : Expr} {es ifs : List Expr} {m mo mv ma : M D} {ms : List (M D)} {pos p apos p2 : Pos} {mi : M (List D)} {C L J : Type} {k : Ct C L} {rest body : List Stmt} {f : J → M (Fl C L)}
theorem sd_for1 (i : Nat) (emb : J → List Slot) (c0 : J) {mb : J → D → M (Fl J J)} (w : Wk ρ k.x) (w0 : Wk ρ (emb c0)) (hp : PassesOwn (model X.prog X.w) X.A X.env X.xe) (hi : ID X k.W ρ tg iter mi) (hg : PG X tg (gName i))
    (hb : ∀ c d, SD X ⟨k.W, k.x, emb, emb, k.R⟩ ((emb c).set i (.val d)) body (mb c d)) (hr : ∀ c, SD X k (emb c) rest (f c)) (hc : X.calm = true := by rfl) (hs : ∀ x, foldedSetIterable iter X.env x = pure x := by intro _; rfl) :
    SD X k ρ (.For tg iter body [] pos :: rest) (mi.bind fun ds => thenM (forM mb ds c0) f) := by
  have h := sd_for (pos := pos) (mb := fun c => on1 (mb c)) emb c0 w w0 hp hi hg (tg_name i) (fun c ds => match ds with
    | [d] => hb c d
    | [] => sd_bad
    | _ :: _ :: _ => sd_bad) hr hc hs
  simp only [un1_eq] at h
  exact h
theorem sd_for3 (i j l : Nat) (emb : J → List Slot) (c0 : J) {mb : J → D → D → D → M (Fl J J)} (w : Wk ρ k.x) (w0 : Wk ρ (emb c0)) (hp : PassesOwn (model X.prog X.w) X.A X.env X.xe) (hi : ID X k.W ρ tg iter mi) (hg : PG X tg (gTup X.K 3 (gN [i, j, l])))
    (hb : ∀ c d d' d'', SD X ⟨k.W, k.x, emb, emb, k.R⟩ ((((emb c).set i (.val d)).set j (.val d')).set l (.val d'')) body (mb c d d' d'')) (hr : ∀ c, SD X k (emb c) rest (f c)) (hc : X.calm = true := by rfl) (hs : ∀ x, foldedSetIterable iter X.env x = pure x := by intro _; rfl) :
    SD X k ρ (.For tg iter body [] pos :: rest) (mi.bind fun ds => thenM (forM (fun c => un3 (mb c)) ds c0) f) := by
  have h := sd_for (pos := pos) (mb := fun c => on3 (mb c)) emb c0 w w0 hp hi hg (tg_tup [i, j, l]) (fun c ds => match ds with
    | [d, d', d''] => hb c d d' d''
    | [] => sd_bad
    | [_] => sd_bad
    | [_, _] => sd_bad
    | _ :: _ :: _ :: _ :: _ => sd_bad) hr hc hs
  have e : (fun c => unM (uT [i, j, l].length) (on3 (mb c))) = fun c => un3 (mb c) := funext fun c => un3_eq (mb c)
  rw [e] at h
  exact h
theorem pg_tup2 {x y : Str} {i j : Nat} {kk : Nat} {p1 p2 p3 : Pos} (hc : X.calm = true) (h1 : PG X (.Name x p1) (gName i)) (h2 : PG X (.Name y p2) (gName j)) (e1 : (assignEach (.Name x p1 :: [.Name y p2]) X.env).map (·.2) = assign (.Name x p1) X.env :: (assignEach [.Name y p2] X.env).map (·.2) := by rfl)
    (e2 : (assignEach (.Name y p2 :: []) X.env).map (·.2) = assign (.Name y p2) X.env :: (assignEach [] X.env).map (·.2) := by rfl) (hn : (assignEach [.Name x p1, .Name y p2] X.env).length = 2 := by rfl) (hst : (assignEach [.Name x p1, .Name y p2] X.env).findIdx? (·.1) = none := by rfl) :
    PG X (.Tuple [.Name x p1, .Name y p2] kk p3) (gTup X.K 2 (gN [i, j])) := pg_tup hc (pgs_cons h1 (pgs_cons h2 pgs_nil e2) e1) hn hst
theorem pg_tup3 {x y z : Str} {i j l : Nat} {kk : Nat} {p1 p2 p3 p4 : Pos} (hc : X.calm = true) (h1 : PG X (.Name x p1) (gName i)) (h2 : PG X (.Name y p2) (gName j)) (h3 : PG X (.Name z p4) (gName l)) (e1 : (assignEach (.Name x p1 :: [.Name y p2, .Name z p4]) X.env).map (·.2) = assign (.Name x p1) X.env :: (assignEach [.Name y p2, .Name z p4] X.env).map (·.2) := by rfl)
    (e2 : (assignEach (.Name y p2 :: [.Name z p4]) X.env).map (·.2) = assign (.Name y p2) X.env :: (assignEach [.Name z p4] X.env).map (·.2) := by rfl) (e3 : (assignEach (.Name z p4 :: []) X.env).map (·.2) = assign (.Name z p4) X.env :: (assignEach [] X.env).map (·.2) := by rfl)
    (hn : (assignEach [.Name x p1, .Name y p2, .Name z p4] X.env).length = 3 := by rfl) (hst : (assignEach [.Name x p1, .Name y p2, .Name z p4] X.env).findIdx? (·.1) = none := by rfl) :
    PG X (.Tuple [.Name x p1, .Name y p2, .Name z p4] kk p3) (gTup X.K 3 (gN [i, j, l])) := pg_tup hc (pgs_cons h1 (pgs_cons h2 (pgs_cons h3 pgs_nil e3) e2) e1) hn hst
end
/-! ### comprehensions -/
def mapC (f : D → M D) : List D → M (List D)
  | [] => M.pure []
  | d :: ds => (calmM (f d)).bind fun x => (mapC f ds).bind fun r => M.pure (x :: r)
def filC (t : D → M Bool) (f : D → M D) : List D → M (List D)
  | [] => M.pure []
  | d :: ds => (calmM (t d)).bind fun b => if b = true then (calmM (f d)).bind fun x => (filC t f ds).bind fun r => M.pure (x :: r) else filC t f ds
def mapL (mi : M (List D)) (f : D → M D) : M (List D) := mi.bind fun ds => gd (szOk ds.length) (mapC f ds)
def filL (mi : M (List D)) (t : D → M Bool) (f : D → M D) : M (List D) := mi.bind fun ds => gd (szOk ds.length) (filC t f ds)
end Dl
namespace Dl
open PySem L2
section
variable {X : Cx} {ρ : List Slot} {a b c e o tg iter elt : Expr} {es ifs : List Expr} {m mo mv ma : M D} {ms : List (M D)} {pos p apos p2 : Pos} {C L : Type} {k : Ct C L} {rest : List Stmt} {st : Stmt}
/-- a, b = e1, e2 -/
theorem sd_par2 (i j : Nat) {f : D → D → M (Fl C L)} (w : Wk ρ k.x) (hps : PS X st (tPar i j (tG X.K X.mg k.W (RDs X.K) ρ (argsM ms)))) (hr : ∀ d d', SD X k ((ρ.set i (.val d)).set j (.val d')) rest (f d d')) :
    SD X k ρ (st :: rest) ((argsM ms).bind (on2 f)) := by
  let u : TS := fun D σ H => ∃ d d', tS X.K X.mg k ((ρ.set i (.val d)).set j (.val d')) (f d d') D σ H
  have hu : PSs X rest u := ⟨fun pins s σ H D I ⟨d, d', q⟩ => (hr d d').run pins s σ H D I q⟩
  refine PSs.imp (pss_cons hps hu) fun D σ H ⟨G0, H0, G, S, si, h⟩ => ⟨G0, H0, G, S, si, okS.bind h w fun G1 H1 S1 vs ds s1 r1 h1 => ?_⟩
  cases r1 with
  | nil => exact h1.elim
  | cons r1 t =>
    cases t with
    | nil => exact h1.elim
    | cons r2 t =>
      cases t with
      | cons _ _ => exact h1.elim
      | nil => exact ⟨_, _, rfl, _, _, G0, H0, G1, S1, (s1.set i r1).set j r2, h1⟩
theorem sd_par3 (i j l : Nat) {f : D → D → D → M (Fl C L)} (w : Wk ρ k.x) (hps : PS X st (tPar3 i j l (tG X.K X.mg k.W (RDs X.K) ρ (argsM ms)))) (hr : ∀ d d' d'', SD X k (((ρ.set i (.val d)).set j (.val d')).set l (.val d'')) rest (f d d' d'')) :
    SD X k ρ (st :: rest) ((argsM ms).bind (on3 f)) := by
  let u : TS := fun D σ H => ∃ d d' d'', tS X.K X.mg k (((ρ.set i (.val d)).set j (.val d')).set l (.val d'')) (f d d' d'') D σ H
  have hu : PSs X rest u := ⟨fun pins s σ H D I ⟨d, d', d'', q⟩ => (hr d d' d'').run pins s σ H D I q⟩
  refine PSs.imp (pss_cons hps hu) fun D σ H ⟨G0, H0, G, S, si, h⟩ => ⟨G0, H0, G, S, si, okS.bind h w fun G1 H1 S1 vs ds s1 r1 h1 => ?_⟩
  cases r1 with
  | nil => exact h1.elim
  | cons r1 t =>
    cases t with
    | nil => exact h1.elim
    | cons r2 t =>
      cases t with
      | nil => exact h1.elim
      | cons r3 t =>
        cases t with
        | cons _ _ => exact h1.elim
        | nil => exact ⟨_, _, _, rfl, _, _, _, G0, H0, G1, S1, ((s1.set i r1).set j r2).set l r3, h1⟩
/-- a, b = e -/
theorem sd_unp2 (i j : Nat) {f : D → D → M (Fl C L)} (w : Wk ρ k.x) (hps : PS X st (tAsg (tG X.K X.mg k.W (RD X.K) ρ m) (gTup X.K 2 (gN [i, j])))) (hr : ∀ d d', SD X k ((ρ.set i (.val d)).set j (.val d')) rest (f d d')) :
    SD X k ρ (st :: rest) (m.bind (un2 f)) := by
  let u : TS := fun D σ H => ∃ d d', tS X.K X.mg k ((ρ.set i (.val d)).set j (.val d')) (f d d') D σ H
  have hu : PSs X rest u := ⟨fun pins s σ H D I ⟨d, d', q⟩ => (hr d d').run pins s σ H D I q⟩
  refine PSs.imp (pss_cons hps hu) fun D σ H ⟨G0, H0, G, S, si, h⟩ => ⟨G0, H0, G, S, si, okS.bind h w fun G1 H1 S1 v d s1 r1 h1 => ?_⟩
  cases d with
  | tup ds =>
    match ds, h1 with
    | [a, b], h1 => exact tg_tup (mg := X.mg) [i, j] G0 H0 G1 H1 σ ρ S1 v _ [a, b] _ s1 r1 rfl fun σ' s' _ => ⟨a, b, G0, H0, G1, S1, s', h1⟩
    | [], h1 => exact h1.elim
    | [_], h1 => exact h1.elim
    | _ :: _ :: _ :: _, h1 => exact h1.elim
  | _ => exact h1.elim
theorem sd_unp3 (i j l : Nat) {f : D → D → D → M (Fl C L)} (w : Wk ρ k.x) (hps : PS X st (tAsg (tG X.K X.mg k.W (RD X.K) ρ m) (gTup X.K 3 (gN [i, j, l])))) (hr : ∀ d d' d'', SD X k (((ρ.set i (.val d)).set j (.val d')).set l (.val d'')) rest (f d d' d'')) :
    SD X k ρ (st :: rest) (m.bind (un3 f)) := by
  let u : TS := fun D σ H => ∃ d d' d'', tS X.K X.mg k (((ρ.set i (.val d)).set j (.val d')).set l (.val d'')) (f d d' d'') D σ H
  have hu : PSs X rest u := ⟨fun pins s σ H D I ⟨d, d', d'', q⟩ => (hr d d' d'').run pins s σ H D I q⟩
  refine PSs.imp (pss_cons hps hu) fun D σ H ⟨G0, H0, G, S, si, h⟩ => ⟨G0, H0, G, S, si, okS.bind h w fun G1 H1 S1 v d s1 r1 h1 => ?_⟩
  cases d with
  | tup ds =>
    match ds, h1 with
    | [a, b, c], h1 => exact tg_tup (mg := X.mg) [i, j, l] G0 H0 G1 H1 σ ρ S1 v _ [a, b, c] _ s1 r1 rfl fun σ' s' _ => ⟨a, b, c, G0, H0, G1, S1, s', h1⟩
    | [], h1 => exact h1.elim
    | [_], h1 => exact h1.elim
    | [_, _], h1 => exact h1.elim
    | _ :: _ :: _ :: _ :: _, h1 => exact h1.elim
  | _ => exact h1.elim
/-- x += e, x -= e (ints) -/
def dPlus : D → D → M D
  | .int i, .int j => M.pure (.int (i + j))
  | _, _ => M.bad
theorem sd_augAdd (i : Nat) {d : D} {f : D → M (Fl C L)} (w : Wk ρ k.x) (hps : PS X st (tAug i (tG X.K X.mg k.W (RD X.K) ρ m) (ipI fun i j => i + j))) (hr : ∀ d, SD X k (ρ.set i (.val d)) rest (f d)) (hρ : ρ[i]? = some (.val d) := by rfl) :
    SD X k ρ (st :: rest) ((m.bind fun y => dPlus d y).bind f) := by
  let u : TS := fun D σ H => ∃ d, tS X.K X.mg k (ρ.set i (.val d)) (f d) D σ H
  have hu : PSs X rest u := ⟨fun pins s σ H D I ⟨d, q⟩ => (hr d).run pins s σ H D I q⟩
  refine PSs.imp (pss_cons hps hu) fun D σ H ⟨G0, H0, G, S, si, h⟩ => ?_
  obtain ⟨v, ev, rv⟩ := si.env i _ hρ
  have h' : okS X.K X.mg k G0 H0 G H D ((m.bind fun y => (dPlus d y).bind f) S) := by
    have e : ((m.bind fun y => dPlus d y).bind f) S = (m.bind fun y => (dPlus d y).bind f) S := by
      unfold M.bind
      cases m S <;> rfl
    rw [← e]; exact h
  refine ⟨v, ev, G0, H0, G, S, si, okS.bind2 h' w fun G1 H1 S1 y dy s1 f1 r1 h1 => ?_⟩
  have rv' : Rep X.K G1 H1 v d := Rep.mono f1 rv
  cases rv' with
  | int n =>
    cases r1 with
    | int n' => exact ⟨n, n', rfl, rfl, _, G0, H0, G1, S1, s1.set i (.int _), h1⟩
    | _ => exact h1.elim
  | _ => exact h1.elim
end
end Dl
namespace Dl
open PySem L2
def ar1N (f : D → M (List D)) : List D → M (List D)
  | [a] => f a
  | _ => M.bad
def ar2N (f : D → D → M (List D)) : List D → M (List D)
  | [a, b] => f a b
  | _ => M.bad
section
variable {X : Cx} {W : WX} {ρ : List Slot} {a b c e o : Expr} {ma mb mc : M D} {pos : Pos}
theorem et_lt (ha : ED X W ρ a ma) (hb : ED X W ρ b mb) : ET X W ρ (.Compare a [.Lt] [b] pos) (tst (bin dLt ma mb)) := et_cmp op_lt opd_cmp ha hb
theorem et_gt (ha : ED X W ρ a ma) (hb : ED X W ρ b mb) : ET X W ρ (.Compare a [.Gt] [b] pos) (tst (bin dGt ma mb)) := et_cmp op_gt opd_cmp ha hb
theorem et_eq {k : Nat} (hr : Room k X.A) (ha : ED X W ρ a ma) (hb : ED X W ρ b mb) : ET X W ρ (.Compare a [.Eq] [b] pos) (tst (bin dEq ma mb)) := et_cmp (op_eqD hr.units) opd_eq ha hb
theorem et_ne {k : Nat} (hr : Room k X.A) (ha : ED X W ρ a ma) (hb : ED X W ρ b mb) : ET X W ρ (.Compare a [.NotEq] [b] pos) (tst (bin dNe ma mb)) := et_cmp (op_neD hr.units) opd_ne ha hb
theorem et_isN {j : Nat} {pos' : Pos} (ha : ED X W ρ a ma) : ET X W ρ (.Compare a [.Is] [.Constant .none j pos'] pos) (tst (una dIsN ma)) :=
  PT.imp (pt_cmp (pc_isN ha)) fun σ H Q ⟨G0, H0, G, S, si, h⟩ => ⟨G0, H0, G, S, si, by
    have h' : okG X.K X.mg W RB G0 H0 G H σ ρ Q ((ma.bind fun d => (dIsN d).bind asB) S) := by
      have e : (ma.bind fun d => (dIsN d).bind asB) S = tst (una dIsN ma) S := by unfold tst una M.bind; cases ma S <;> rfl
      rw [e]; exact h
    exact okG.bind h' fun G1 H1 S1 x d s1 f1 r1 h1 => by
      rw [(rep_non r1).1] at h1
      exact ⟨_, rfl, okG.here h1 s1 rfl⟩⟩
theorem et_notN {j : Nat} {pos' : Pos} (ha : ED X W ρ a ma) : ET X W ρ (.Compare a [.IsNot] [.Constant .none j pos'] pos) (tst (una dNotN ma)) :=
  PT.imp (pt_cmp (pc_notN ha)) fun σ H Q ⟨G0, H0, G, S, si, h⟩ => ⟨G0, H0, G, S, si, by
    have h' : okG X.K X.mg W RB G0 H0 G H σ ρ Q ((ma.bind fun d => (dNotN d).bind asB) S) := by
      have e : (ma.bind fun d => (dNotN d).bind asB) S = tst (una dNotN ma) S := by unfold tst una M.bind; cases ma S <;> rfl
      rw [e]; exact h
    exact okG.bind h' fun G1 H1 S1 x d s1 f1 r1 h1 => by
      rw [(rep_non r1).2] at h1
      exact ⟨_, rfl, okG.here h1 s1 rfl⟩⟩
theorem et_chain {op op' : CmpOp} {r r' : R2} {f g : D → D → M D} (ho : OpR X (compareOp op) r) (hd : OpD X.K X.mg r f) (ho' : OpR X (compareOp op') r') (hd' : OpD X.K X.mg r' g) (ha : ED X W ρ a ma) (hb : ED X W ρ b mb) (hc : ED X W ρ c mc)
    (hm : lastMarks [op, op'] [b, c] = false := by with_unfolding_all rfl) : ET X W ρ (.Compare a [op, op'] [b, c] pos) (tst (chainM f g ma mb mc)) :=
  PT.imp (pt_chain ho ho' ha hb hc hm) fun σ H Q ⟨G0, H0, G, S, si, h⟩ => by
    have h' : tG X.K X.mg W (RD X.K) ρ (chainM f g ma mb mc) σ H fun x H' => ∃ k, x = .bl k ∧ Q k H' := ⟨G0, H0, G, S, si, okG.bind h fun G1 H1 S1 x d s1 f1 r1 h1 => by
      cases r1 with
      | bl k => exact ⟨k, rfl, okG.here h1 s1 rfl⟩
      | _ => exact h1.elim⟩
    obtain ⟨G0, H0, G, S, si, h⟩ := h'
    exact ⟨G0, H0, G, S, si, okG.bind h fun G1 H1 S1 x d s1 f1 r1 h1 => ⟨G0, H0, G1, S1, s1, okG.bind h1 fun G2 H2 S2 y d' s2 f2 r2 h2 => by
      refine hd W G0 H0 G2 H2 σ ρ S2 x y d d' _ s2 (Rep.mono f2 r1) r2 ?_
      refine okG.bind (R := RD X.K) h2 fun G3 H3 S3 z dz s3 f3 r3 h3 => ?_
      cases r3 with
      | bl k =>
        refine ⟨k, rfl, ?_⟩
        cases k with
        | false => exact okG.here h3 s3 (.bl false)
        | true =>
          show tG X.K X.mg W (RD X.K) ρ mc σ H3 _
          exact ⟨G0, H0, G3, S3, s3, okG.bind h3 fun G4 H4 S4 w dw s4 f4 r4 h4 => hd' W G0 H0 G4 H4 σ ρ S4 y w d' dw _ s4 (Rep.mono (f3.trans f4) r2) r4 h4⟩
      | _ => exact h3.elim⟩⟩
end
/-! ### the law -/
def rLst (K : PySem.W.Frag) : List V → Hp → VK → Prop := fun xs H Q => ∃ p ys, xs = [.ref p] ∧ (SqL K H p ys ∨ SqT K H p ys) ∧ ∀ l, H l = none → Q (.ref l) (upd H l (.lst ys))
def spL (K : PySem.W.Frag) : Sp := fun vs H Q _ => ∃ (a : Addr) (ns : List Int), vs = [.ref a] ∧ SqL K H a (ns.map V.int) ∧ ns.length ≤ 63 ∧ ∀ H', Q (.bl true) H'
def S0 (ns : List Int) : MS := ⟨[], ⟨ns, 0, 0, 0⟩⟩
section
variable {P : Program} {w : World} {K : PySem.W.Frag} {base : Heap} {mg : Str → Option Value}
theorem fn_law {x qual sn : Str} {st : Stmt} {f : Addr} {fd : FuncData} {N : List Str} {k : Nat} {m : M (Fl Unit Empty)} (F : Fun K x qual st f fd) (S : FnScope N [sn] (defScope st)) (hN : 2 ≤ N.length)
    (hm : ∀ ns : List Int, ns.length ≤ 63 → ∃ S', finM m (S0 ns) = .ok (.bl true) S')
    (hb : ∀ (cdv : Value) (A : Around) (outer : List Env) (s : Shared) (H : Hp) (E : XK), Room k (A.deeper (PyProof.Rows.envOfC qual (defScope st) s.heap.objs.size f cdv)) →
      Takes (cxOf (L2.CX P w) P w K mg base N qual (defScope st) f cdv A outer s H E) (fun cls d _ H => E cls d H) → PassesOwn (model P w) (A.deeper (PyProof.Rows.envOfC qual (defScope st) s.heap.objs.size f cdv)) (PyProof.Rows.envOfC qual (defScope st) s.heap.objs.size f cdv) (cxOf (L2.CX P w) P w K mg base N qual (defScope st) f cdv A outer s H E).xe →
      ∃ st0 rest, defBody st = st0 :: rest ∧ PS (cxOf (L2.CX P w) P w K mg base N qual (defScope st) f cdv A outer s H E) st0 (tAsg (tLst (tCons (tCB (rLst K) (tCons (tVar 0) tNil)) (tCons (tC (.int 0)) (tCons (tC (.int 0)) (tCons (tC (.int 0)) tNil))))) (gName 1)) ∧
        SD (cxOf (L2.CX P w) P w K mg base N qual (defScope st) f cdv A outer s H E) (Ct.fn K N.length E) (.any :: .val .strm :: List.replicate (N.length - 2) .any) rest m) :
    FnOk P w K mg base (L2.CX P w) (k + 1) f fd [sn] (spL K) := by
  refine F.okX S (fun vs H Q E h => ?_) (fun cdv A outer s H vs Q E hr h => ?_)
  · obtain ⟨a, ns, rfl, _⟩ := h
    rfl
  obtain ⟨a, ns, rfl, hS, hl, hQ⟩ := h
  obtain ⟨st0, rest, eb, h0, h1⟩ := hb cdv A outer s H E hr (takes_of rfl rfl rfl rfl) (passes_of rfl)
  rw [eb]
  refine ⟨_, pss_cons h0 h1, ?_⟩
  refine ⟨.ref a, ?_, a, ns.map V.int, rfl, .inl hS, fun l hl' => ⟨by show 4 ≤ sizeLine; rw [sizeLine_eq]; decide, fun p hp => ?_⟩⟩
  · unfold L2.start
    rfl
  have npl : l ≠ p := fun e => by rw [← e, upd_same] at hp; cases hp
  let G : Gh := ⟨[], p, l, fun _ => False, fun _ => False, mg⟩
  let H2 : Hp := upd (upd H l (.lst (ns.map V.int))) p (.lst [.ref l, .int 0, .int 0, .int 0])
  have hcell : ∀ b, G.mu b → b = p ∨ b = l := fun b h => by
    rcases h with (h | h | h) | h
    · cases h.1
    · exact .inl h
    · exact .inr h
    · exact h.elim
  have hH2l : H2 l = some (.lst (ns.map V.int)) := by show upd _ p _ l = _; rw [upd_ne npl, upd_same]
  have hlive : ∀ b, G.mu b → ∃ o, H2 b = some o := fun b h => by
    rcases hcell b h with e | e
    · rw [e]; exact ⟨_, upd_same⟩
    · rw [e]; exact ⟨_, hH2l⟩
  have wf : Wf K mg G H2 (S0 ns) := ⟨rfl, .nil, (fun i c a h => by cases h), hlive, upd_same, hH2l, Ne.symm npl, (fun h => by cases h), (fun h => by cases h), Nat.le_trans hl (by decide), rfl, (fun _ _ _ _ _ _ h => h), (fun _ h => h.elim), (fun _ h => h.elim)⟩
  obtain ⟨S', hm⟩ := hm ns hl
  have si : SI K mg G H2 G H2 ((L2.start N [V.ref a]).set 1 (some (.ref p))) (.any :: .val .strm :: List.replicate (N.length - 2) .any) (S0 ns) := by
    refine ⟨.refl _ _, hlive, wf, ?_, fun i x h => ?_, fun i j ds es l' n h => ?_⟩
    · rw [List.length_set]
      unfold L2.start
      simp only [List.length_append, List.length_map, List.length_replicate, List.length_cons, List.length_nil]
      omega
    · match i, h with
      | 0, h => cases h; trivial
      | 1, h =>
        cases h
        refine ⟨.ref p, ?_, .strm⟩
        rw [List.getElem?_set_self]
        unfold L2.start
        simp only [List.length_append, List.length_map, List.length_replicate, List.length_cons, List.length_nil]
        omega
      | i + 2, h =>
        have h : (List.replicate (N.length - 2) Slot.any)[i]? = some x := h
        rw [List.getElem?_replicate] at h
        split at h
        · cases h; trivial
        · cases h
    · match i, h with
      | 0, h => cases h
      | 1, h => cases h
      | i + 2, h =>
        have h : (List.replicate (N.length - 2) Slot.any)[i]? = some (.own ds) := h
        rw [List.getElem?_replicate] at h
        split at h
        · cases h
        · cases h
  refine ⟨G, H2, G, S0 ns, si, ?_⟩
  unfold finM M.bind at hm
  cases q : m (S0 ns) with
  | ok z S1 =>
    rw [q] at hm
    cases z with
    | nx c => cases hm
    | ret d =>
      cases hm
      intro v G' H' _ _ r
      cases r
      exact hQ H'
    | brk l => exact l.elim
    | cnt l => exact l.elim
  | err x S1 => rw [q] at hm; cases hm
  | bad => rw [q] at hm; cases hm
end
/-- an own class of errors in an except clause that names it -/
theorem exm_self {K : PySem.W.Frag} {C : Addr} {cls : Value} {b : Bool} (hs : PySem.W.subIn K (.ref C) (.type "BaseException") = some true) (hd : PySem.W.hasDictIn K C = true) (hy : PySem.W.typeIn K (.ref C) = some (.type "type")) (h4 : PySem.W.subIn K cls (.ref C) = some b) : PySem.W.exmOne K cls (.ref C) = some b := by
  have hc : (PySem.W.clsIn K C).isSome = true := by
    unfold PySem.W.hasDictIn at hd
    cases e : PySem.W.clsIn K C with
    | none => rw [e] at hd; exact hd
    | some c => rfl
  unfold PySem.W.exmOne
  rw [hs, if_pos (by rfl)]
  unfold PySem.W.kitCls
  simp only [hc, hy]
  exact h4
end Dl
/-! what a computation over plain data comes to: no program in sight -/
namespace Dl
open PySem L2
@[irreducible] def Wp {α : Type} (m : M α) (S : MS) (Q : α → MS → Prop) (E : Err → MS → Prop) : Prop := match m S with
  | .ok a S' => Q a S'
  | .err e S' => E e S'
  | .bad => False
abbrev NoE : Err → MS → Prop := fun _ _ => False
section
variable {α β : Type} {S : MS} {Q : α → MS → Prop} {E : Err → MS → Prop}
@[simp] theorem wp_pure {a : α} : Wp (M.pure a) S Q E ↔ Q a S := by unfold Wp; exact .rfl
@[simp] theorem wp_raise {e : Err} : Wp (M.raise e : M α) S Q E ↔ E e S := by unfold Wp; exact .rfl
@[simp] theorem wp_bad : Wp (M.bad : M α) S Q E ↔ False := by unfold Wp; exact .rfl
@[simp] theorem wp_bind {m : M β} {f : β → M α} : Wp (m.bind f) S Q E ↔ Wp m S (fun b S' => Wp (f b) S' Q E) E := by
  unfold Wp M.bind
  cases m S <;> exact .rfl
theorem Wp.mono {m : M α} {Q' : α → MS → Prop} {E' : Err → MS → Prop} (h : Wp m S Q E) (hq : ∀ a S', Q a S' → Q' a S') (he : ∀ e S', E e S' → E' e S') : Wp m S Q' E' := by
  unfold Wp at *
  revert h
  cases m S with
  | ok a S' => exact hq a S'
  | err e S' => exact he e S'
  | bad => exact id
theorem Wp.to {m : M α} {Q' : α → MS → Prop} {E' : Err → MS → Prop} (h : Wp m S Q NoE) (hq : ∀ a S', Q a S' → Q' a S') : Wp m S Q' E' := h.mono hq fun _ _ h => h.elim
theorem Wp.ok {m : M α} (h : Wp m S Q NoE) : ∃ a S', m S = .ok a S' ∧ Q a S' := by
  unfold Wp at h
  cases e : m S with
  | ok a S' => rw [e] at h; exact ⟨a, S', rfl, h⟩
  | err x S' => rw [e] at h; exact h.elim
  | bad => rw [e] at h; exact h.elim
@[simp] theorem wp_calm {m : M α} : Wp (calmM m) S Q E ↔ Wp m S Q NoE := by
  unfold Wp calmM
  cases m S <;> exact .rfl
@[simp] theorem wp_ite {b : Prop} [Decidable b] {m n : M α} : Wp (if b then m else n) S Q E ↔ if b then Wp m S Q E else Wp n S Q E := by
  by_cases h : b
  · rw [if_pos h, if_pos h]
  · rw [if_neg h, if_neg h]
end
/-! ### the stream -/
/-- from this stream n more numbers may be drawn -/
structure Bud (s : Strm) (n : Nat) : Prop where
  m0 : 0 ≤ s.mix
  m1 : s.mix < 2147483647
  c0 : 0 ≤ s.cnt
  c1 : s.cnt + n ≤ 8388607
  r0 : 0 ≤ s.cur
theorem Bud.le {s : Strm} {n m : Nat} (h : Bud s n) (l : m ≤ n) : Bud s m := ⟨h.m0, h.m1, h.c0, by have := h.c1; omega, h.r0⟩
theorem Bud.start (ns : List Int) : Bud (S0 ns).st 8388607 := ⟨by show (0 : Int) ≤ 0; omega, by show (0 : Int) < _; omega, by show (0 : Int) ≤ 0; omega, by show (0 : Int) + _ ≤ _; omega, by show (0 : Int) ≤ 0; omega⟩
theorem bud_next {s : Strm} {n : Nat} {k : Int} (h : Bud s (n + 1)) (hk : 0 < k) : s.good = true ∧ 0 ≤ s.take k ∧ s.take k < k ∧ Bud (s.next k) n := by
  obtain ⟨m0, m1, c0, c1, r0⟩ := h
  have f := fill_mix s.xs s.cur s.mix m0 m1
  have g := fill_cur s.xs s.cur s.mix r0
  refine ⟨?_, ?_, ?_, ?_⟩
  · unfold Strm.good
    simp only [decide_eq_true_eq, Bool.and_eq_true]
    exact ⟨⟨⟨⟨m0, m1⟩, c0⟩, by omega⟩, r0⟩
  · unfold Strm.take
    split
    · exact Int.emod_nonneg _ (by omega)
    · exact Int.emod_nonneg _ (by omega)
  · unfold Strm.take
    split
    · exact Int.emod_lt_of_pos _ hk
    · exact Int.emod_lt_of_pos _ hk
  · unfold Strm.next
    split
    · exact ⟨f.1, f.2, c0, by show s.cnt + _ ≤ _; omega, Int.ediv_nonneg g (by omega)⟩
    · exact ⟨f.1, f.2, by show 0 ≤ s.cnt + 1; omega, by show s.cnt + 1 + _ ≤ _; omega, g⟩
/-! ### loops -/
end Dl
namespace Dl
open PySem L2
section
variable {α β C L J : Type} {S : MS} {Q : α → MS → Prop} {E : Err → MS → Prop} {Qd : D → MS → Prop} {Ql : List D → MS → Prop} {Qb : Bool → MS → Prop}
@[simp] theorem wp_bin {f : D → D → M D} {a b : M D} : Wp (bin f a b) S Qd E ↔ Wp a S (fun x S1 => Wp b S1 (fun y S2 => Wp (f x y) S2 Qd E) E) E := by
  unfold bin; rw [wp_bind]; simp only [wp_bind]
@[simp] theorem wp_una {f : D → M D} {a : M D} : Wp (una f a) S Qd E ↔ Wp a S (fun x S1 => Wp (f x) S1 Qd E) E := by unfold una; rw [wp_bind]
@[simp] theorem wp_args0 : Wp (argsM []) S Ql E ↔ Ql [] S := by unfold Wp; exact .rfl
@[simp] theorem wp_args1 {m : M D} {ms : List (M D)} : Wp (argsM (m :: ms)) S Ql E ↔ Wp m S (fun d S1 => Wp (argsM ms) S1 (fun ds S2 => Ql (d :: ds) S2) E) E := by
  rw [argsM, wp_bind]; simp only [wp_bind, wp_pure]
@[simp] theorem wp_call {f : List D → M D} {ms : List (M D)} : Wp (callM f ms) S Qd E ↔ Wp (argsM ms) S (fun ds S1 => Wp (f ds) S1 Qd E) E := by unfold callM; rw [wp_bind]
@[simp] theorem wp_guard {b : Bool} {m : M D} : Wp (guard b m) S Qd E ↔ b = true ∧ Wp m S Qd E := by
  unfold guard
  cases b with
  | true => rw [if_pos rfl]; exact ⟨fun h => ⟨rfl, h⟩, fun h => h.2⟩
  | false => rw [if_neg (by decide), wp_bad]; exact ⟨fun h => h.elim, fun h => nomatch h.1⟩
@[simp] theorem wp_gd {b : Bool} {m : M α} : Wp (gd b m) S Q E ↔ b = true ∧ Wp m S Q E := by
  unfold gd
  cases b with
  | true => rw [if_pos rfl]; exact ⟨fun h => ⟨rfl, h⟩, fun h => h.2⟩
  | false => rw [if_neg (by decide), wp_bad]; exact ⟨fun h => h.elim, fun h => nomatch h.1⟩
@[simp] theorem wp_tup {ms : List (M D)} : Wp (tupM ms) S Qd E ↔ Wp (argsM ms) S (fun ds S1 => szOk ds.length = true ∧ Qd (.tup ds) S1) E := by
  unfold tupM; rw [wp_bind]; simp only [wp_guard, wp_pure]
@[simp] theorem wp_lst {ms : List (M D)} : Wp (lstM ms) S Ql E ↔ Wp (argsM ms) S (fun ds S1 => szOk ds.length = true ∧ Ql ds S1) E := by
  unfold lstM; rw [wp_bind]
  have : ∀ ds : List D, (if szOk ds.length = true then M.pure ds else M.bad : M (List D)) = gd (szOk ds.length) (M.pure ds) := fun _ => rfl
  simp only [this, wp_gd, wp_pure]
@[simp] theorem wp_frz {m : M (List D)} : Wp (frz m) S Qd E ↔ Wp m S (fun ds S1 => Qd (.lst ds) S1) E := by unfold frz; rw [wp_bind]; simp only [wp_pure]
@[simp] theorem wp_tst {m : M D} : Wp (tst m) S Qb E ↔ Wp m S (fun d S1 => Wp (asB d) S1 Qb E) E := by unfold tst; rw [wp_bind]
@[simp] theorem wp_asB {b : Bool} : Wp (asB (.bl b)) S Qb E ↔ Qb b S := by unfold Wp; exact .rfl
@[simp] theorem wp_ofB {m : M Bool} : Wp (ofB m) S Qd E ↔ Wp m S (fun b S1 => Qd (.bl b) S1) E := by unfold ofB; rw [wp_bind]; simp only [wp_pure]
@[simp] theorem wp_andT {a b : M Bool} : Wp (andT a b) S Qb E ↔ Wp a S (fun x S1 => if x = true then Wp b S1 Qb E else Qb false S1) E := by unfold andT; rw [wp_bind]; simp only [wp_ite, wp_pure]
@[simp] theorem wp_orT {a b : M Bool} : Wp (orT a b) S Qb E ↔ Wp a S (fun x S1 => if x = true then Qb true S1 else Wp b S1 Qb E) E := by unfold orT; rw [wp_bind]; simp only [wp_ite, wp_pure]
@[simp] theorem wp_notT {a : M Bool} : Wp (notT a) S Qb E ↔ Wp a S (fun x S1 => Qb (!x) S1) E := by unfold notT; rw [wp_bind]; simp only [wp_pure]
@[simp] theorem wp_ifM {t : M Bool} {a b : M α} : Wp (ifM t a b) S Q E ↔ Wp t S (fun x S1 => if x = true then Wp a S1 Q E else Wp b S1 Q E) E := by unfold ifM; rw [wp_bind]; simp only [wp_ite]
@[simp] theorem wp_andV {a b : M D} : Wp (andV a b) S Qd E ↔ Wp a S (fun x S1 => Wp (asB x) S1 (fun c S2 => if c = true then Wp b S2 Qd E else Qd (.bl false) S2) E) E := by unfold andV; rw [wp_bind]; simp only [wp_bind, wp_ite, wp_pure]
@[simp] theorem wp_orV {a b : M D} : Wp (orV a b) S Qd E ↔ Wp a S (fun x S1 => Wp (asB x) S1 (fun c S2 => if c = true then Qd (.bl true) S2 else Wp b S2 Qd E) E) E := by unfold orV; rw [wp_bind]; simp only [wp_bind, wp_ite, wp_pure]
@[simp] theorem wp_notV {a : M D} : Wp (notV a) S Qd E ↔ Wp a S (fun x S1 => Wp (asB x) S1 (fun c S2 => Qd (.bl (!c)) S2) E) E := by unfold notV; rw [wp_bind]; simp only [wp_bind, wp_pure]
@[simp] theorem wp_ret {m : M D} {Qf : Fl C L → MS → Prop} : Wp (retM m : M (Fl C L)) S Qf E ↔ Wp m S (fun d S1 => Qf (.ret d) S1) E := by unfold retM; rw [wp_bind]; simp only [wp_pure]
def Fl.goOut {C L : Type} (Q : Fl C L → MS → Prop) : Fl Empty L → MS → Prop
  | .ret d, S => Q (.ret d) S
  | .brk l, S => Q (.brk l) S
  | .cnt l, S => Q (.cnt l) S
  | .nx c, _ => c.elim
@[simp] theorem goOut_ret {d : D} {Qf : Fl C L → MS → Prop} : Fl.goOut Qf (.ret d) S ↔ Qf (.ret d) S := .rfl
@[simp] theorem goOut_brk {d : L} {Qf : Fl C L → MS → Prop} : Fl.goOut Qf (.brk d) S ↔ Qf (.brk d) S := .rfl
@[simp] theorem goOut_cnt {d : L} {Qf : Fl C L → MS → Prop} : Fl.goOut Qf (.cnt d) S ↔ Qf (.cnt d) S := .rfl
@[simp] theorem wp_out {m : M (Fl Empty L)} {Qf : Fl C L → MS → Prop} : Wp (outM m : M (Fl C L)) S Qf E ↔ Wp m S (Fl.goOut Qf) E := by
  unfold outM
  rw [wp_bind]
  constructor
  · intro h; refine h.mono (fun z S' q => ?_) (fun _ _ h => h)
    cases z with
    | nx c => exact c.elim
    | _ => unfold Wp at *; exact q
  · intro h; refine h.mono (fun z S' q => ?_) (fun _ _ h => h)
    cases z with
    | nx c => exact c.elim
    | _ => unfold Wp at *; exact q
def Fl.goThen {J C L : Type} (E : Err → MS → Prop) (f : J → M (Fl C L)) (Q : Fl C L → MS → Prop) : Fl J L → MS → Prop
  | .nx c, S => Wp (f c) S Q E
  | .ret d, S => Q (.ret d) S
  | .brk l, S => Q (.brk l) S
  | .cnt l, S => Q (.cnt l) S
@[simp] theorem goThen_nx {f : J → M (Fl C L)} {c : J} {Qf : Fl C L → MS → Prop} : Fl.goThen E f Qf (.nx c) S ↔ Wp (f c) S Qf E := .rfl
@[simp] theorem goThen_ret {f : J → M (Fl C L)} {d : D} {Qf : Fl C L → MS → Prop} : Fl.goThen E f Qf (.ret d) S ↔ Qf (.ret d) S := .rfl
@[simp] theorem goThen_brk {f : J → M (Fl C L)} {d : L} {Qf : Fl C L → MS → Prop} : Fl.goThen E f Qf (.brk d) S ↔ Qf (.brk d) S := .rfl
@[simp] theorem goThen_cnt {f : J → M (Fl C L)} {d : L} {Qf : Fl C L → MS → Prop} : Fl.goThen E f Qf (.cnt d) S ↔ Qf (.cnt d) S := .rfl
@[simp] theorem wp_then {m : M (Fl J L)} {f : J → M (Fl C L)} {Qf : Fl C L → MS → Prop} : Wp (thenM m f) S Qf E ↔ Wp m S (Fl.goThen E f Qf) E := by
  unfold thenM
  rw [wp_bind]
  constructor
  · intro h; refine h.mono (fun z S' q => ?_) (fun _ _ h => h)
    cases z <;> first | exact q | (unfold Wp at *; exact q)
  · intro h; refine h.mono (fun z S' q => ?_) (fun _ _ h => h)
    cases z <;> first | exact q | (unfold Wp at *; exact q)
def Fl.goFin (Q : D → MS → Prop) : Fl Unit Empty → MS → Prop
  | .nx _, S => Q .non S
  | .ret d, S => Q d S
  | .brk l, _ => l.elim
  | .cnt l, _ => l.elim
@[simp] theorem goFin_nx : Fl.goFin Qd (.nx ()) S ↔ Qd .non S := .rfl
@[simp] theorem goFin_ret {d : D} : Fl.goFin Qd (.ret d) S ↔ Qd d S := .rfl
@[simp] theorem wp_fin {m : M (Fl Unit Empty)} : Wp (finM m) S Qd E ↔ Wp m S (Fl.goFin Qd) E := by
  unfold finM
  rw [wp_bind]
  constructor
  · intro h; refine h.mono (fun z S' q => ?_) (fun _ _ h => h)
    cases z with
    | brk l => exact l.elim
    | cnt l => exact l.elim
    | _ => unfold Wp at *; exact q
  · intro h; refine h.mono (fun z S' q => ?_) (fun _ _ h => h)
    cases z with
    | brk l => exact l.elim
    | cnt l => exact l.elim
    | _ => unfold Wp at *; exact q
def Fl.goFinN (Q : List D → MS → Prop) : Fl Unit Empty → MS → Prop
  | .ret (.lst ds), S => Q ds S
  | _, _ => False
@[simp] theorem goFinN_ret {ds : List D} : Fl.goFinN Ql (.ret (.lst ds)) S ↔ Ql ds S := .rfl
@[simp] theorem wp_finN {m : M (Fl Unit Empty)} : Wp (finN m) S Ql E ↔ Wp m S (Fl.goFinN Ql) E := by
  unfold finN
  rw [wp_bind]
  constructor
  · intro h; refine h.mono (fun z S' q => ?_) (fun _ _ h => h)
    cases z with
    | ret d => cases d <;> unfold Wp at * <;> exact q
    | _ => unfold Wp at *; exact q
  · intro h; refine h.mono (fun z S' q => ?_) (fun _ _ h => h)
    cases z with
    | ret d => cases d <;> unfold Wp at * <;> exact q
    | _ => unfold Wp at *; exact q
@[simp] theorem wp_ar1 {f : D → M D} {a : D} : Wp (ar1 f [a]) S Qd E ↔ Wp (f a) S Qd E := by unfold Wp; exact .rfl
@[simp] theorem wp_ar2 {f : D → D → M D} {a b : D} : Wp (ar2 f [a, b]) S Qd E ↔ Wp (f a b) S Qd E := by unfold Wp; exact .rfl
@[simp] theorem wp_ar3 {f : D → D → D → M D} {a b c : D} : Wp (ar3 f [a, b, c]) S Qd E ↔ Wp (f a b c) S Qd E := by unfold Wp; exact .rfl
@[simp] theorem wp_ar4 {f : D → D → D → D → M D} {a b c d : D} : Wp (ar4 f [a, b, c, d]) S Qd E ↔ Wp (f a b c d) S Qd E := by unfold Wp; exact .rfl
@[simp] theorem wp_ar5 {f : D → D → D → D → D → M D} {a b c d e : D} : Wp (ar5 f [a, b, c, d, e]) S Qd E ↔ Wp (f a b c d e) S Qd E := by unfold Wp; exact .rfl
@[simp] theorem wp_ar1N {f : D → M (List D)} {a : D} : Wp (ar1N f [a]) S Ql E ↔ Wp (f a) S Ql E := by unfold Wp; exact .rfl
@[simp] theorem wp_ar2N {f : D → D → M (List D)} {a b : D} : Wp (ar2N f [a, b]) S Ql E ↔ Wp (f a b) S Ql E := by unfold Wp; exact .rfl
@[simp] theorem wp_meth {cn mn : Str} {g : List D → M D} {mo : M D} {ms : List (M D)} : Wp (methM cn mn g mo ms) S Qd E ↔ Wp mo S (fun o S1 => Wp (isA cn mn o) S1 (fun _ S2 => Wp (argsM ms) S2 (fun ds S3 => Wp (g (o :: ds)) S3 Qd E) E) E) E := by
  unfold methM; rw [wp_bind]; simp only [wp_bind]
@[simp] theorem wp_un2 {f : D → D → M α} {a b : D} : Wp (un2 f (.tup [a, b])) S Q E ↔ Wp (f a b) S Q E := by unfold Wp; exact .rfl
@[simp] theorem wp_un3 {f : D → D → D → M α} {a b c : D} : Wp (un3 f (.tup [a, b, c])) S Q E ↔ Wp (f a b c) S Q E := by unfold Wp; exact .rfl
@[simp] theorem wp_mapL {mi : M (List D)} {f : D → M D} : Wp (mapL mi f) S Ql E ↔ Wp mi S (fun ds S1 => szOk ds.length = true ∧ Wp (mapC f ds) S1 Ql E) E := by unfold mapL; rw [wp_bind]; simp only [wp_gd]
@[simp] theorem wp_filL {mi : M (List D)} {t : D → M Bool} {f : D → M D} : Wp (filL mi t f) S Ql E ↔ Wp mi S (fun ds S1 => szOk ds.length = true ∧ Wp (filC t f ds) S1 Ql E) E := by unfold filL; rw [wp_bind]; simp only [wp_gd]
@[simp] theorem wp_filC0 {t : D → M Bool} {f : D → M D} : Wp (filC t f []) S Ql E ↔ Ql [] S := by unfold Wp; exact .rfl
@[simp] theorem wp_filC1 {t : D → M Bool} {f : D → M D} {d : D} {ds : List D} : Wp (filC t f (d :: ds)) S Ql E ↔ Wp (t d) S (fun b S1 => if b = true then Wp (f d) S1 (fun x S2 => Wp (filC t f ds) S2 (fun r S3 => Ql (x :: r) S3) E) NoE else Wp (filC t f ds) S1 Ql E) NoE := by
  rw [filC, wp_bind, wp_calm]; simp only [wp_ite, wp_bind, wp_calm, wp_pure]
/-! the operations on whole numbers -/
@[simp] theorem add_int {i j : Int} : dAdd (.int i) (.int j) = M.pure (.int (i + j)) := rfl
@[simp] theorem add_lst {xs ys : List D} : dAdd (.lst xs) (.lst ys) = guard (szOk (xs.length + ys.length)) (M.pure (.lst (xs ++ ys))) := rfl
@[simp] theorem sub_int {i j : Int} : dSub (.int i) (.int j) = M.pure (.int (i - j)) := rfl
theorem mul_int {i j : Int} : dMul (.int i) (.int j) = guard (mulOk i j) (M.pure (.int (i * j))) := rfl
theorem div_int {i j : Int} : dDiv (.int i) (.int j) = guard (decide (0 < j) && decide (j < 2 ^ 256)) (M.pure (.int (i / j))) := rfl
@[simp] theorem pow_int {i j : Int} : dPow (.int i) (.int j) = guard (decide (0 ≤ j) && decide (j ≤ 1000000) && decide (i.natAbs < 2 ^ 64)) (M.pure (.int (i ^ j.toNat))) := rfl
@[simp] theorem neg_int {i : Int} : dNeg (.int i) = M.pure (.int (-i)) := rfl
@[simp] theorem lt_int {i j : Int} : dLt (.int i) (.int j) = M.pure (.bl (decide (i < j))) := rfl
@[simp] theorem gt_int {i j : Int} : dGt (.int i) (.int j) = M.pure (.bl (decide (i > j))) := rfl
@[simp] theorem le_int {i j : Int} : dLe (.int i) (.int j) = M.pure (.bl (decide (i ≤ j))) := rfl
@[simp] theorem ge_int {i j : Int} : dGe (.int i) (.int j) = M.pure (.bl (decide (i ≥ j))) := rfl
theorem max_int {i j : Int} : dMax (.int i) (.int j) = M.pure (.int (if j > i then j else i)) := rfl
theorem min_int {i j : Int} : dMin (.int i) (.int j) = M.pure (.int (if j < i then j else i)) := rfl
@[simp] theorem isn_non : dIsN .non = M.pure (.bl true) := rfl
@[simp] theorem isn_int {i : Int} : dIsN (.int i) = M.pure (.bl false) := rfl
@[simp] theorem isn_lst {i : List D} : dIsN (.lst i) = M.pure (.bl false) := rfl
@[simp] theorem isn_tup {i : List D} : dIsN (.tup i) = M.pure (.bl false) := rfl
@[simp] theorem isn_ptr {i : Nat} : dIsN (.ptr i) = M.pure (.bl false) := rfl
@[simp] theorem isb_bl {b c : Bool} : dIsB b (.bl c) = M.pure (.bl (c == b)) := by cases b <;> cases c <;> rfl
@[simp] theorem isi_non {ts : List Ty} : dIsi ts .non = M.pure (.bl (ts.any Ty.non.sub)) := rfl
@[simp] theorem isi_bl {ts : List Ty} {b : Bool} : dIsi ts (.bl b) = M.pure (.bl (ts.any Ty.bool.sub)) := rfl
@[simp] theorem isi_int {ts : List Ty} {b : Int} : dIsi ts (.int b) = M.pure (.bl (ts.any Ty.int.sub)) := rfl
@[simp] theorem isi_str {ts : List Ty} {b : Str} : dIsi ts (.str b) = M.pure (.bl (ts.any Ty.str.sub)) := rfl
@[simp] theorem isi_lst {ts : List Ty} {b : List D} : dIsi ts (.lst b) = M.pure (.bl (ts.any Ty.list.sub)) := rfl
@[simp] theorem isi_tup {ts : List Ty} {b : List D} : dIsi ts (.tup b) = M.pure (.bl (ts.any Ty.tuple.sub)) := rfl
@[simp] theorem eq_int {i j : Int} : dEq (.int i) (.int j) = M.pure (.bl (i == j)) := rfl
@[simp] theorem eq_bl {i j : Bool} : dEq (.bl i) (.bl j) = M.pure (.bl (i == j)) := rfl
@[simp] theorem eq_str {i j : Str} : dEq (.str i) (.str j) = guard ((D.str i).plain && (D.str j).plain) (M.pure (.bl (i == j))) := rfl
@[simp] theorem eq_non : dEq .non .non = M.pure (.bl true) := rfl
@[simp] theorem ne_int {i j : Int} : dNe (.int i) (.int j) = M.pure (.bl (!(i == j))) := rfl
@[simp] theorem ne_bl {i j : Bool} : dNe (.bl i) (.bl j) = M.pure (.bl (!(i == j))) := rfl
@[simp] theorem len_lst {ds : List D} : dLen (.lst ds) = M.pure (.int ds.length) := rfl
@[simp] theorem len_tup {ds : List D} : dLen (.tup ds) = M.pure (.int ds.length) := rfl
@[simp] theorem item_lst {ds : List D} {i : Int} : dItem (.lst ds) (.int i) = ofOpt (atI ds i) := rfl
@[simp] theorem item_tup {ds : List D} {i : Int} : dItem (.tup ds) (.int i) = ofOpt (atI ds i) := rfl
@[simp] theorem wp_opt {o : Option α} : Wp (ofOpt o) S Q E ↔ ∃ a, o = some a ∧ Q a S := by
  cases o with
  | none => rw [ofOpt, wp_bad]; exact ⟨fun h => h.elim, fun ⟨_, e, _⟩ => nomatch e⟩
  | some a => rw [ofOpt, wp_pure]; exact ⟨fun h => ⟨a, rfl, h⟩, fun ⟨_, e, h⟩ => by cases e; exact h⟩
@[simp] theorem items_lst {ds : List D} : items (.lst ds) = M.pure ds := rfl
@[simp] theorem items_tup {ds : List D} : items (.tup ds) = M.pure ds := rfl
@[simp] theorem enum_lst {ds : List D} : enumM (.lst ds) = M.pure (enumD ds) := rfl
@[simp] theorem zip_lst {ds es : List D} : zipM [.lst ds, .lst es] = M.pure (zipD ds es) := rfl
@[simp] theorem zip_tup {ds es : List D} : zipM [.tup ds, .tup es] = M.pure (zipD ds es) := rfl
@[simp] theorem wp_rng1 {j : Int} : Wp (rng1 (.int j)) S Ql E ↔ (-(2 ^ 62) ≤ j ∧ j < 2 ^ 62) ∧ Ql ((List.range j.toNat).map fun (i : Nat) => .int i) S := by
  show Wp (if decide (-(2 ^ 62) ≤ j) && decide (j < 2 ^ 62) then M.pure ((List.range j.toNat).map fun (i : Nat) => D.int i) else M.bad) S Ql E ↔ _
  by_cases h : -(2 ^ 62) ≤ j ∧ j < 2 ^ 62
  · rw [if_pos (by simpa using h), wp_pure]; exact ⟨fun q => ⟨h, q⟩, fun q => q.2⟩
  · rw [if_neg (by simpa using h), wp_bad]; exact ⟨fun q => q.elim, fun q => (h q.1).elim⟩
/-! cells -/
@[simp] theorem seq_lst {ds : List D} : asSeq (.lst ds) = M.pure ds := rfl
@[simp] theorem seq_tup {ds : List D} : asSeq (.tup ds) = M.pure ds := rfl
@[simp] theorem lst_lst {ds : List D} : asLst (.lst ds) = M.pure ds := rfl
@[simp] theorem wp_toList {m : M D} : Wp (toList m) S Ql E ↔ Wp m S (fun d S1 => Wp (asSeq d) S1 Ql E) E := by
  unfold toList; rw [wp_bind]; simp only [wp_bind, wp_pure]
@[simp] theorem wp_box {m : M (List D)} : Wp (boxM m) S Qd E ↔ Wp m S (fun ds S1 => Qd (.ptr S1.cells.length) { S1 with cells := S1.cells ++ [.lst ds] }) E := by
  unfold boxM; rw [wp_bind]; unfold Wp; exact .rfl
@[simp] theorem wp_part0 {Qo : Option Int → MS → Prop} : Wp (partM none) S Qo E ↔ Qo none S := by unfold Wp; exact .rfl
@[simp] theorem wp_cut {m : M D} {lo hi : M (Option Int)} : Wp (cutM m lo hi) S Ql E ↔ Wp m S (fun d S1 => Wp lo S1 (fun l S2 => Wp hi S2 (fun u S3 => Wp (asLst d) S3 (fun ds S4 => Ql (cutD ds l u) S4) E) E) E) E := by
  unfold cutM; rw [wp_bind]; simp only [wp_bind, wp_pure]
end
end Dl
namespace Dl
open PySem L2
/-! ### places and slices -/
theorem atI_nat {α : Type} {xs : List α} {i : Int} (h0 : 0 ≤ i) (h1 : i < xs.length) : ∃ a, atI xs i = some a ∧ a ∈ xs ∧ xs[i.toNat]? = some a := by
  have h2 : i.toNat < xs.length := by omega
  refine ⟨xs[i.toNat], ?_, List.getElem_mem h2, List.getElem?_eq_getElem h2⟩
  unfold atI ixN
  rw [if_pos h0, if_pos h1]
  exact List.getElem?_eq_getElem h2
/-! ### the law's helpers -/
/-- data of which the law may ask whether they are the same -/
inductive Good : Nat → D → Prop where
  | non {n : Nat} : Good (n + 1) .non
  | bl {n : Nat} (b : Bool) : Good (n + 1) (.bl b)
  | int {n : Nat} (i : Int) : Good (n + 1) (.int i)
  | str {n : Nat} (x : Str) (h : (D.str x).plain = true) : Good (n + 1) (.str x)
  | lst {n : Nat} (ds : List D) (h : ds.length ≤ 16777216) (t : ∀ d ∈ ds, Good n d) : Good (n + 1) (.lst ds)
  | tup {n : Nat} (ds : List D) (h : ds.length ≤ 16777216) (t : ∀ d ∈ ds, Good n d) : Good (n + 1) (.tup ds)
theorem bools_rep : ∀ n : Nat, bools (List.replicate n (.bl true)) = some (List.replicate n true)
  | 0 => rfl
  | n + 1 => by rw [List.replicate_succ, bools, bools_rep n]; rfl
end Dl
/-! comprehensions of which an item may raise -/
namespace Dl
open PySem L2 PySem.Spec PyProof.Rows PySem.HandSPX
/-- what a comprehension's block is to reach; fr: the frame on which its def stands -/
def postX (M : Model) (A : Around) (E : Value → Shared → Prop) (use : Option (Value → Sem Unit)) (Q : Value → Shared → Prop) (acc : Value) (C : Addr) (fr : Option Addr) (r : Result) (s' : Shared) : Prop :=
  match r with
  | .ok f => compPost M A E use Q acc C (.ok f) s'
  | .error x => ∃ m, s'.heap.Ns C m ∧ ∀ h', Heap.SameBut C s'.heap h' → ∀ ce : Env, ce.frame = fr →
      wpAny M A (passOn "comprehension.variables-let-go" x ce : Sem Value) (fun _ _ => False) E { s' with heap := h' }
theorem comp_freeX {M : Model} {A : Around} {E : Value → Shared → Prop} {s : Shared} {env : Env} {e : Expr} {scope : Scope} {pos : Pos} {mk first : Sem Value} {c0 : Comprehension} {cs : List Comprehension} {cl : List (Str × Addr)} {use : Option (Value → Sem Unit)} {Q : Value → Shared → Prop}
    (h1 : clausesOf e = c0 :: cs) (h2 : ∀ x, foldedSetIterable c0.iter env x = pure x) (h3 : closureFor scope env = pure cl) (h4 : scope.kind = .function) (h5 : ∀ x ∈ scope.names, x.2 = .local → scope.names.lookup x.1 = some .local)
    (h : wpAny M A first (fun x s1 => wpAny M A (pyIter x) (fun it s2 => wpAny M A mk (fun acc s3 => wpAny M A (newFunctionEnv scope env.globals cl [] env.qual none .none (some env))
      (fun ce s4 => codeAny M A (.compStart e 0 it acc { ce with scope := relabel scope env }) (postX M A E use Q acc ce.locals ce.frame) s4) E s3) E s2) E s1) E s) :
    wpAny M A (comprehension e scope env pos mk false first use) Q E s := by
  unfold comprehension
  rw [h3, h1]
  refine wpAny_bind (wpAny_mono h (fun x s1 k1 => ?_) fun _ _ z => z)
  refine wpAny_bind (wpAny_standAt (wpAny_bind (wpAny_of_eq (h2 x) (wpAny_bind (wpAny_holding ?_)))))
  refine wpAny_mono k1 (fun it s2 k2 => wpAny_standIf ?_) fun _ _ z => z
  refine wpAny_bind (wpAny_mono k2 (fun acc s3 k3 => ?_) fun _ _ z => z)
  refine wpAny_bind (wpAny_pure (wpAny_bind (wpAny_mono k3 (fun ce s4 k4 => ?_) fun _ _ z => z)))
  dsimp only
  have kd : ∀ (l : List (Str × NameKind)), (∀ x ∈ l, x ∈ scope.names) → ∀ x ∈ l, x.2 = .local → Env.kindOf { ce with scope := relabel scope env } x.1 = some .local := fun l hl x hx e => lookup_relabel_local (h5 x (hl x hx) e)
  have sub : ∀ x ∈ (scope.names.filter fun x => (x.2 == .local || x.2 == .cell) && x.1 != (".0" : Str)).reverse, x ∈ scope.names := fun x hx => (List.mem_filter.mp (List.mem_reverse.mp hx)).1
  refine wpAny_holding (wpAny_bind (wpAny_attempt (wpAny_holding (wpAny_run (codeAny_mono k4 fun r s' hr => ?_)))))
  cases r with
  | ok f =>
    cases use with
    | none =>
      obtain ⟨m, hn, q⟩ := hr
      apply wpAny_bind
      apply wpAny_holding
      exact wpAny_comp_letGo (cenv := { ce with scope := relabel scope env }) h4 _ s' m (kd _ sub) hn fun h' m' _ sb => wpAny_pure (q h' sb)
    | some u =>
      refine wpAny_bind (wpAny_rule (wpAny_bind (wpAny_holding (wpAny_mono hr (fun _ s2 k => ?_) fun _ _ z => z))))
      obtain ⟨m, hn, q⟩ := k
      refine wpAny_bind ?_
      refine wpAny_comp_letGo (cenv := { ce with scope := relabel scope env }) h4 _ s2 m (kd _ fun x hx => ?_) hn fun h' m' _ sb => wpAny_pure (q h' sb)
      rcases List.mem_append.mp hx with y | y
      · exact sub x (List.mem_of_mem_drop y)
      · exact sub x (List.mem_of_mem_take y)
  | error x =>
    obtain ⟨m, hn, q⟩ := hr
    apply wpAny_bind
    apply wpAny_holding
    refine wpAny_comp_letGo (cenv := { ce with scope := relabel scope env }) h4 _ s' m (kd _ sub) hn fun h' m' _ sb => ?_
    exact wpAny_mono (q h' sb _ rfl) (fun _ _ f => f.elim) fun _ _ y => y
/-- an exception that another frame noted is noted here -/
theorem note_other {M : Model} {A : Around} {E : Value → Shared → Prop} {s : Shared} {base : Heap} {env : Env} {outer : List Env} {e L : Addr} {Z : Obj → Prop} {fl : Value} {Q : Unit → Shared → Prop} (hZ : Steady Z) (hfr : A.frames = some (env :: outer)) (hf : env.frame = some L)
    (kb : base.StaysIn s.heap) (en : base.get? e = none) (hl : s.heap.FunFrames base (env :: outer)) (t : TracedZ s.heap base e Z fl)
    (hQ : ∀ k, HeldZ base (env :: outer) e Z L k → s.heap.UpToSlots k → Q () { s with heap := k }) : wpAny M A (noteFrame (.ref e) env) Q E s := by
  cases q : (fl == rawInt L) with
  | true =>
    have z : fl = rawInt L := by simpa using q
    subst z
    exact againZ hf t (hQ s.heap ⟨kb, en, hl, t⟩ (Heap.UpToSlots.refl _))
  | false =>
    obtain ⟨oe, vs, T, oT, ts, he, hz, hd, h1, nT, Te, hT, dT, h3⟩ := t
    unfold noteFrame
    simp only [hf]
    apply wpAny_bind
    refine wpAny_field he hd h1 ?_
    rw [if_pos (by simp)]
    refine wpAny_bind (wpAny_field hT dT h3 ?_)
    rw [if_neg (by rw [q]; exact Bool.false_ne_true)]
    refine wpAny_bind (wpAny_setField hT dT (Array.getElem?_eq_some_iff.mp h3).1 ?_)
    have oth : ∀ b, b ≠ T → (s.heap.update T (Obj.mapFields (·.setIfInBounds 3 Value.none))).get? b = s.heap.get? b := fun b hb => Heap.get?_update_other _ _ (Ne.symm hb)
    have nr : ∀ b o, s.heap.get? b = some o → (∀ vs, o.data ≠ .fields vs) → b ≠ T := fun b o hb hnf z => by
      rw [z, hT] at hb
      cases hb
      exact hnf ts dT
    refine wpAny_entryZ hZ hfr (hl.of_keeps fun b o hb hnf => ⟨o, (oth b (nr b o hb hnf)).trans hb, rfl⟩) hf ((oth e (Ne.symm Te)).trans he) (fun b o hb => ?_) en hd (Array.getElem?_eq_some_iff.mp h1).1 hz fun h' ⟨x1, x2, x3, x4⟩ => ?_
    · exact (oth b fun z => by rw [z, nT] at hb; cases hb).trans (kb b o hb)
    · exact hQ h' ⟨x1, en, x2, x3⟩ fun b o hb hnf => x4 b o ((oth b (nr b o hb hnf)).trans hb) hnf
end Dl
namespace Dl
open PySem L2 PySem.Spec PyProof.Rows PySem.HandSPX
theorem frames_but {h h' b0 b1 : Heap} {C : Addr} (sb : ∀ b, b ≠ C → h'.get? b = h.get? b) (hb : ∀ b, b0.get? b = none → b1.get? b = none) : ∀ {l : List Env}, C ∉ frs l → h.FunFrames b0 l → h'.FunFrames b1 l
  | [], _, _ => trivial
  | env :: l, hn, h => by
    obtain ⟨hk, ⟨L, o, hf, h0, ho, hd⟩, hr⟩ := h
    have hL : L ≠ C := fun z => hn (List.mem_filterMap.mpr ⟨env, List.mem_cons_self, by rw [hf, z]⟩)
    refine ⟨hk, ⟨L, o, hf, hb L h0, (sb L hL).trans ho, hd⟩, frames_but sb hb (fun hm => hn ?_) hr⟩
    obtain ⟨v, hv, q⟩ := List.mem_filterMap.mp hm
    exact List.mem_filterMap.mpr ⟨v, List.mem_cons_of_mem _ hv, q⟩
/-- a comprehension's block that may let an exception out -/
abbrev blkX (X : Cx) (s : Shared) (H : Hp) (scope : Scope) (ce : Env) (fp : List Addr) (xe : Value → Shared → Prop) : Cx := { X.blk s H scope ce fp with xe := xe }
theorem lift_XE {X : Cx} {W : WX} {pins : List (Addr × Obj)} {σ : L2.St} {H3 : Hp} {s3 s' : Shared} {fp : List Addr} {scope : Scope} {cl : List (Str × Addr)} {xe : Value → Shared → Prop} {use : Option (Value → Sem Unit)} {Qf : Value → Shared → Prop} {acc u : Value}
    (tk : Takes X W) (hs : X.stack = X.env :: X.outer) (hf : X.env.frame = some X.env.locals) (I3 : Inv X pins σ H3 s3) (f3 : ∀ b ∈ fp, FpOk X pins H3 b ∧ b < s3.heap.objs.size)
    (x : XE (blkX X s3 H3 scope (compEnvC scope cl s3.heap.objs.size X.env) fp xe) (fun c d _ H => W c d σ H) u s') :
    notedBy (model X.prog X.w) X.A (compEnvC scope cl s3.heap.objs.size X.env) (fun e s' => postX (model X.prog X.w) X.A X.xe use Qf acc s3.heap.objs.size X.env.frame (.error e) s') u s' := by
  obtain ⟨a, B, sI, pins', σ', H', cls, d, rfl, I', nb, up, sky, na, os, ag, w⟩ := x
  have hfr : X.A.frames = some (X.env :: X.outer) := by rw [I3.ok.frames, hs]
  have hCn : s3.heap.objs.size ∉ frs X.stack := fun hm => by
    obtain ⟨_, o, ho, _⟩ := I3.stack.mem hm
    exact Nat.lt_irrefl _ (Heap.lt_size ho)
  have J0 : Inv X pins σ H' sI := I3.call' (ch := fp) I'.os I'.base I'.hok I'.bare fun b hb =>
    let z := (f3 b hb).1
    ⟨z.2.2.2.1, z.2.1, z.2.2.2.2.1, z.2.2.2.2.2⟩
  have nC : H' s3.heap.objs.size = none := I'.free
  obtain ⟨m, ⟨o, es, ep, ho, r⟩, _⟩ := I'.loc
  have ho : sI.heap.get? s3.heap.objs.size = some o := ho
  have hBC : B.get? s3.heap.objs.size = some o := nb _ o ho hCn
  have fin : ∀ h1, HeldZ B (X.env :: X.outer) a (Zc cls d) X.env.locals h1 → s'.heap.UpToSlots h1 → postX (model X.prog X.w) X.A X.xe use Qf acc s3.heap.objs.size X.env.frame (.error (.ref a)) { s' with heap := h1 } := fun h1 hh up1 => by
    refine ⟨m, ⟨o, es, ep, hh.1 _ _ hBC, r⟩, fun h' sb ce' hce => ?_⟩
    generalize hC : s3.heap.objs.size = C at *
    obtain ⟨B', b1, b2⟩ := restrict B fun b => b != C
    obtain ⟨G, g1, g2⟩ := restrict sI.heap fun b => b != C
    have gs : ∀ b u, G.get? b = some u → b ≠ C ∧ sI.heap.get? b = some u := fun b u e => by
      have hb : b ≠ C := fun z => by rw [g2 b (by simp [z])] at e; cases e
      exact ⟨hb, by rw [← g1 b (by simpa using hb)]; exact e⟩
    have bs : ∀ b u, B'.get? b = some u → b ≠ C ∧ B.get? b = some u := fun b u e => by
      have hb : b ≠ C := fun z => by rw [b2 b (by simp [z])] at e; cases e
      exact ⟨hb, by rw [← b1 b (by simpa using hb)]; exact e⟩
    have bn : ∀ b, B.get? b = none → B'.get? b = none := fun b e => by
      cases q : B'.get? b with
      | none => rfl
      | some u => rw [(bs b u q).2] at e; cases e
    obtain ⟨f0, f1, f2, f3', f4, f5⟩ := I3.fpOk (b := C) (Nat.le_of_eq hC) nC
    have J : Inv X pins σ H' { sI with heap := G } := J0.turned (t' := sI.toks) (it := C) (fun b u hb e => by rw [g1 b (by simpa using hb)]; exact e) f0 f1 f3' f4 f5
    obtain ⟨k1, k2, k3, oe, vs, T, oT, ts, he, hz, hd, hv1, hnT, hTe, hT, hdT, ht3⟩ := hh
    have aC : a ≠ C := fun z => by rw [z, hBC] at k2; cases k2
    have TC : T ≠ C := fun z => by rw [z, hBC] at hnT; cases hnT
    have he' : h'.get? a = some oe := (sb.2 a aC).trans he
    have tr : TracedZ h' B' a (Zc cls d) (rawInt X.env.locals) := ⟨oe, vs, T, oT, ts, he', hz, hd, hv1, bn T hnT, hTe, (sb.2 T TC).trans hT, hdT, ht3⟩
    have st : B'.StaysIn h' := fun b u e => (sb.2 b (bs b u e).1).trans (k1 b u (bs b u e).2)
    have fr : h'.FunFrames B' (X.env :: X.outer) := frames_but (C := C) sb.2 bn (by rw [← hs]; exact hCn) k3
    unfold PySem.passOn
    refine wpAny_bind (wpAny_field he' hd hv1 ?_)
    rw [if_neg (by simp)]
    have go : wpAny (model X.prog X.w) X.A (setFlight (.ref a) ce'.frame) (fun _ s4 => wpAny (model X.prog X.w) X.A (throw (.ref a) : Sem Value) (fun _ _ => False) X.xe s4) X.xe { s' with heap := h' } := by
      rw [hce, hf]
      refine setFlight_anyZ st fr tr fun h4 q1 q2 q3 q4 => wpAny_throw (tk _ _ ?_)
      refine ⟨a, B', { sI with heap := G }, pins, σ, H', cls, d, rfl, J, fun b u e hb => ?_, fun b u e nf => ?_, .inr (.inr ?_), na, os, ag, w⟩
      · obtain ⟨hbC, e'⟩ := gs b u e
        rw [b1 b (by simpa using hbC)]
        exact nb b u e' hb
      · obtain ⟨hbC, e'⟩ := gs b u e
        obtain ⟨sl, y⟩ := (up.trans up1) b u e' nf
        obtain ⟨s2, y2⟩ := q4 b { u with slots := sl } ((sb.2 b hbC).trans y) nf
        exact ⟨s2, y2⟩
      · rw [hs]
        exact ⟨q1, bn a k2, q2, q3⟩
    first
      | exact wpAny_bind (wpAny_pure (wpAny_bind go))
      | exact wpAny_bind go
  unfold notedBy
  rw [show noteFrame (.ref a) (compEnvC scope cl s3.heap.objs.size X.env) = noteFrame (.ref a) X.env from rfl]
  have sky : Sky B X.stack a (Zc cls d) s3.heap.objs.size s'.heap := sky
  rw [hs] at sky
  rcases sky with ⟨hB, hn, hl, oe, vs, he, hz, hd, h1⟩ | fl | hh
  · exact look_newZ Zc.steady hfr hl hf he hB hn hd h1 hz fin
  · exact looks_onZ Zc.steady hfr hf fl fin
  · exact note_other Zc.steady hfr hf hh.1 hh.2.1 hh.2.2.1 hh.2.2.2 fin
/-- the walk over a comprehension of which an item may raise: R is what its block is to reach -/
theorem lcX_core {X : Cx} {W : WX} {pins : List (Addr × Obj)} {s : Shared} {σ : L2.St} {H : Hp} {Q : VK} {elt tg iter : Expr} {ifs : List Expr} {scope : Scope} {own : List (Str × Nat)} {pos pos' : Pos} {wi : TI} {g : TG} {tt : WX → TT} {te : WX → TE} {use : Option (Value → Sem Unit)} {Qf : Value → Shared → Prop}
    (tk : Takes X W) (hst : X.stack = X.env :: X.outer) (hfr : X.env.frame = some X.env.locals) (hc : X.calm = true) (hN : X.N.Nodup) (I : Inv X pins σ H s) (hi : PI X tg iter wi) (ok : BlkOk X.N X.env.scope scope own)
    (hg : ∀ (s : Shared) (H : Hp) (C : Addr) (cl : List (Str × Addr)) (fp : List Addr) (xe : Value → Shared → Prop), PG (blkX X s H scope (compEnvC scope cl C X.env) fp xe) tg g)
    (ht : ∀ (s : Shared) (H : Hp) (C : Addr) (cl : List (Str × Addr)) (fp : List Addr) (xe : Value → Shared → Prop) (W' : WX), Takes (blkX X s H scope (compEnvC scope cl C X.env) fp xe) W' → PTs (blkX X s H scope (compEnvC scope cl C X.env) fp xe) ifs (tt W'))
    (he : ∀ (s : Shared) (H : Hp) (C : Addr) (cl : List (Str × Addr)) (fp : List Addr) (xe : Value → Shared → Prop) (W' : WX), Takes (blkX X s H scope (compEnvC scope cl C X.env) fp xe) W' → PE (blkX X s H scope (compEnvC scope cl C X.env) fp xe) elt (te W'))
    (hfs : ∀ x, foldedSetIterable iter X.env x = pure x)
    (h : tLc wi g (tt fun c d _ H => W c d σ H) (te fun c d _ H => W c d σ H) (own.map (·.2)) σ H Q)
    (done : ∀ L C t m K, Inv X pins σ K t → Q (.ref L) K → t.heap.Ns C m → FpOk X pins K C → compPost (model X.prog X.w) X.A X.xe use Qf (.ref L) C (.ok .next) t) :
    wpAny (model X.prog X.w) X.A (comprehension (.ListComp elt [{ target := tg, iter := iter, ifs := ifs, is_async := 0 }] scope pos) scope X.env pos' (newList []) false (eval iter X.env) use) Qf X.xe s := by
  have hfree : ∀ y ∈ scope.names, y.2 = .free → ∃ c, X.env.cells.lookup y.1 = some c := fun y hy e => (ok.free y hy e).elim (fun k => I.ok.has _ (.inl k)) fun k => I.ok.has _ (.inr k)
  refine comp_freeX (use := use) rfl hfs (closure_ok hfree) ok.kind (fun y hy e => by rw [ok.uniq y hy, e]) (thn (hi.run pins s σ H _ I h) fun xv t1 hx => thn hx fun itv t2 h2 => ?_)
  obtain ⟨it, fp, tn, J, H2, ei, I2, T, st2, f2, q⟩ := h2
  subst ei
  refine wpAny_newObj_type (newEnv_comp ?_) (Nat.zero_le sizeLine)
  generalize eD : t2.heap.objs.size = D
  obtain ⟨V, ⟨m0, w0⟩, turn⟩ := q D (I2.hok.fresh (Nat.le_of_eq eD))
  generalize e3 : ({ t2 with heap := t2.heap.push { cls := .type "list", data := .seq ([] : List Value).toArray } } : Shared) = t3
  have I3 : Inv X pins σ (upd H2 D (.lst [])) t3 := by
    rw [← e3]
    refine I2.laid (t' := t2.toks) (fun b o z => Heap.get?_push_of_some _ z) (Nat.le_of_eq eD) ⟨Nat.zero_le _, [], 0, .nil, ?_⟩
    rw [← eD]; exact Heap.get?_push_size _ rfl
  have e3h : t3.heap = t2.heap.push { cls := .type "list", data := .seq ([] : List Value).toArray } := by rw [← e3]
  have f3 : ∀ b ∈ fp, FpOk X pins (upd H2 D (.lst [])) b ∧ b < t3.heap.objs.size := fun b hb => by
    obtain ⟨o, z, _⟩ := T.obj _ _ st2 b hb
    have lt := Heap.lt_size z
    refine ⟨⟨?_, (f2 b hb).2⟩, by rw [e3h, Heap.size_push]; exact Nat.lt_succ_of_lt lt⟩
    rw [upd_ne (by rw [← eD]; exact Nat.ne_of_lt lt)]; exact (f2 b hb).1
  have st3 : tn 0 t3.heap := T.keep _ _ _ st2 fun b _ o z => by rw [e3h]; exact Heap.get?_push_of_some _ z
  generalize eH : upd H2 D (.lst []) = H3 at I3 w0 f3
  -- what the block is to reach, and that an exception gets there
  let R : Result → Shared → Prop := postX (model X.prog X.w) X.A X.xe use Qf (.ref D) t3.heap.objs.size X.env.frame
  let ce : Env := compEnvC scope (cellsFrom (t3.heap.objs.size + 1) scope.names (cloFrom X.env.cells scope.names [])) t3.heap.objs.size X.env
  let xe : Value → Shared → Prop := notedBy (model X.prog X.w) X.A ce fun e s' => R (.error e) s'
  let W' : WX := fun c d _ H => W c d σ H
  have tkb : Takes (blkX X t3 H3 scope ce fp xe) W' := fun u s' x => lift_XE tk hst hfr I3 f3 x
  have I4 : Inv (blkX X t3 H3 scope ce fp xe) [] (wipe σ (own.map (·.2))) H3 { t3 with heap := pushCells (t3.heap.push { cls := .type "dict", data := .dict #[] }) scope.names } := (block_start I3 ok hN f3).wish xe
  have pg := hg t3 H3 t3.heap.objs.size (cellsFrom (t3.heap.objs.size + 1) scope.names (cloFrom X.env.cells scope.names [])) fp xe
  have pt := ht t3 H3 t3.heap.objs.size (cellsFrom (t3.heap.objs.size + 1) scope.names (cloFrom X.env.cells scope.names [])) fp xe W' tkb
  have pe := he t3 H3 t3.heap.objs.size (cellsFrom (t3.heap.objs.size + 1) scope.names (cloFrom X.env.cells scope.names [])) fp xe W' tkb
  show codeAny (model X.prog X.w) X.A (.compStart (.ListComp elt [⟨tg, iter, ifs, 0⟩] scope pos) 0 (.ref it) (.ref D) ce) R { t3 with heap := pushCells (t3.heap.push { cls := .type "dict", data := .dict #[] }) scope.names }
  generalize e4 : ({ t3 with heap := pushCells (t3.heap.push { cls := .type "dict", data := .dict #[] }) scope.names } : Shared) = t4 at I4 ⊢
  have st4 : tn 0 t4.heap := T.keep _ _ _ st3 fun b _ o z => by rw [← e4]; exact pushCells_keeps _ _ _ _ (Heap.get?_push_of_some _ z)
  have still : ∀ {σ' : L2.St} {H' : Hp} {s' : Shared}, Inv (blkX X t3 H3 scope ce fp xe) [] σ' H' s' → (∀ b ∈ fp, H' b = none) → ∀ b ∈ fp, FpOk (blkX X t3 H3 scope ce fp xe) [] H' b := fun {σ' H' s'} I' hn b hb =>
    ⟨hn b hb, (I'.ok.exf b hb).1, I'.ok.exfs b hb, .inl hb, fun x c z => (I'.ok.exf b hb).2 x c z, fun p hp => absurd hp (by show p ∉ ([] : List (Addr × Obj)) ++ []; simp)⟩
  have loop : codeAny (model X.prog X.w) X.A (.compLoop (.ListComp elt [⟨tg, iter, ifs, 0⟩] scope pos) 0 (.ref it) (.ref D) ce) R t4 := by
    refine compLoop_any (fun n s' => ∃ i H', Inv (blkX X t3 H3 scope ce fp xe) [] (wipe σ (own.map (·.2))) H' s' ∧ tn i s'.heap ∧ (∀ b ∈ fp, H' b = none) ∧ V i n H') ?_ m0 ⟨0, H3, I4, st4, fun b hb => (f3 b hb).1.1, w0⟩
    rintro n t5 ⟨i, H5, I5, st5, n5, w5⟩
    rcases turn i n H5 w5 with ⟨halt, qq⟩ | ⟨go, Nx, less, step⟩
    · have td := T.done (blkX X t3 H3 scope ce fp xe) rfl rfl rfl hc i [] t5 _ H5 (fun _ _ => False) I5 (still I5 n5) st5 halt
      refine thnF td fun r t6 ⟨hr, I6⟩ => ?_
      subst hr
      have I7 : Inv X pins σ H5 t6 := I3.call' (ch := fp) I6.os I6.base I6.hok I6.bare fun b hb =>
        let z := (f3 b hb).1
        ⟨z.2.2.2.1, z.2.1, z.2.2.2.2.1, z.2.2.2.2.2⟩
      obtain ⟨m, hn, _⟩ := I6.loc
      exact done D t3.heap.objs.size t6 m H5 I7 qq hn (I3.fpOk (Nat.le_refl _) I6.free)
    · have ti := T.item (blkX X t3 H3 scope ce fp xe) rfl rfl rfl hc i [] t5 _ H5 (fun _ _ => False) I5 (still I5 n5) st5 go
      refine thnF ti fun r t6 ⟨u, hr, h6⟩ => ?_
      subst hr
      refine thnF h6 fun _ t7 ⟨x, H7, I7, r7, y7, st7, n7⟩ => ?_
      have P7 := I7.pinned (still I7 n7) (T.obj _ _ st7)
      refine thn (pg.run _ t7 _ H7 x u _ P7 r7 (step x H7 y7)) fun _ t8 ⟨σ8, H8, I8, hw8, q8⟩ => ?_
      refine thn (pt.run _ t8 σ8 H8 _ I8 q8) fun b t9 ⟨H9, I9, q9⟩ => ?_
      have fin : ∀ {s' : Shared} {H' : Hp}, Inv (blkX X t3 H3 scope ce fp xe) ([] ++ pinsAt fp t7.heap) σ8 H' s' → Nx H' → ∃ m, m < n ∧ ∃ i H', Inv (blkX X t3 H3 scope ce fp xe) [] (wipe σ (own.map (·.2))) H' s' ∧ tn i s'.heap ∧ (∀ b ∈ fp, H' b = none) ∧ V i m H' := fun {s' H'} I' nx => by
        obtain ⟨m', hm, w'⟩ := less H' nx
        have pin' : ∀ b ∈ fp, ∀ o, t7.heap.get? b = some o → s'.heap.get? b = some o ∧ H' b = none := fun b hb o z =>
          let y := I'.pin (b, o) (List.mem_append_right _ (List.mem_append_right _ (mem_pinsAt hb z)))
          ⟨y.1, y.2.1⟩
        refine ⟨m', hm, i + 1, H', (I'.unpinned (pins := [])).weak (by rw [← hw8, wipe_length]) (fun j v z => ?_), T.keep _ _ _ st7 fun b hb o z => (pin' b hb o z).1, fun b hb => ?_, w'⟩
        · rw [← hw8] at z; exact (wipe_some z).1
        · obtain ⟨o, z, _⟩ := T.obj _ _ st7 b hb
          exact (pin' b hb o z).2
      cases b with
      | false =>
        simp only [if_false, Bool.false_eq_true] at q9 ⊢
        exact fin I9 q9
      | true =>
        simp only [if_true] at q9 ⊢
        refine thn (pe.run _ t9 σ8 H9 _ I9 q9) fun z t10 ⟨yv, H10, I10, r10, acc, hD10, hz10, nx⟩ => ?_
        exact app_ok (X := blkX X t3 H3 scope ce fp xe) I10 hD10 hz10 r10 fun t11 I11 => fin I11 nx
  refine codeAny_compStart_list loop ?_
  exact T.self X.A 0 _ _ _ st4 loop
end Dl
namespace Dl
open PySem L2
section
variable {X : Cx} {W : WX} {ρ : List Slot} {tg iter elt : Expr} {ifs : List Expr} {scope : Scope} {own : List (Str × Nat)} {pos : Pos} {mi : M (List D)} {g : TG} {u : D → Option (List D)} {sl : List Slot → List D → List Slot} {is : List Nat} {mt : List D → M Bool} {me : List D → M D}
/-- a comprehension of which a test or an item may raise -/
def lcXM (mi : M (List D)) (u : D → Option (List D)) (mt : List D → M Bool) (me : List D → M D) : M (List D) := mi.bind fun ds => if szOk ds.length = true then compM (fun d => unM u (eltM mt me) d) ds else M.bad
theorem lcX_ok {K : PySem.W.Frag} {mg : Str → Option Value} {vs : List Nat} {σ : L2.St} {H : Hp} {Q : VK} (his : ∀ i ∈ is, i ∈ vs) (ht : TgD K mg g u sl is) (h : tN K mg W ρ (lcXM mi u mt me) σ H Q) :
    tLc (tI K mg W ρ mi) g (fun τ H Q => ∃ us, tG K mg (fun c d _ H => W c d σ H) RB (sl (wipeR ρ vs) us) (mt us) τ H Q) (fun τ H Q => ∃ us, tG K mg (fun c d _ H => W c d σ H) (RD K) (sl (wipeR ρ vs) us) (me us) τ H Q) vs σ H Q := by
  obtain ⟨G0, H0, G, S, si, h⟩ := h
  refine ⟨G0, H0, G, S, si, ?_⟩
  unfold lcXM M.bind at h
  cases e : mi S with
  | err x S1 => rw [e] at h; exact h
  | bad => rw [e] at h; exact h
  | ok ds S1 =>
    rw [e] at h
    by_cases hz : szOk ds.length = true
    case neg =>
      simp only [hz, if_false] at h
      exact h.elim
    simp only [hz, if_true] at h
    have hz' := sz_of hz
    intro J G1 H1 s1 f1 iw Dl hDl
    obtain ⟨Gd, Y, wk, hG, hY⟩ := iw
    let cm : D → M (Option D) := fun d => unM u (eltM mt me) d
    have h : okN K mg W G0 H0 G H σ ρ Q (compM cm ds S1) := h
    let Pv : Nat → Hp → Prop := fun i H' => ∃ G' S' xs acc, SI K mg G0 H0 G' H' σ ρ S' ∧ FR G1 H1 G' H' ∧ H' Dl = some (.lst xs) ∧ xs.length ≤ i ∧ Reps K G' H' xs acc ∧ G'.O Dl ∧ ¬ G'.cell Dl ∧
      okN K mg W G0 H0 G H σ ρ Q (((compM cm (ds.drop i)).bind fun r => M.pure (acc ++ r)) S')
    refine lc_it (g := g) (tt := fun τ H Q => ∃ us, tG K mg (fun c d _ H => W c d σ H) RB (sl (wipeR ρ vs) us) (mt us) τ H Q) (te := fun τ H Q => ∃ us, tG K mg (fun c d _ H => W c d σ H) (RD K) (sl (wipeR ρ vs) us) (me us) τ H Q) (vs := vs) (σ := σ) (H1 := H1) (D := Dl) (Qd := fun H => Q (.ref Dl) H) wk Pv ?_ ?_ ?_ ?_
    · refine ⟨G1.own Dl, S1, [], [], s1.allocO hDl, .allocO hDl, upd_same, Nat.le_refl _, .nil, .inl rfl, fun c => s1.wf.fresh hDl (.inl c), ?_⟩
      rw [List.drop_zero]
      unfold M.bind
      cases q : compM cm ds S1 with
      | ok r S2 => rw [q] at h; exact h
      | err x S2 => rw [q] at h; exact h
      | bad => rw [q] at h; exact h
    · rintro i H' _ ⟨G', S', xs, acc, _, fr, _⟩
      exact hG G' H' fr.lr
    · rintro i x H' H2 hi ⟨G', S', xs, acc, s', fr, hD, hx, tx, hO, hc, h'⟩ y
      obtain ⟨hH, d, hd, rd⟩ := hY i G' H' x H2 hi fr.lr y
      have f2 : FR G' H' G' H2 := by
        rcases hH with e | ⟨p, o, hp, e⟩
        · rw [e]; exact .refl _ _
        · rw [e]; exact .alloc hp
      have s2 : SI K mg G0 H0 G' H2 σ ρ S' := by
        rcases hH with e | ⟨p, o, hp, e⟩
        · rw [e]; exact s'
        · rw [e]; exact s'.alloc hp
      have ed : ds.drop i = d :: ds.drop (i + 1) := by
        obtain ⟨hi', e⟩ := List.getElem?_eq_some_iff.mp hd
        rw [← e]
        exact List.drop_eq_getElem_cons hi'
      rw [ed] at h'
      have ow : ∀ (i : Nat) (ds : List D), ρ[i]? = some (.own ds) → σ[i]? ≠ some (some (V.ref Dl)) := s1.owns hDl
      have h0 : H0 Dl = none := s1.fr.free hDl
      -- the turn
      have bad : cm d S' = .bad → False := fun q => by
        unfold compM M.bind at h'
        simp only [q] at h'
        exact h'.elim
      cases qu : u d with
      | none => exact (bad (by show unM u (eltM mt me) d S' = _; unfold unM; rw [qu]; rfl)).elim
      | some us =>
        have qe : cm d S' = eltM mt me us S' := by
          show unM u (eltM mt me) d S' = _
          unfold unM
          rw [qu]
          rfl
        have err : ∀ {x : Err} {S3 : MS}, eltM mt me us S' = .err x S3 → okN K mg W G0 H0 G H σ ρ Q (.err x S3) := fun {x S3} q => by
          rw [q] at qe
          unfold compM M.bind at h'
          simp only [qe] at h'
          exact h'
        refine ht G0 H0 G' H2 (wipe σ vs) (wipeR ρ vs) S' x d us _ (s2.wipe vs) rd qu fun σ2 si2 hw => ⟨?_, us, G0, H0, G', S', si2, ?_⟩
        · rw [hw vs his]
          exact wipe_idem vs fun _ h => h
        · -- the test
          have hD2 : H2 Dl = some (.lst xs) := f2.keep _ _ hD (.inl hc)
          have fin : ∀ {o : Option D} {S3 : MS}, eltM mt me us S' = .ok o S3 → okN K mg W G0 H0 G H σ ρ Q (((compM cm (ds.drop (i + 1))).bind fun r => M.pure (acc ++ (match o with | some x => x :: r | none => r))) S3) := fun {o S3} q => by
            rw [q] at qe
            have q' := qe
            unfold compM M.bind at h'
            simp only [q'] at h'
            unfold M.bind
            cases q2 : compM cm (ds.drop (i + 1)) S3 with
            | ok r S4 => simp only [q2] at h'; exact h'
            | err a b => simp only [q2] at h'; exact h'
            | bad => simp only [q2] at h'; exact h'
          cases qt : mt us S' with
          | err a b =>
            intro cls da G3 H3 s3 f3 er
            exact err (show eltM mt me us S' = .err a b by unfold eltM M.bind; rw [qt]) cls da G3 H3 (s2.mono f3 s3.wf) (f1.trans (fr.trans (f2.trans f3))) er
          | bad => exact (bad (qe.trans (show eltM mt me us S' = .bad by unfold eltM M.bind; rw [qt]))).elim
          | ok b S3 =>
            intro b' G3 H3 s3 f3 eb
            cases eb
            have hD3 : H3 Dl = some (.lst xs) := f3.keep _ _ hD2 (.inl hc)
            cases b with
            | false =>
              refine ⟨G3, S3, xs, acc, s2.mono f3 s3.wf, fr.trans (f2.trans f3), hD3, by omega, tx.mono (f2.trans f3), (f2.trans f3).oold _ hO, fun c => ?_, ?_⟩
              · rcases f3.cnew _ c with y | y
                · exact hc y
                · rw [hD2] at y; cases y
              · exact fin (o := none) (by unfold eltM M.bind; rw [qt]; rfl)
            | true =>
              refine ⟨us, G0, H0, G3, S3, s3, ?_⟩
              cases qm : me us S3 with
              | err a b =>
                intro cls da G4 H4 s4 f4 er
                exact err (show eltM mt me us S' = .err a b by unfold eltM M.bind; rw [qt]; simp only [if_true]; rw [qm]) cls da G4 H4 (s2.mono (f3.trans f4) s4.wf) (f1.trans (fr.trans (f2.trans (f3.trans f4)))) er
              | bad => exact (bad (qe.trans (show eltM mt me us S' = .bad by unfold eltM M.bind; rw [qt]; simp only [if_true]; rw [qm]))).elim
              | ok y' S4 =>
                intro yv G4 H4 s4 f4 ry
                have f24 := f2.trans (f3.trans f4)
                have hc3 : ¬ G3.cell Dl := fun c => by
                  rcases f3.cnew _ c with y | y
                  · exact hc y
                  · rw [hD2] at y; cases y
                have hD4 : H4 Dl = some (.lst xs) := f4.keep _ _ hD3 (.inl hc3)
                have hc4 : ¬ G4.cell Dl := fun c => by
                  rcases f4.cnew _ c with y | y
                  · exact hc3 y
                  · rw [hD3] at y; cases y
                have hO4 : G4.O Dl := f24.oold _ hO
                have s5 : SI K mg G0 H0 G4 H4 σ ρ S4 := s2.mono (f3.trans f4) s4.wf
                have lr : LR G4 H4 G4 (upd H4 Dl (.lst (xs ++ [yv]))) := .put hD4 (fun z => z) (.inr hO4)
                refine ⟨xs, hD4, by omega, ?_⟩
                refine ⟨G4, S4, xs ++ [yv], acc ++ [y'], s5.putO hD4 (fun z => z) hO4 hc4 h0 ow, (fr.trans f24).putO hDl, upd_same, by rw [List.length_append, List.length_singleton]; omega, ?_, hO4, hc4, ?_⟩
                · exact ((tx.mono f24).append (.cons ry .nil)).lr lr
                · have z := fin (o := some y') (S3 := S4) (by unfold eltM M.bind; rw [qt]; simp only [if_true]; rw [qm]; rfl)
                  simpa only [List.append_assoc, List.singleton_append] using z
    · rintro H' ⟨G', S', xs, acc, s', fr, hD, hx, tx, hO, hc, h'⟩
      rw [List.drop_length] at h'
      have h' : okN K mg W G0 H0 G H σ ρ Q (.ok (acc ++ []) S') := h'
      rw [List.append_nil] at h'
      exact h' Dl xs G' H' s' (f1.trans fr) (f1.free hDl) hD (by omega) hO hc tx
theorem pe_lcX {wi : TI} {tt : WX → TT} {te : WX → TE} (tk : Takes X W) (hN : X.N.Nodup) (ok : BlkOk X.N X.env.scope scope own) (hi : PI X tg iter wi)
    (hg : ∀ (s : Shared) (H : Hp) (C : Addr) (cl : List (Str × Addr)) (fp : List Addr) (xe : Value → Shared → Prop), PG (blkX X s H scope (compEnvC scope cl C X.env) fp xe) tg g)
    (ht : ∀ (s : Shared) (H : Hp) (C : Addr) (cl : List (Str × Addr)) (fp : List Addr) (xe : Value → Shared → Prop) (W' : WX), Takes (blkX X s H scope (compEnvC scope cl C X.env) fp xe) W' → PTs (blkX X s H scope (compEnvC scope cl C X.env) fp xe) ifs (tt W'))
    (he : ∀ (s : Shared) (H : Hp) (C : Addr) (cl : List (Str × Addr)) (fp : List Addr) (xe : Value → Shared → Prop) (W' : WX), Takes (blkX X s H scope (compEnvC scope cl C X.env) fp xe) W' → PE (blkX X s H scope (compEnvC scope cl C X.env) fp xe) elt (te W'))
    (hst : X.stack = X.env :: X.outer) (hfr : X.env.frame = some X.env.locals) (hc : X.calm = true) (hs : ∀ x, foldedSetIterable iter X.env x = pure x) :
    PE X (.ListComp elt [⟨tg, iter, ifs, 0⟩] scope pos) (fun σ H Q => tLc wi g (tt fun c d _ H => W c d σ H) (te fun c d _ H => W c d σ H) (own.map (·.2)) σ H Q) := by
  constructor
  intro pins s σ H Q I h
  rw [eval_ListComp]
  refine lcX_core tk hst hfr hc hN I hi ok hg ht he hs h fun D C t m K J q hn f => ⟨m, hn, fun k sb => ?_⟩
  obtain ⟨c0, c1, _, c3, c4, c5⟩ := f
  exact ⟨.ref D, K, J.turned (t' := t.toks) (fun b o hb e => (sb.2 b hb).trans e) c0 c1 c3 c4 c5, rfl, q⟩
end
end Dl
/-! targets of any form; comprehensions over them -/
namespace Dl
open PySem L2
/-- a target: the name in slot i, or a tuple of targets -/
inductive Tg where
  | nm (i : Nat) | tp (ts : List Tg)
mutual
def Tg.u : Tg → D → Option (List D)
  | .nm _, d => some [d]
  | .tp ts, .tup ds => Tg.us ts ds
  | .tp _, _ => none
def Tg.us : List Tg → List D → Option (List D)
  | [], [] => some []
  | t :: ts, d :: ds => (t.u d).bind fun a => (Tg.us ts ds).map fun b => a ++ b
  | _, _ => none
end
mutual
def Tg.ix : Tg → List Nat
  | .nm i => [i]
  | .tp ts => Tg.ixs ts
def Tg.ixs : List Tg → List Nat
  | [] => []
  | t :: ts => t.ix ++ Tg.ixs ts
end
mutual
def Tg.g (K : PySem.W.Frag) : Tg → TG
  | .nm i => gName i
  | .tp ts => gTup K ts.length (Tg.gs K ts)
def Tg.gs (K : PySem.W.Frag) : List Tg → TGs
  | [] => gNil
  | t :: ts => gCons (t.g K) (Tg.gs K ts)
end
mutual
theorem Tg.u_len : ∀ (t : Tg) (d : D) (ds : List D), t.u d = some ds → ds.length = t.ix.length
  | .nm i, d, ds, e => by unfold Tg.u at e; cases e; rfl
  | .tp ts, d, ds, e => by
    unfold Tg.u at e
    cases d with
    | tup es => exact Tg.us_len ts es ds e
    | _ => cases e
theorem Tg.us_len : ∀ (ts : List Tg) (es ds : List D), Tg.us ts es = some ds → ds.length = (Tg.ixs ts).length
  | [], es, ds, e => by
    cases es with
    | nil => unfold Tg.us at e; cases e; rfl
    | cons _ _ => unfold Tg.us at e; cases e
  | t :: ts, es, ds, e => by
    cases es with
    | nil => unfold Tg.us at e; cases e
    | cons d es =>
      unfold Tg.us at e
      cases q : t.u d with
      | none => rw [q] at e; cases e
      | some a =>
        cases q2 : Tg.us ts es with
        | none => rw [q, q2] at e; cases e
        | some b =>
          rw [q, q2] at e; cases e
          show (a ++ b).length = (t.ix ++ Tg.ixs ts).length
          rw [List.length_append, List.length_append, Tg.u_len t d a q, Tg.us_len ts es b q2]
end
theorem slN_app : ∀ (is js : List Nat) (ρ : List Slot) (a b : List D), a.length = is.length → slN (is ++ js) ρ (a ++ b) = slN js (slN is ρ a) b
  | [], js, ρ, [], b, _ => rfl
  | [], _, _, _ :: _, _, h => by cases h
  | _ :: _, _, _, [], _, h => by cases h
  | i :: is, js, ρ, d :: a, b, h => slN_app is js (ρ.set i (.val d)) a b (by simpa using h)
theorem us_length : ∀ (ts : List Tg) (es ds : List D), Tg.us ts es = some ds → es.length = ts.length
  | [], es, ds, e => by
    cases es with
    | nil => rfl
    | cons _ _ => unfold Tg.us at e; cases e
  | t :: ts, es, ds, e => by
    cases es with
    | nil => unfold Tg.us at e; cases e
    | cons d es =>
      unfold Tg.us at e
      cases q : t.u d with
      | none => rw [q] at e; cases e
      | some a =>
        cases q2 : Tg.us ts es with
        | none => rw [q, q2] at e; cases e
        | some b => rw [List.length_cons, List.length_cons, us_length ts es b q2]
mutual
theorem tg_ok {K : PySem.W.Frag} {mg : Str → Option Value} : ∀ t : Tg, TgD K mg (t.g K) t.u (slN t.ix) t.ix
  | .nm i => fun G0 H0 G H σ ρ S v d ds Q si r e k => by
    unfold Tg.u at e
    cases e
    unfold Tg.g
    exact k _ (si.set i r) fun vs h => wipe_set (h i List.mem_cons_self)
  | .tp ts => fun G0 H0 G H σ ρ S v d ds Q si r e k => by
    unfold Tg.u at e
    cases r with
    | tup h z t =>
      rename_i a xs es
      have e : Tg.us ts es = some ds := e
      unfold Tg.g
      exact ⟨_, _, rfl, h, t.length.trans (us_length ts es ds e), tgs_ok ts G0 H0 G H σ ρ S _ _ ds Q si t e k⟩
    | _ => cases e
theorem tgs_ok {K : PySem.W.Frag} {mg : Str → Option Value} : ∀ ts : List Tg, TgsD K mg (Tg.gs K ts) (Tg.us ts) (slN (Tg.ixs ts)) (Tg.ixs ts)
  | [] => fun G0 H0 G H σ ρ S v d ds Q si r e k => by
    cases r with
    | nil =>
      unfold Tg.us at e
      cases e
      unfold Tg.gs
      exact ⟨rfl, k _ si fun _ _ => rfl⟩
    | cons _ _ => unfold Tg.us at e; cases e
  | t :: ts => fun G0 H0 G H σ ρ S v d ds Q si r e k => by
    cases r with
    | nil => unfold Tg.us at e; cases e
    | cons r tl =>
      rename_i v0 d0 vs ds'
      unfold Tg.us at e
      cases q : t.u d0 with
      | none => rw [q] at e; cases e
      | some a =>
        cases q2 : Tg.us ts ds' with
        | none => rw [q, q2] at e; cases e
        | some b =>
          rw [q, q2] at e
          cases e
          unfold Tg.gs
          refine ⟨v0, vs, rfl, tg_ok t G0 H0 G H σ ρ S v0 d0 a _ si r q fun σ1 s1 w1 => ?_⟩
          refine tgs_ok ts G0 H0 G H σ1 _ S vs ds' b Q s1 tl q2 fun σ2 s2 w2 => k σ2 ?_ fun us hu => ?_
          · show SI K mg G0 H0 G H σ2 (slN (t.ix ++ Tg.ixs ts) ρ (a ++ b)) S
            rw [slN_app _ _ _ _ _ (Tg.u_len t d0 a q)]
            exact s2
          · exact (w2 us fun i hi => hu i (List.mem_append_right _ hi)).trans (w1 us fun i hi => hu i (List.mem_append_left _ hi))
end
/-- for of any target -/
def on4 {α : Type} (f : D → D → D → D → M α) : List D → M α
  | [a, b, c, d] => f a b c d
  | _ => M.bad
def unT {α : Type} (t : Tg) (f : List D → M α) (d : D) : M α := unM t.u f d
section
variable {X : Cx} {C L J : Type} {k : Ct C L} {ρ : List Slot} {tg iter : Expr} {body rest : List Stmt} {pos : Pos} {mi : M (List D)} {f : J → M (Fl C L)}
theorem sd_forT (t : Tg) (emb : J → List Slot) (c0 : J) {mb : J → List D → M (Fl J J)} (w : Wk ρ k.x) (w0 : Wk ρ (emb c0)) (hp : PassesOwn (model X.prog X.w) X.A X.env X.xe) (hi : ID X k.W ρ tg iter mi) (hg : PG X tg (t.g X.K))
    (hb : ∀ c ds, SD X ⟨k.W, k.x, emb, emb, k.R⟩ (slN t.ix (emb c) ds) body (mb c ds)) (hr : ∀ c, SD X k (emb c) rest (f c)) (hc : X.calm = true := by rfl) (hs : ∀ x, foldedSetIterable iter X.env x = pure x := by intro _; rfl) :
    SD X k ρ (.For tg iter body [] pos :: rest) (mi.bind fun ds => thenM (Dl.forM (fun c => unT t (mb c)) ds c0) f) := sd_for (pos := pos) emb c0 w w0 hp hi hg (tg_ok t) hb hr hc hs
end
/-! ### comprehensions that may raise -/
def mapXC (f : D → M D) : List D → M (List D)
  | [] => M.pure []
  | d :: ds => (f d).bind fun x => (mapXC f ds).bind fun r => M.pure (x :: r)
def filXC (t : D → M Bool) (f : D → M D) : List D → M (List D)
  | [] => M.pure []
  | d :: ds => (t d).bind fun b => if b = true then (f d).bind fun x => (filXC t f ds).bind fun r => M.pure (x :: r) else filXC t f ds
def mapX (mi : M (List D)) (f : D → M D) : M (List D) := mi.bind fun ds => gd (szOk ds.length) (mapXC f ds)
def filX (mi : M (List D)) (t : D → M Bool) (f : D → M D) : M (List D) := mi.bind fun ds => gd (szOk ds.length) (filXC t f ds)
theorem comp_filX {u : D → Option (List D)} {mt : List D → M Bool} {me : List D → M D} : ∀ ds : List D, compM (fun d => unM u (eltM mt me) d) ds = filXC (unM u mt) (unM u me) ds
  | [] => rfl
  | d :: ds => by
    have ih := comp_filX (u := u) (mt := mt) (me := me) ds
    funext S
    unfold compM filXC
    rw [ih]
    cases q : u d with
    | none =>
      have e1 : unM u (eltM mt me) d = M.bad := by unfold unM; rw [q]; rfl
      have e2 : unM u mt d = M.bad := by unfold unM; rw [q]; rfl
      rw [e1, e2]
      rfl
    | some us =>
      have e1 : unM u (eltM mt me) d = eltM mt me us := by unfold unM; rw [q]; rfl
      have e2 : unM u mt d = mt us := by unfold unM; rw [q]; rfl
      have e3 : unM u me d = me us := by unfold unM; rw [q]; rfl
      rw [e1, e2, e3]
      unfold eltM M.bind
      cases qt : mt us S with
      | err _ _ => simp only [qt]
      | bad => simp only [qt]
      | ok b S1 =>
        cases b with
        | false =>
          simp only [qt, M.pure, Bool.false_eq_true, if_false]
          cases filXC (unM u mt) (unM u me) ds S1 <;> rfl
        | true =>
          simp only [qt, M.pure, if_true]
          cases qm : me us S1 with
          | err _ _ => simp only [qm]
          | bad => simp only [qm]
          | ok x S2 => simp only [qm]
theorem lcX_fil {mi : M (List D)} {u : D → Option (List D)} {mt : List D → M Bool} {me : List D → M D} : lcXM mi u mt me = filX mi (unM u mt) (unM u me) := by
  unfold lcXM filX gd
  congr 1
  funext ds
  rw [comp_filX]
theorem filX_all {u : D → Option (List D)} {f : List D → M D} : ∀ ds : List D, filXC (unM u fun _ => M.pure true) (unM u f) ds = mapXC (unM u f) ds
  | [] => rfl
  | d :: ds => by
    have ih := filX_all (u := u) (f := f) ds
    funext S
    unfold filXC mapXC
    rw [ih]
    cases q : u d with
    | some us =>
      have e : unM u (fun _ => M.pure true) d = M.pure true := by unfold unM; rw [q]; rfl
      rw [e]
      rfl
    | none =>
      have e : unM u (fun _ => M.pure true) d = M.bad := by unfold unM; rw [q]; rfl
      have e' : unM u f d = M.bad := by unfold unM; rw [q]; rfl
      rw [e, e']
      rfl
theorem lcX_map {mi : M (List D)} {u : D → Option (List D)} {me : List D → M D} : lcXM mi u (fun _ => M.pure true) me = mapX mi (unM u me) := by
  rw [lcX_fil]
  unfold filX mapX
  congr 1
  funext ds
  rw [filX_all]
section
variable {X : Cx} {W : WX} {ρ : List Slot} {tg iter elt : Expr} {c : Expr} {scope : Scope} {own : List (Str × Nat)} {pos : Pos} {mi : M (List D)} {mt : List D → M Bool} {me : List D → M D}
/-- the context of the block -/
abbrev BK (X : Cx) (scope : Scope) (P : Cx → Prop) : Prop := ∀ (s : Shared) (H : Hp) (C : Addr) (cl : List (Str × Addr)) (fp : List Addr) (xe : Value → Shared → Prop), P (blkX X s H scope (compEnvC scope cl C X.env) fp xe)
/-- [elt for tg in iter] -/
theorem en_mapX (t : Tg) (tk : Takes X W) (hN : X.N.Nodup) (ok : BlkOk X.N X.env.scope scope own) (hi : ID X W ρ tg iter mi) (his : ∀ i ∈ t.ix, i ∈ own.map (·.2)) (hg : BK X scope fun Y => PG Y tg (t.g Y.K))
    (he : BK X scope fun Y => ∀ W', Takes Y W' → ∀ us, ED Y W' (slN t.ix (wipeR ρ (own.map (·.2))) us) elt (me us))
    (hst : X.stack = X.env :: X.outer := by rfl) (hfr : X.env.frame = some X.env.locals := by rfl) (hc : X.calm = true := by rfl) (hs : ∀ x, foldedSetIterable iter X.env x = pure x := by intro _; rfl) : EN X W ρ (.ListComp elt [⟨tg, iter, [], 0⟩] scope pos) (mapX mi (unT t me)) := by
  have h : EN X W ρ (.ListComp elt [⟨tg, iter, [], 0⟩] scope pos) (lcXM mi t.u (fun _ => M.pure true) me) :=
    PE.imp (pe_lcX (tt := fun W' τ H Q => ∃ us, tG X.K X.mg W' RB (slN t.ix (wipeR ρ (own.map (·.2))) us) (M.pure true) τ H Q) (te := fun W' τ H Q => ∃ us, tG X.K X.mg W' (RD X.K) (slN t.ix (wipeR ρ (own.map (·.2))) us) (me us) τ H Q) tk hN ok hi hg
      (fun s H C cl fp xe W' tk' => ⟨fun pins s' σ H' Q I ⟨us, q⟩ => (etf_nil (us := us)).run pins s' σ H' Q I q⟩) (fun s H C cl fp xe W' tk' => ⟨fun pins s' σ H' Q I ⟨us, q⟩ => (he s H C cl fp xe W' tk' us).run pins s' σ H' Q I q⟩) hst hfr hc hs) fun σ H Q h => lcX_ok his (tg_ok t) h
  rw [lcX_map] at h
  exact h
variable {i : Nat} {y : Str} {py spos : Pos}
end
end Dl
/-! constants of a module; in; isinstance with own classes -/
namespace Dl
open PySem L2
/-- a constant of a module -/
def CO (K : PySem.W.Frag) (mg : Str → Option Value) (x : Str) (d : D) : Prop := ∃ u v, mg x = some u ∧ RelV v u ∧ ∀ G H, Rep K G H v d
theorem co_tup {K : PySem.W.Frag} {mg : Str → Option Value} {x : Str} {a : Addr} {od : Option Addr} {its : Array Value} {n : Nat} {sl : Array (Option Value)} {xs : List V} {ds : List D} (hm : mg x = some (.ref a)) (hl : K.lookup a = some ⟨.type "tuple", od, .seq its n, sl⟩) (hz : its.size ≤ sizeLine) (hv : Vals xs its.toList) (hr : ∀ G H, Reps K G H xs ds) : CO K mg x (.tup ds) :=
  ⟨_, .ref a, hm, rfl, fun G H => .tup (.inr ⟨_, its, n, hl, rfl, rfl, hz, hv⟩) (by rw [hv.length]; simpa using hz) (hr G H)⟩
section
variable {X : Cx} {W : WX} {ρ : List Slot} {a b e : Expr} {ma mb : M D} {pos p p2 : Pos}
theorem ed_con {x : Str} {d : D} (c : CO X.K X.mg x d) (hg : Gl X x := by rfl) (hd : (x == ("__debug__" : Str)) = false := by decide) : ED X W ρ (.Name x p) (M.pure d) := by
  obtain ⟨u, v, hm, r, q⟩ := c
  exact PE.imp (pe_glob hg hm r hd) fun σ H Q ⟨G0, H0, G, S, si, h⟩ => okG.here h si (q G H)
end
/-! ### in -/
def D.thin : D → Bool
  | .non => true
  | .bl _ => true
  | .int _ => true
  | .str _ => true
  | _ => false
def D.same0 : D → D → Bool
  | .non, .non => true
  | .bl a, .bl b => a == b
  | .bl a, .int b => (if a then 1 else 0) == b
  | .int a, .bl b => a == (if b then 1 else 0)
  | .int a, .int b => a == b
  | .str a, .str b => a == b
  | _, _ => false
def inD (d : D) (ds : List D) : Bool := ds.any fun e => e.same0 d
def dIn (neg : Bool) (d e : D) : M D := match d, e with
  | .str x, .str y => M.pure (.bl (if neg then !(!(Builtin.Str.occurrences y x 0 y.length 1).isEmpty) else !(Builtin.Str.occurrences y x 0 y.length 1).isEmpty))
  | d, .lst ds => guard (d.thin && ds.all D.thin) (M.pure (.bl (if neg then !inD d ds else inD d ds)))
  | d, .tup ds => guard (d.thin && ds.all D.thin) (M.pure (.bl (if neg then !inD d ds else inD d ds)))
  | _, _ => M.bad
section
variable {K : PySem.W.Frag} {mg : Str → Option Value} {G : Gh} {H : Hp}
theorem thin_flat {v : V} {d : D} (r : Rep K G H v d) (h : d.thin = true) : flatV v = true := by
  cases r <;> first | rfl | cases h
theorem thin_eq {v w : V} {d e : D} (r : Rep K G H v d) (q : Rep K G H w e) (h : d.thin = true) (h' : e.thin = true) : eqV v w = d.same0 e := by
  cases r <;> cases q <;> first | rfl | cases h | cases h'
theorem thin_all : ∀ {vs : List V} {ds : List D}, Reps K G H vs ds → ds.all D.thin = true → vs.all flatV = true
  | _, _, .nil, _ => rfl
  | _, _, .cons r t, h => by
    simp only [List.all_cons, Bool.and_eq_true] at h ⊢
    exact ⟨thin_flat r h.1, thin_all t h.2⟩
theorem thin_in {v : V} {d : D} (r : Rep K G H v d) (hd : d.thin = true) : ∀ {vs : List V} {ds : List D}, Reps K G H vs ds → ds.all D.thin = true → inV v vs = inD d ds
  | _, _, .nil, _ => rfl
  | _, _, .cons q t, h => by
    simp only [List.all_cons, Bool.and_eq_true] at h
    have ih := thin_in r hd t h.2
    unfold inV inD at *
    rw [List.any_cons, List.any_cons, thin_eq q r h.1 hd, ih]
end
def rInX (K : PySem.W.Frag) (neg : Bool) : R2 := fun x y H Q => (∃ i j, x = .str i ∧ y = .str j ∧ Q (.bl (if neg then !(!(Builtin.Str.occurrences j i 0 j.length 1).isEmpty) else !(Builtin.Str.occurrences j i 0 j.length 1).isEmpty)) H) ∨ rIn K neg x y H Q
theorem opr_in {X : Cx} : OpR X (compareOp .In) (rInX X.K false) := OpR.or op_in_str op_in_seq
theorem opr_notin {X : Cx} : OpR X (compareOp .NotIn) (rInX X.K true) := OpR.or op_notin_str op_notIn_seq
theorem opd_in {K : PySem.W.Frag} {mg : Str → Option Value} {neg : Bool} : OpD K mg (rInX K neg) (dIn neg) := by
  intro W G0 H0 G H σ ρ S x y d e Q si r1 r2 h
  cases r2 with
  | str j => cases r1 <;> first | exact h.elim | exact .inl ⟨_, _, rfl, rfl, okG.here h si (.bl _)⟩
  | lst e1 z n t =>
    rename_i xs ds
    have h : okG K mg W (RD K) G0 H0 G H σ ρ Q (guard (d.thin && ds.all D.thin) (M.pure (.bl (if neg then !inD d ds else inD d ds))) S) := by cases d <;> exact h
    obtain ⟨q, h⟩ := okG.guard h
    obtain ⟨q1, q2⟩ := Bool.and_eq_true_iff.mp q
    refine .inr ⟨_, _, rfl, .inl (SqL.of e1), thin_flat r1 q1, thin_all t q2, ?_⟩
    rw [thin_in r1 q1 t q2]
    exact okG.here h si (.bl _)
  | tup e1 z t =>
    rename_i xs ds
    have h : okG K mg W (RD K) G0 H0 G H σ ρ Q (guard (d.thin && ds.all D.thin) (M.pure (.bl (if neg then !inD d ds else inD d ds))) S) := by cases d <;> exact h
    obtain ⟨q, h⟩ := okG.guard h
    obtain ⟨q1, q2⟩ := Bool.and_eq_true_iff.mp q
    refine .inr ⟨_, _, rfl, .inr e1, thin_flat r1 q1, thin_all t q2, ?_⟩
    rw [thin_in r1 q1 t q2]
    exact okG.here h si (.bl _)
  | _ => cases d <;> exact h.elim
section
variable {X : Cx} {W : WX} {ρ : List Slot} {a b e : Expr} {ma mb : M D} {pos p p2 : Pos}
theorem ed_in (ha : ED X W ρ a ma) (hb : ED X W ρ b mb) (hm : behindInMarks .In b = false := by rfl) : ED X W ρ (.Compare a [.In] [b] pos) (bin (dIn false) ma mb) := ed_cmp opr_in opd_in ha hb hm
theorem et_in (ha : ED X W ρ a ma) (hb : ED X W ρ b mb) (hm : behindInMarks .In b = false := by rfl) : ET X W ρ (.Compare a [.In] [b] pos) (tst (bin (dIn false) ma mb)) := et_cmp opr_in opd_in ha hb hm
theorem et_notin (ha : ED X W ρ a ma) (hb : ED X W ρ b mb) (hm : behindInMarks .NotIn b = false := by rfl) : ET X W ρ (.Compare a [.NotIn] [b] pos) (tst (bin (dIn true) ma mb)) := et_cmp opr_notin opd_in ha hb hm
end
/-! ### isinstance with own classes; of instances -/
/-- what is known of a class whose instances are asked: anc its own classes, itself first -/
structure InsF (K : PySem.W.Frag) (mg : Str → Option Value) (Ts : List Str) (c : Str) (anc : List Str) : Prop where
  ex : ∃ C, mg c = some (.ref C) ∧ Cls K C ∧ PySem.W.findIn K (.ref C) "__class__" = some (some (.builtin "object.__class__")) ∧ PySem.W.specialIn K (.builtin "object.__class__") "__get__" = some (some (.builtin "getset_descriptor.__get__")) ∧
    PySem.W.takesIn K (.builtin "object.__class__") = some true ∧ PySem.W.mroIn K C (.type "object") = some true ∧ (∀ t : Ty, t ≠ .non → PySem.W.kitOne K (.ref C) (.type t.nm) = some false) ∧
    ∀ T ∈ Ts, ∀ CT, mg T = some (.ref CT) → PySem.W.kitOne K (.ref C) (.ref CT) = some (anc.contains T)
def TabF (K : PySem.W.Frag) (mg : Str → Option Value) (Ts : List Str) (tab : List (Str × List Str)) : Prop := ∀ p ∈ tab, InsF K mg Ts p.1 p.2
theorem tab_nil {K : PySem.W.Frag} {mg : Str → Option Value} {Ts : List Str} : TabF K mg Ts [] := fun _ h => absurd h (by simp)
theorem tab_cons {K : PySem.W.Frag} {mg : Str → Option Value} {Ts : List Str} {c : Str} {anc : List Str} {tab : List (Str × List Str)} (h : InsF K mg Ts c anc) (t : TabF K mg Ts tab) : TabF K mg Ts ((c, anc) :: tab) := fun p hp => by
  rcases List.mem_cons.mp hp with y | y
  · rw [y]; exact h
  · exact t p y
def TgtF (K : PySem.W.Frag) (mg : Str → Option Value) (T : Str) : Prop := ∃ CT, mg T = some (.ref CT) ∧ PySem.W.isClsIn K CT = true ∧ PySem.W.typeIn K (.ref CT) = some (.type "type")
/-- isinstance(d, (ts, cs)): ts built-in types, cs own classes -/
def dIsX (tab : List (Str × List Str)) (ts : List Ty) (cs : List Str) (d : D) : M D := fun S => match insOf S d with
  | some (c, _) => match tab.lookup c with
    | some anc => .ok (.bl (cs.any anc.contains)) S
    | none => .bad
  | none => dIsi ts d S
theorem lookup_in {α : Type} {x : Str} {v : α} : ∀ {l : List (Str × α)}, l.lookup x = some v → (x, v) ∈ l
  | [], h => by cases h
  | (y, w) :: l, h => by
    rw [List.lookup_cons] at h
    cases q : x == y with
    | true =>
      rw [q] at h; cases h
      have : x = y := by simpa using q
      rw [this]; exact List.mem_cons_self
    | false => rw [q] at h; exact List.mem_cons_of_mem _ (lookup_in h)
/-- an instance's type, or a built-in's -/
theorem isX_ok {K : PySem.W.Frag} {mg : Str → Option Value} {W : WX} {G0 : Gh} {H0 : Hp} {G : Gh} {H : Hp} {σ : L2.St} {ρ : List Slot} {S : MS} {Q : VK} {Ts : List Str} {tab : List (Str × List Str)} {ts : List Ty} {cs : List Str} {x : V} {d : D} (F : TabF K mg Ts tab) (si : SI K mg G0 H0 G H σ ρ S) (r : Rep K G H x d) (h : okG K mg W (RD K) G0 H0 G H σ ρ Q (dIsX tab ts cs d S)) :
    (∃ u : Ty, TyX K H x (.type u.nm) ∧ Q (.bl (ts.any u.sub)) H) ∨
    ∃ (C : Addr) (anc : List Str), TyX K H x (.ref C) ∧ (∀ t : Ty, t ≠ .non → PySem.W.kitOne K (.ref C) (.type t.nm) = some false) ∧ (∀ T ∈ Ts, ∀ CT, mg T = some (.ref CT) → PySem.W.kitOne K (.ref C) (.ref CT) = some (anc.contains T)) ∧ Q (.bl (cs.any anc.contains)) H := by
  have base : okG K mg W (RD K) G0 H0 G H σ ρ Q (dIsi ts d S) → ∃ u : Ty, TyX K H x (.type u.nm) ∧ Q (.bl (ts.any u.sub)) H := fun h => by
    unfold dIsi at h
    cases q : d.ty? S with
    | none => rw [q] at h; exact h.elim
    | some u =>
      rw [q] at h
      exact ⟨u, tyx_of si.wf r q, okG.here h si (.bl _)⟩
  unfold dIsX at h
  cases q : insOf S d with
  | none => simp only [q] at h; exact .inl (base h)
  | some cc =>
    obtain ⟨c, fs⟩ := cc
    simp only [q] at h
    cases l : tab.lookup c with
    | none => simp only [l] at h; exact h.elim
    | some anc =>
      simp only [l] at h
      obtain ⟨C, m, cl, f1, f2, f3, f4, f5, f6⟩ := (F _ (lookup_in l)).ex
      obtain ⟨a, dx, gs, ev, ha, _⟩ := ins_of si.wf r q m
      subst ev
      exact .inr ⟨C, anc, .base (.ins ha cl f1 f2 f3 f4), f5, f6, okG.here h si (.bl _)⟩
theorem kit_own {K : PySem.W.Frag} {mg : Str → Option Value} {T : Str} {CT : Addr} (u : Ty) (h1 : PySem.W.isClsIn K CT = true) (h2 : PySem.W.typeIn K (.ref CT) = some (.type "type")) : PySem.W.kitOne K (.type u.nm) (.ref CT) = some false := by
  unfold PySem.W.kitOne PySem.W.kitCls
  have h1 : (PySem.W.clsIn K CT).isSome = true := h1
  rw [if_neg (by simp)]
  simp only [h1, h2]
  cases u <;> rfl
section
variable {X : Cx} {W : WX} {ρ : List Slot} {e : Expr} {ma : M D} {pos p p2 : Pos} {es : List Expr}
/-- isinstance(e, T), T an own class -/
theorem ed_isC {Ts : List Str} {tab : List (Str × List Str)} {T : Str} (F : TabF X.K X.mg Ts tab) (hT : TgtF X.K X.mg T) (hi : X.mg "isinstance" = none) (ha : ED X W ρ e ma) (hm : T ∈ Ts := by simp) (hg : Gl X "isinstance" := by rfl) (hgT : Gl X T := by rfl) (hd : (T == ("__debug__" : Str)) = false := by decide)
    (hs : NS1 X (.Name T p2) [] := by rfl) (he : NS1 X e [.Name T p2] := by rfl) (hpl : NS2 X pos [.Name T p2] := by rfl) :
    ED X W ρ (.Call (.Name "isinstance" p) [e, .Name T p2] [] pos) (una (dIsX tab [] [T]) ma) := by
  obtain ⟨CT, m, k1, k2⟩ := hT
  refine PE.imp (pe_callB call_isi hg hi (by decide +kernel) (pa_cons ha (pa_cons (pe_glob (v := .ref CT) hgT m rfl hd) pa_nil hs) he) (by decide) (by decide) he hpl) fun σ H Q ⟨G0, H0, G, S, si, h⟩ => ?_
  refine ⟨G0, H0, G, S, si, okG.bind h fun G1 H1 S1 x d s1 f1 r1 h1 => ?_⟩
  rcases isX_ok F s1 r1 h1 with ⟨u, tx, q⟩ | ⟨C, anc, tx, _, fo, q⟩
  · exact ⟨x, .ref CT, _, .ref CT, false, rfl, .own _, tx, kit_own (mg := X.mg) (T := T) u k1 k2, q⟩
  · refine ⟨x, .ref CT, _, .ref CT, anc.contains T, rfl, .own _, tx, fo T hm CT m, ?_⟩
    simpa using q
/-- isinstance(e, t), t a built-in type; e may be an instance -/
theorem ed_isiX {Ts : List Str} {tab : List (Str × List Str)} {T : Str} {t : Ty} (F : TabF X.K X.mg Ts tab) (hT : TN X T t) (hi : X.mg "isinstance" = none) (ha : ED X W ρ e ma) (hg : Gl X "isinstance" := by rfl)
    (hs : NS1 X (.Name T p2) [] := by rfl) (he : NS1 X e [.Name T p2] := by rfl) (hpl : NS2 X pos [.Name T p2] := by rfl) :
    ED X W ρ (.Call (.Name "isinstance" p) [e, .Name T p2] [] pos) (una (dIsX tab [t] []) ma) := by
  obtain ⟨h1, h2, h3, h4, h5, h6⟩ := hT
  refine PE.imp (pe_callB call_isi hg hi (by decide +kernel) (pa_cons ha (pa_cons (pe_bltn (v := .ty t.nm) h3 h1 h2 rfl h4 h5) pa_nil hs) he) (by decide) (by decide) he hpl) fun σ H Q ⟨G0, H0, G, S, si, h⟩ => ?_
  refine ⟨G0, H0, G, S, si, okG.bind h fun G1 H1 S1 x d s1 f1 r1 h1 => ?_⟩
  rcases isX_ok F s1 r1 h1 with ⟨u, tx, q⟩ | ⟨C, anc, tx, fb, _, q⟩
  · exact ⟨x, .ty t.nm, _, .type t.nm, u.sub t, rfl, .ty _, tx, kit_ty (kit_nm u t h6), by simpa using q⟩
  · exact ⟨x, .ty t.nm, _, .type t.nm, false, rfl, .ty _, tx, fb t h6, q⟩
theorem kitAny_no {K : PySem.W.Frag} {C : Addr} (f : ∀ t : Ty, t ≠ .non → PySem.W.kitOne K (.ref C) (.type t.nm) = some false) : ∀ ts : List Ty, (∀ b ∈ ts, b ≠ .non) → PySem.W.kitAny K (.ref C) (ts.map fun b => .type b.nm) = some false
  | [], _ => rfl
  | b :: ts, h => kitAny_cons (f b (h b List.mem_cons_self)) (fun _ => kitAny_no f ts fun c hc => h c (List.mem_cons_of_mem _ hc)) (fun q => nomatch q)
/-- isinstance(e, (t1, t2, ..)); e may be an instance -/
theorem ed_isiTX {Ts : List Str} {tab : List (Str × List Str)} {ts : List Ty} {kk : Nat} {p3 : Pos} (F : TabF X.K X.mg Ts tab) (hT : TNs X es ts) (hi : X.mg "isinstance" = none) (ha : ED X W ρ e ma) (hg : Gl X "isinstance" := by rfl) (hz : szOk ts.length = true := by rfl)
    (hs : NS1 X (.Tuple es kk p3) [] := by rfl) (he : NS1 X e [.Tuple es kk p3] := by rfl) (hpl : NS2 X pos [.Tuple es kk p3] := by rfl) :
    ED X W ρ (.Call (.Name "isinstance" p) [e, .Tuple es kk p3] [] pos) (una (dIsX tab ts []) ma) := by
  refine PE.imp (pe_callB call_isiT hg hi (by decide +kernel) (pa_cons ha (pa_cons (pe_tup hT.pa) pa_nil hs) he) (by decide) (by decide) he hpl) fun σ H Q ⟨G0, H0, G, S, si, h⟩ => ?_
  refine ⟨G0, H0, G, S, si, okG.bind h fun G1 H1 S1 x d s1 f1 r1 h1 => ⟨by rw [List.length_map]; exact sz_of hz, fun pp hp => ?_⟩⟩
  have fr : FR G1 H1 G1 (upd H1 pp (.tup (ts.map fun t => V.ty t.nm))) := .alloc hp
  have s2 := s1.alloc (o := .tup (ts.map fun t => V.ty t.nm)) hp
  rcases isX_ok F s2 (r1.mono fr) (okG.from h1 fr) with ⟨u, tx, q⟩ | ⟨C, anc, tx, fb, _, q⟩
  · exact ⟨x, pp, _, .type u.nm, _, _, rfl, upd_same, paired_ty ts, tx, kitAny_of u ts hT.no, q⟩
  · exact ⟨x, pp, _, .ref C, _, _, rfl, upd_same, paired_ty ts, tx, kitAny_no fb ts hT.no, q⟩
end
end Dl
/-! properties -/
namespace Dl
open PySem L2
/-- it is an instance of the class c -/
def isIns (c : Str) (d : D) : M Unit := fun S => match insOf S d with
  | some (c', _) => if c' = c then .ok () S else .bad
  | none => .bad
/-- e.f, a property whose getter raises nothing -/
def propM (cn : Str) (g : List D → M D) (mo : M D) : M D := mo.bind fun o => (isIns cn o).bind fun _ => calmM (g [o])
section
variable {P : Program} {w : World} {K : PySem.W.Frag} {base : Heap} {mg : Str → Option Value}
def PRI (P : Program) (w : World) (K : PySem.W.Frag) (mg : Str → Option Value) (base : Heap) (c f sn : Str) (k : Nat) (g : List D → M D) : Prop :=
  ∃ C p gA fd, CI K mg c C ∧ PropOf K C f p gA ∧ Binds K fd [sn] [] ∧ FnOk P w K mg base (L2.CX P w) k gA fd [sn] (spD K mg 1 g)
end
section
variable {X : Cx} {W : WX} {ρ : List Slot} {e : Expr} {mo : M D} {pos : Pos}
theorem isIns_ok {K : PySem.W.Frag} {mg : Str → Option Value} {α β : Type} {R : Gh → Hp → β → α → Prop} {G0 G : Gh} {H0 H : Hp} {σ : L2.St} {S : MS} {Q : β → Hp → Prop} {cn : Str} {CA : Addr} {v : V} {d : D} {f : Unit → M α} (si : SI K mg G0 H0 G H σ ρ S) (r : Rep K G H v d) (T : mg cn = some (.ref CA))
    (h : okG K mg W R G0 H0 G H σ ρ Q ((isIns cn d).bind f S)) : (∃ a dx gs, v = .ref a ∧ H a = some (.ins CA dx gs)) ∧ okG K mg W R G0 H0 G H σ ρ Q (f () S) := by
  unfold isIns M.bind at h
  cases q : insOf S d with
  | none => simp only [q] at h; exact h.elim
  | some cc =>
    obtain ⟨c', fs⟩ := cc
    simp only [q] at h
    by_cases ec : c' = cn
    · subst ec
      simp only [if_true] at h
      obtain ⟨a, dx, gs, ev, ha, t⟩ := ins_of si.wf r q T
      exact ⟨⟨a, dx, gs, ev, ha⟩, h⟩
    · rw [if_neg ec] at h; exact h.elim
theorem ed_prop {cn f sn : Str} {k : Nat} {g : List D → M D} (F : PRI X.prog X.w X.K X.mg X.base cn f sn k g) (hr : Room (k + 1) X.A) (ho : ED X W ρ e mo) (hab : attributeBase e f X.env (eval e X.env) = eval e X.env := by rfl) :
    ED X W ρ (.Attribute e f pos) (propM cn g mo) := by
  obtain ⟨C, p, gA, fd, T, hp, hb, F⟩ := F
  refine PE.imp (pe_prop (E := fun _ _ _ => False) ho T.cl hp F hr hb .nil (fun _ _ _ _ _ _ _ ⟨_, _, _, _, _, _, _, _, _, _, _, _, z⟩ => z.elim) hab) fun σ H Q ⟨G0, H0, G, S, si, h⟩ => ?_
  refine ⟨G0, H0, G, S, si, okG.bind h fun G1 H1 S1 x d s1 f1 r1 h1 => ?_⟩
  obtain ⟨⟨a, dx, gs, ev, ha⟩, h1⟩ := isIns_ok s1 r1 T.mg h1
  subst ev
  exact ⟨a, dx, gs, rfl, ha, G1, S1, [d], rfl, .cons r1 .nil, s1.wf, okF_of (W := W0) (okG_calm h1) s1⟩
end
end Dl
/-! calls with keywords -/
namespace Dl
open PySem L2
def tCallKV (n m : Nat) (sp : Sp) (gV : List V → List V → List V) (E : L2.St → XK) (t tk : TA) : TE := fun σ H Q => t σ H fun vs H1 => tk σ H1 fun zs H2 => vs.length = n ∧ zs.length = m ∧ sp (gV vs zs) H2 Q (E σ)
section
variable {X : Cx} {W : WX} {ρ : List Slot} {e : Expr} {es : List Expr} {kws : List Keyword} {ms kms : List (M D)} {m : M D} {pos p : Pos}
abbrev KS1 (X : Cx) (pos : Pos) (kws : List Keyword) : Prop := (backToKw pos (keywordEach kws X.env)).all (·.1.isSome) = true
abbrev KS2 (X : Cx) (pos : Pos) (kws : List Keyword) (ks : List Str) : Prop := (backToKw pos (keywordEach kws X.env)).filterMap (·.1) = ks
abbrev KS3 (X : Cx) (pos : Pos) (es : List Expr) (kws : List Keyword) : Prop := ((backTo pos (starEach es X.env)).any (·.1) || (backToKw pos (keywordEach kws X.env)).any (·.1.isNone)) = false
theorem pe_callKV {CX : CXT} {k n : Nat} {f : Addr} {fd : FuncData} {ps ks : List Str} {sp : Sp} {E : L2.St → XK} {x : Str} {t tk : TA} {g : List Value → List Value → List Value} {gV : List V → List V → List V} (F : FnOk X.prog X.w X.K X.mg X.base CX k f fd ps sp) (hr : Room k X.A) (hg : Gl X x) (hm : X.mg x = some (.ref f)) (hk : PySem.W.keepIn X.K (.ref f) = true) (hb : KBn X.K fd ps n ks g gV)
    (hx : ∀ σ, PassesAt CX X σ (E σ)) (ha : PA X (e :: es) t) (hkw : PK X kws tk) (k1 : KS1 X pos kws) (k2 : KS2 X pos kws ks) (hdb : (x == ("__debug__" : Str)) = false) (he : NS1 X e es) (k3 : KS3 X pos (e :: es) kws) :
    PE X (.Call (.Name x p) (e :: es) kws pos) (tCallKV n ks.length sp gV E t tk) := by
  constructor
  intro pins s σ H Q I h
  refine wpAny_Call_Name_kw (ld_glob I hg hm (PySem.W.callWith_KW (h₀ := X.base) I.ok.mod.kin hk k1 (wpAny_mono (ha.run pos pins s σ H _ I h) ?_ fun _ _ z => z) k3 he) hdb)
  rintro us t1 ⟨vs, H1, J1, rv, w1⟩
  refine wpAny_mono (hkw.run pos pins t1 σ H1 _ J1 w1) ?_ fun _ _ z => z
  rintro ws t2 ⟨zs, H2, J2, rz, l1, l2, w2⟩
  refine ⟨J2.kIn, ?_⟩
  rw [k2]
  have bd := hb.to t2 us ws J2.kIn (by rw [← rv.length]; exact l1) (by rw [← rz.length]; exact l2)
  refine wpAny_call (codeAny_mono (F.run X.A X.stack t2 H2 ⟨us, ks.zip ws⟩ (g us ws) (gV vs zs) Q (E σ) hr J2.env0 bd (hb.rel rv rz) w2) ?_)
  rintro (z | fl) t3 post
  · exact hx σ pins H2 t2 z t3 J2 post
  · cases fl with
    | ret u => exact J2.after post
    | _ => exact post.elim
/-- keyword arguments -/
def EK (X : Cx) (W : WX) (ρ : List Slot) (kws : List Keyword) (m : M (List D)) : Prop := PK X kws (tG X.K X.mg W (RDs X.K) ρ m)
theorem ek_nil : EK X W ρ [] (argsM []) := ⟨fun pos pins s σ H Q I ⟨G0, H0, G, S, si, h⟩ => pk_nil.run pos pins s σ H Q I (okG.here h si .nil)⟩
theorem ek_cons {nm : Option Str} {kpos : Pos} (ha : ED X W ρ e m) (hr : EK X W ρ kws (argsM ms)) : EK X W ρ (⟨nm, e, kpos⟩ :: kws) (argsM (m :: ms)) :=
  ⟨fun pos pins s σ H Q I ⟨G0, H0, G, S, si, h⟩ => (pk_cons ha hr).run pos pins s σ H Q I ⟨G0, H0, G, S, si, okG.bind h fun G1 H1 S1 x d s1 f1 r1 h1 => ⟨G0, H0, G1, S1, s1, okG.bind h1 fun G2 H2 S2 xs ds s2 f2 r2 h2 => okG.here h2 s2 (.cons (r1.mono f2) r2)⟩⟩⟩
/-- f(.., k = v): perm puts what is passed, and the defaults, in the order of the parameters -/
def kcallM (g : List D → M D) (perm : List D → List D → List D) (ms kms : List (M D)) : M D := (argsM ms).bind fun ds => (argsM kms).bind fun zs => g (perm ds zs)
def FKI (P : Program) (w : World) (K : PySem.W.Frag) (mg : Str → Option Value) (base : Heap) (x : Str) (ps : List Str) (k : Nat) (g : List D → M D) (n : Nat) (ks : List Str) (perm : List D → List D → List D) : Prop :=
  ∃ f fd gA gV, mg x = some (.ref f) ∧ PySem.W.keepIn K (.ref f) = true ∧ FnOk P w K mg base (L2.CX P w) k f fd ps (spD K mg ps.length g) ∧ KBn K fd ps n ks gA gV ∧
    ∀ G H vs ds zs es, Reps K G H vs ds → Reps K G H zs es → ds.length = n → es.length = ks.length → (perm ds es).length = ps.length ∧ Reps K G H (gV vs zs) (perm ds es)
theorem ed_callK {x : Str} {ps ks : List Str} {k n : Nat} {g : List D → M D} {perm : List D → List D → List D} (F : FKI X.prog X.w X.K X.mg X.base x ps k g n ks perm) (tk : Takes X W) (hr : Room k X.A) (ha : EA X W ρ (e :: es) (argsM ms)) (hkw : EK X W ρ kws (argsM kms))
    (hn : ms.length = n := by rfl) (hks : kms.length = ks.length := by rfl) (hg : Gl X x := by rfl) (k1 : KS1 X pos kws := by rfl) (k2 : KS2 X pos kws ks := by rfl) (hdb : (x == ("__debug__" : Str)) = false := by decide) (he : NS1 X e es := by rfl) (k3 : KS3 X pos (e :: es) kws := by rfl) :
    ED X W ρ (.Call (.Name x p) (e :: es) kws pos) (kcallM g perm ms kms) := by
  obtain ⟨f, fd, gA, gV, hm, hk, F, hb, hp⟩ := F
  refine PE.imp (pe_callKV F hr hg hm hk hb (fun σ => passAt tk σ) ha hkw k1 k2 hdb he k3) fun σ H Q ⟨G0, H0, G, S, si, h⟩ => ⟨G0, H0, G, S, si, ?_⟩
  unfold kcallM M.bind at h
  cases q1 : argsM ms S with
  | err _ _ => rw [q1] at h; exact h
  | bad => rw [q1] at h; exact h
  | ok ds S1 =>
    rw [q1] at h
    intro vs G1 H1 s1 f1 r1
    refine ⟨G0, H0, G1, S1, s1, ?_⟩
    have h := okG.from h f1
    cases q2 : argsM kms S1 with
    | err _ _ => simp only [q2] at h; exact h
    | bad => simp only [q2] at h; exact h
    | ok zs S2 =>
      simp only [q2] at h
      intro ws G2 H2 s2 f2 r2
      have l1 : ds.length = n := (args_len q1).trans hn
      have l2 : zs.length = ks.length := (args_len q2).trans hks
      obtain ⟨pl, pr⟩ := hp G2 H2 vs ds ws zs (r1.mono f2) r2 l1 l2
      exact ⟨by rw [r1.length]; exact l1, by rw [r2.length]; exact l2, G2, S2, perm ds zs, pl, pr, s2.wf, okF_of (okG.from h f2) s2⟩
end
/-! ### a def with keyword-only parameters -/
section
variable {P : Program} {w : World} {K : PySem.W.Frag} {base : Heap} {mg : Str → Option Value}
theorem fn_of_DD {x qual : Str} {st : Stmt} {dvs : List V} {kws : List (Str × V)} {f : Addr} {fd : FuncData} {N ps : List Str} {k : Nat} {g : List D → M D} (F : FunD K x qual (defArgs st) (defBody st) (defScope st) dvs kws f fd) (S : FnScope N ps (defScope st))
    (hb : ∀ (ds : List D), ds.length = ps.length → ∀ (cdv : Value) (A : Around) (outer : List Env) (s : Shared) (H : Hp) (E : XK), Room k (A.deeper (PyProof.Rows.envOfC qual (defScope st) s.heap.objs.size f cdv)) →
      Takes (cxOf (L2.CX P w) P w K mg base N qual (defScope st) f cdv A outer s H E) (fun cls d _ H => E cls d H) → PassesOwn (model P w) (A.deeper (PyProof.Rows.envOfC qual (defScope st) s.heap.objs.size f cdv)) (PyProof.Rows.envOfC qual (defScope st) s.heap.objs.size f cdv) (cxOf (L2.CX P w) P w K mg base N qual (defScope st) f cdv A outer s H E).xe →
      ∃ m : M (Fl Unit Empty), g ds = finM m ∧ SD (cxOf (L2.CX P w) P w K mg base N qual (defScope st) f cdv A outer s H E) (Ct.fn K N.length E) (args N.length ds) (defBody st) m) :
    FnOk P w K mg base (L2.CX P w) (k + 1) f fd ps (spD K mg ps.length g) := by
  refine F.ok S (fun vs H Q E h => spD_len h) (fun cdv A outer s H vs Q E hr h => ?_)
  obtain ⟨G, T, ds, hl, r, wf, h⟩ := h
  obtain ⟨m, e, hm⟩ := hb ds hl cdv A outer s H E hr (takes_of rfl rfl rfl rfl) (passes_of rfl)
  refine ⟨_, hm, G, H, G, T, si_start wf r, ?_⟩
  rw [e] at h
  unfold finM M.bind at h
  cases q : m T with
  | ok z S1 =>
    rw [q] at h
    cases z with
    | nx c => exact fun σ G' H' s' _ => h .non G' H' s'.fr s'.wf .non
    | ret d => exact fun v G' H' fr wf r => h v G' H' fr wf r
    | brk l => exact l.elim
    | cnt l => exact l.elim
  | err x S1 =>
    rw [q] at h
    exact fun cls da σ G' H' s' _ r => h cls da G' H' s'.fr s'.wf r
  | bad => rw [q] at h; exact h
end
end Dl
/-! dicts at pointers -/
namespace Dl
open PySem L2
def keyOf : D → Option Key
  | .int i => some (.inl i)
  | .str x => some (.inr x)
  | _ => none
def valD (kvs : List (Key × D)) (k : Key) : Option D := (kvs.find? fun kv => decide (kv.1 = k)).map (·.2)
def dicAt (S : MS) (d : D) : Option (List (Key × D)) := match d with
  | .ptr k => match S.cells[k]? with
    | some (.dic kvs) => some kvs
    | _ => none
  | .dic ks ds => some (ks.zip ds)
  | _ => none
/-- d[i] of a dict, the key there -/
def dGetK (d i : D) : M D := fun S => match dicAt S d, keyOf i with
  | some kvs, some key => match valD kvs key with
    | some v => .ok v S
    | none => .bad
  | _, _ => .bad
/-- i in d, d a dict -/
def dInK (neg : Bool) (i d : D) : M D := fun S => match dicAt S d, keyOf i with
  | some kvs, some key => .ok (.bl (if neg then !(valD kvs key).isSome else (valD kvs key).isSome)) S
  | _, _ => .bad
section
variable {K : PySem.W.Frag} {mg : Str → Option Value} {G : Gh} {H : Hp}
theorem key_of {v : V} {d : D} {k : Key} (r : Rep K G H v d) (h : keyOf d = some k) : v = kV k := by
  cases r <;> cases h <;> rfl
theorem KReps.val {k : Key} : ∀ {ks : List (Key × V)} {kvs : List (Key × D)}, KReps K G H ks kvs → (∀ v, valV ks k = some v → ∃ d, valD kvs k = some d ∧ Rep K G H v d) ∧ (valV ks k = none → valD kvs k = none)
  | _, _, .nil => And.intro (fun _ h => by simp [valV] at h) (fun _ => rfl)
  | _, _, .cons (k := k0) r t => by
    obtain ⟨h1, h2⟩ := KReps.val (k := k) t
    by_cases e : k0 = k
    · refine ⟨fun v h => ?_, fun h => ?_⟩
      · rw [valV_pos e] at h; cases h
        exact ⟨_, by simp [valD, List.find?_cons, e], r⟩
      · rw [valV_pos e] at h; cases h
    · refine ⟨fun v h => ?_, fun h => ?_⟩
      · rw [valV_neg e] at h
        obtain ⟨d, q, rd⟩ := h1 v h
        exact ⟨d, by unfold valD at *; rw [List.find?_cons]; simp only [e, decide_false]; exact q, rd⟩
      · rw [valV_neg e] at h
        have q := h2 h
        unfold valD at *; rw [List.find?_cons]; simp only [e, decide_false]; exact q
theorem KReps.zip : ∀ {gs : List (Key × V)} {ns : List Key} {ds : List D}, gs.map Prod.fst = ns → Reps K G H (gs.map Prod.snd) ds → KReps K G H gs (ns.zip ds)
  | [], _, _, e, r => by subst e; cases r; exact .nil
  | (k, v) :: gs, _, _, e, r => by
    subst e
    cases r with
    | cons r t => exact .cons r (KReps.zip rfl t)
theorem dic_of {S : MS} {v : V} {d : D} {kvs : List (Key × D)} (w : Wf K mg G H S) (r : Rep K G H v d) (h : dicAt S d = some kvs) : ∃ a ks, v = .ref a ∧ H a = some (.dK ks) ∧ ks.length ≤ sizeLine ∧ KReps K G H ks kvs := by
  unfold dicAt at h
  cases r with
  | ptr q =>
    rename_i a k
    cases e : S.cells[k]? with
    | none => simp only [e] at h; cases h
    | some c =>
      cases c with
      | dic l =>
        simp only [e] at h; cases h
        obtain ⟨ks, h1, h2, h3⟩ := w.cell k _ _ e q
        exact ⟨a, ks, rfl, h1, h2, h3⟩
      | lst _ => simp only [e] at h; cases h
      | ins _ _ => simp only [e] at h; cases h
      | out => simp only [e] at h; cases h
  | dic h1 z n e t =>
    cases h
    exact ⟨_, _, rfl, h1, z, KReps.zip e t⟩
  | _ => cases h
end
section
variable {X : Cx} {W : WX} {ρ : List Slot} {o i : Expr} {mo mi : M D} {pos : Pos} {k : Nat}
theorem ed_dget (hr : Room k X.A) (ho : ED X W ρ o mo) (hi : ED X W ρ i mi) (hs : NoSl i) : ED X W ρ (.Subscript o i pos) (bin dGetK mo mi) :=
  PE.imp (pe_dget (by have := hr.units; omega) ho hi hs) fun σ H Q ⟨G0, H0, G, S, si, h⟩ => ⟨G0, H0, G, S, si, okG.bind h fun G1 H1 S1 x d s1 f1 r1 h1 => ⟨G0, H0, G1, S1, s1, okG.bind h1 fun G2 H2 S2 y e s2 f2 r2 h2 => by
    unfold dGetK at h2
    cases q1 : dicAt S2 d with
    | none => simp only [q1] at h2; exact h2.elim
    | some kvs =>
      cases q2 : keyOf e with
      | none => simp only [q1, q2] at h2; exact h2.elim
      | some key =>
        simp only [q1, q2] at h2
        obtain ⟨a, ks, ev, hH, hz, t⟩ := dic_of s2.wf (r1.mono f2) q1
        have ey := key_of r2 q2
        subst ey
        cases q3 : valV ks key with
        | none => rw [(t.val (k := key)).2 q3] at h2; exact h2.elim
        | some v =>
          obtain ⟨dv, q4, rv⟩ := (t.val (k := key)).1 v q3
          rw [q4] at h2
          exact ⟨a, v, ev, q3 ▸ DGet.k hH, okG.here h2 s2 rv⟩⟩⟩
theorem dinK_ok {σ : L2.St} {G0 G2 : Gh} {H0 H2 : Hp} {S2 : MS} {Q : VK} {x y : V} {d e : D} {neg : Bool} (s2 : SI X.K X.mg G0 H0 G2 H2 σ ρ S2) (r1 : Rep X.K G2 H2 y e) (r2 : Rep X.K G2 H2 x d) (h2 : okG X.K X.mg W (RD X.K) G0 H0 G2 H2 σ ρ Q (dInK neg e d S2)) :
    ∃ a w, x = .ref a ∧ DGet H2 a y w ∧ Q (.bl (if neg then !w.isSome else w.isSome)) H2 := by
  unfold dInK at h2
  cases q1 : dicAt S2 d with
  | none => simp only [q1] at h2; exact h2.elim
  | some kvs =>
    cases q2 : keyOf e with
    | none => simp only [q1, q2] at h2; exact h2.elim
    | some key =>
      simp only [q1, q2] at h2
      obtain ⟨a, ks, ev, hH, hz, t⟩ := dic_of s2.wf r2 q1
      have ey := key_of r1 q2
      subst ey
      have es : (valV ks key).isSome = (valD kvs key).isSome := by
        cases q3 : valV ks key with
        | none => rw [(t.val (k := key)).2 q3]; rfl
        | some v =>
          obtain ⟨dv, q4, rv⟩ := (t.val (k := key)).1 v q3
          rw [q4]; rfl
      refine ⟨a, _, ev, DGet.k hH, ?_⟩
      rw [es]
      exact okG.here h2 s2 (.bl _)
end
end Dl
/-! dicts: new ones, and what is put into them -/
namespace Dl
open PySem L2
end Dl
/-! d[k] = v -/
namespace Dl
open PySem L2
def putKD (kvs : List (Key × D)) (k : Key) (v : D) : List (Key × D) := if (kvs.any fun kv => decide (kv.1 = k)) = true then kvs.map (fun kv => if kv.1 = k then (kv.1, v) else kv) else kvs ++ [(k, v)]
def setK (o i v : D) : M Unit := fun S => match o with
  | .ptr k => match S.cells[k]?, keyOf i with
    | some (.dic kvs), some key => if szLt kvs.length = true then .ok () (S.put k (.dic (putKD kvs key v))) else .bad
    | _, _ => .bad
  | _ => .bad
section
variable {K : PySem.W.Frag} {mg : Str → Option Value} {G : Gh} {H : Hp}
theorem KReps.len : ∀ {ks : List (Key × V)} {kvs : List (Key × D)}, KReps K G H ks kvs → ks.length = kvs.length
  | _, _, .nil => rfl
  | _, _, .cons _ t => by rw [List.length_cons, List.length_cons, KReps.len t]
theorem KReps.any {k : Key} : ∀ {ks : List (Key × V)} {kvs : List (Key × D)}, KReps K G H ks kvs → (ks.any fun kv => decide (kv.1 = k)) = (kvs.any fun kv => decide (kv.1 = k))
  | _, _, .nil => rfl
  | _, _, .cons _ t => by rw [List.any_cons, List.any_cons, KReps.any t]
theorem KReps.app {k : Key} {v : V} {d : D} (r : Rep K G H v d) : ∀ {ks : List (Key × V)} {kvs : List (Key × D)}, KReps K G H ks kvs → KReps K G H (ks ++ [(k, v)]) (kvs ++ [(k, d)])
  | _, _, .nil => .cons r .nil
  | _, _, .cons q t => .cons q (KReps.app r t)
theorem KReps.map {k : Key} {v : V} {d : D} (r : Rep K G H v d) : ∀ {ks : List (Key × V)} {kvs : List (Key × D)}, KReps K G H ks kvs → KReps K G H (ks.map fun kv => if kv.1 = k then (kv.1, v) else kv) (kvs.map fun kv => if kv.1 = k then (kv.1, d) else kv)
  | _, _, .nil => .nil
  | _, _, .cons (k := k0) q t => by
    rw [List.map_cons, List.map_cons]
    by_cases e : k0 = k
    · simp only [e, if_true]; exact .cons r (KReps.map r t)
    · simp only [e, if_false]; exact .cons q (KReps.map r t)
theorem KReps.put {k : Key} {v : V} {d : D} {ks : List (Key × V)} {kvs : List (Key × D)} (r : Rep K G H v d) (t : KReps K G H ks kvs) : KReps K G H (putK ks k v) (putKD kvs k d) := by
  unfold putK putKD
  rw [t.any]
  split
  · exact t.map r
  · exact t.app r
end
section
variable {X : Cx} {C L : Type} {k : Ct C L} {ρ : List Slot} {o i value : Expr} {mo mi mv : M D} {pos p : Pos} {rest : List Stmt}
theorem sd_dput {mr : M (Fl C L)} {n : Nat} (w : Wk ρ k.x) (hu : Room n X.A) (hv : ED X k.W ρ value mv) (ho : ED X k.W ρ o mo) (hi : ED X k.W ρ i mi) (hr : SD X k ρ rest mr) (hs : swapsWith value (some (.Subscript o i p)) pos.line X.env = pure false := by rfl) :
    SD X k ρ (.Assign [.Subscript o i p] value pos :: rest) (mv.bind fun v => mo.bind fun o => mi.bind fun i => (setK o i v).bind fun _ => mr) := by
  refine PSs.imp (pss_cons (ps_dput (by have := hu.units; omega) ho hi hv hs) hr) fun D σ H ⟨G0, H0, G, S, si, h⟩ => ?_
  refine ⟨G0, H0, G, S, si, okS.bind h w fun G1 H1 S1 v d s1 r1 h1 => ⟨G0, H0, G1, S1, s1, ?_⟩⟩
  refine okS.bind2 h1 w fun G2 H2 S2 ov od s2 f2 r2 h2 => ⟨G0, H0, G2, S2, s2, okS.bind2 h2 w fun G3 H3 S3 iv id s3 f3 r3 h3 => ?_⟩
  have rv := r1.mono (f2.trans f3)
  have ro := r2.mono f3
  unfold setK M.bind at h3
  cases ro with
  | ptr q =>
    rename_i a kk
    cases qc : S3.cells[kk]? with
    | none => simp only [qc] at h3; exact h3.elim
    | some c =>
      cases c with
      | dic kvs =>
        cases qk : keyOf id with
        | none => simp only [qc, qk] at h3; exact h3.elim
        | some key =>
          simp only [qc, qk] at h3
          by_cases z : szLt kvs.length = true
          · rw [if_pos z] at h3
            obtain ⟨ks, hH, hz, t⟩ := s3.wf.cell kk _ a qc q
            have hl : ks.length < sizeLine := by rw [t.len]; exact of_decide_eq_true z
            have ei := key_of r3 qk
            subst ei
            have lr : LR G3 H3 G3 (upd H3 a (.dK (putK ks key v))) := .put hH (fun z => z) (.inl (.inl ⟨List.mem_of_getElem? q, s3.wf.nz _ _ _ qc q (by intro h; cases h)⟩))
            refine ⟨a, _, rfl, DPut.k hH hl, G0, H0, G3, S3.put kk (.dic (putKD kvs key d)), s3.putC q hH (fun z => z) (s3.wf.nz _ _ _ qc q (by intro h; cases h)) ⟨_, upd_same, ?_, (t.put rv).lr lr⟩, okS.from h3 lr⟩
            have := length_putK ks key v
            omega
          · rw [if_neg z] at h3; exact h3.elim
      | lst _ => simp only [qc] at h3; exact h3.elim
      | ins _ _ => simp only [qc] at h3; exact h3.elim
      | out => simp only [qc] at h3; exact h3.elim
  | _ => exact h3.elim
end
end Dl
/-! what stands at a pointer becomes a value: from here on it never changes -/
namespace Dl
open PySem L2
def frzP (d : D) : M D := fun S => match d with
  | .ptr k => match S.cells[k]? with
    | some (.ins c fs) => .ok (.obj k c (fs.map Prod.fst) (fs.map Prod.snd)) (S.put k .out)
    | some (.dic kvs) => .ok (.dic (kvs.map Prod.fst) (kvs.map Prod.snd)) (S.put k .out)
    | some (.lst ds) => .ok (.lst ds) (S.put k .out)
    | _ => .bad
  | _ => .bad
section
variable {K : PySem.W.Frag} {mg : Str → Option Value} {G : Gh} {H : Hp} {S : MS}
theorem FReps.fst : ∀ {gs : List (Str × V)} {fs : List (Str × D)}, FReps K G H gs fs → gs.map Prod.fst = fs.map Prod.fst ∧ Reps K G H (gs.map Prod.snd) (fs.map Prod.snd)
  | _, _, .nil => ⟨rfl, .nil⟩
  | _, _, .cons r t => by
    obtain ⟨h1, h2⟩ := FReps.fst t
    exact ⟨by simp only [List.map_cons, h1], .cons r h2⟩
theorem KReps.fst : ∀ {gs : List (Key × V)} {fs : List (Key × D)}, KReps K G H gs fs → gs.map Prod.fst = fs.map Prod.fst ∧ Reps K G H (gs.map Prod.snd) (fs.map Prod.snd)
  | _, _, .nil => ⟨rfl, .nil⟩
  | _, _, .cons r t => by
    obtain ⟨h1, h2⟩ := KReps.fst t
    exact ⟨by simp only [List.map_cons, h1], .cons r h2⟩
/-- the ghost behind it -/
def Gh.frz (G : Gh) (a : Addr) : Gh := { G with Z := fun b => b = a ∨ G.Z b }
theorem FR.frz {a : Addr} : FR G H (G.frz a) H :=
  ⟨List.prefix_rfl, rfl, rfl, rfl, fun _ _ h _ => h, fun b h => .inl (h.elim (fun y => .inl ⟨y.1, fun z => y.2 (.inr z)⟩) .inr), fun b h => .inl h, fun _ h => h, fun b o h => ⟨o, h⟩⟩
theorem Wf.frz {a : Addr} {k : Nat} (w : Wf K mg G H S) (hk : G.φ[k]? = some a) : Wf K mg (G.frz a) H (S.put k .out) := by
  have hkl : k < S.cells.length := by rw [← w.len]; exact (List.getElem?_eq_some_iff.mp hk).1
  have fr : FR G H (G.frz a) H := .frz
  have ne : ∀ {i : Nat} {b : Addr}, k ≠ i → G.φ[i]? = some b → b ≠ a := fun {i b} n h2 z => n (by
    subst z
    have e1 := List.getElem?_eq_some_iff.mp hk
    have e2 := List.getElem?_eq_some_iff.mp h2
    exact (List.getElem_inj w.nd).mp (e1.2.trans e2.2.symm))
  refine ⟨?_, w.nd, fun i c b h1 h2 => ?_, fun b h => ?_, w.ha, w.hb, w.sab, w.na, w.nb, w.zs, w.hmg, fun i c b h1 h2 hn => ?_, fun b h => ?_, fun b h => ?_⟩
  · show _ = (S.cells.set k .out).length
    rw [List.length_set]; exact w.len
  · have h1 : (S.cells.set k .out)[i]? = some c := h1
    by_cases e : k = i
    · subst e
      rw [List.getElem?_set_self hkl] at h1
      cases h1
      trivial
    · rw [List.getElem?_set_ne e] at h1
      have q := w.cell i c b h1 h2
      cases c with
      | lst ds => obtain ⟨xs, e, z, t⟩ := q; exact ⟨xs, e, z, t.mono fr⟩
      | dic kvs => obtain ⟨xs, e, z, t⟩ := q; exact ⟨xs, e, z, t.mono fr⟩
      | ins c fs => obtain ⟨C, dx, gs, m, e, t⟩ := q; exact ⟨C, dx, gs, m, e, t.mono fr⟩
      | out => trivial
  · exact w.live b (h.elim (fun h => .inl (h.elim (fun y => .inl ⟨y.1, fun z => y.2 (.inr z)⟩) .inr)) .inr)
  · have h1 : (S.cells.set k .out)[i]? = some c := h1
    by_cases e : k = i
    · subst e
      rw [List.getElem?_set_self hkl] at h1
      cases h1
      exact absurd rfl hn
    · rw [List.getElem?_set_ne e] at h1
      intro z
      rcases z with z | z
      · exact ne e h2 z
      · exact w.nz i c b h1 h2 hn z
  · rcases h with h | h
    · rw [h]; exact w.phi (List.mem_of_getElem? hk)
    · exact w.zl b h
  · refine ⟨(w.zo b h).1, fun z => ?_⟩
    rcases z with z | z
    · exact (w.zo b h).1 (by rw [z]; exact List.mem_of_getElem? hk)
    · exact (w.zo b h).2 z
theorem frz_mu {a : Addr} {k : Nat} (w : Wf K mg G H S) (hk : G.φ[k]? = some a) : ¬ (G.frz a).mu a := fun h => by
  have m := List.mem_of_getElem? hk
  rcases h with (h | h | h) | h
  · exact h.2 (.inl rfl)
  · exact w.na (by rw [← show a = G.sa from h]; exact m)
  · exact w.nb (by rw [← show a = G.sb from h]; exact m)
  · exact (w.zo a h).1 m
end
section
variable {X : Cx} {W : WX} {ρ : List Slot} {e : Expr} {m : M D}
theorem ed_frzP (h : ED X W ρ e m) : ED X W ρ e (m.bind frzP) :=
  PE.imp h fun σ H Q ⟨G0, H0, G, S, si, h⟩ => ⟨G0, H0, G, S, si, okG.bind h fun G1 H1 S1 v d s1 f1 r1 h1 => by
    unfold frzP at h1
    cases r1 with
    | ptr q =>
      rename_i a k
      have wf := s1.wf.frz q
      have nm := frz_mu s1.wf q
      have si2 : SI X.K X.mg G0 H0 (G1.frz a) H1 σ ρ (S1.put k .out) := s1.mono .frz wf
      cases qc : S1.cells[k]? with
      | none => simp only [qc] at h1; exact h1.elim
      | some c =>
        have cr := s1.wf.cell k c a qc q
        cases c with
        | out => simp only [qc] at h1; exact h1.elim
        | lst ds =>
          simp only [qc] at h1
          obtain ⟨xs, hx, z, t⟩ := cr
          exact h1 _ _ _ si2 .frz (.lst hx z nm (t.mono .frz))
        | dic kvs =>
          simp only [qc] at h1
          obtain ⟨xs, hx, z, t⟩ := cr
          obtain ⟨e1, e2⟩ := t.fst
          exact h1 _ _ _ si2 .frz (.dic hx z nm e1 (e2.mono .frz))
        | ins c fs =>
          simp only [qc] at h1
          obtain ⟨C, dx, gs, mm, hx, t⟩ := cr
          obtain ⟨e1, e2⟩ := t.fst
          exact h1 _ _ _ si2 .frz (.obj q (by rw [← s1.wf.hmg] at mm; exact mm) hx nm e1 (e2.mono .frz))
    | _ => exact h1.elim⟩
end
end Dl
/-! more iterables, more new lists -/
namespace Dl
open PySem L2
def signs (x : Str) : List D := x.cps.toList.map fun c => .str ⟨#[c]⟩
/-- the items of a list, a tuple or a text -/
def itemsS : D → M (List D)
  | .str x => M.pure (signs x)
  | d => items d
section
variable {K : PySem.W.Frag} {mg : Str → Option Value} {G : Gh} {H : Hp}
theorem isW_str {x : Str} : IsW K (Its x) (signs x) G H := by
  refine ⟨fun _ => True, _, by rw [show (signs x).length = x.cps.size by simp [signs]]; exact walk_str, fun _ _ _ => trivial, fun i G1 H1 v H2 hi r y => ?_⟩
  obtain ⟨e, c, hc, ev⟩ := y
  subst e ev
  refine ⟨.inl rfl, .str ⟨#[c]⟩, ?_, .str _⟩
  unfold signs
  rw [List.getElem?_map, Array.getElem?_toList, hc]; rfl
end
section
variable {X : Cx} {W : WX} {ρ : List Slot} {a b c e tg : Expr} {es : List Expr} {ma mb mc m : M D} {ms : List (M D)} {pos p p1 p2 p3 : Pos}
theorem PI.or {t u : TI} (h : PI X tg e t) (k : PI X tg e u) : PI X tg e (fun σ H R => t σ H R ∨ u σ H R) := ⟨fun pins s σ H R I q => q.elim (h.run pins s σ H R I) (k.run pins s σ H R I)⟩
theorem id_any (h : ED X W ρ e m) : ID X W ρ tg e (m.bind itemsS) :=
  PI.imp (PI.or (id_seq h) (pi_str h)) fun σ H R ⟨G0, H0, G, S, si, h⟩ => by
    unfold M.bind at h
    cases q : m S with
    | err x S1 => exact .inl ⟨G0, H0, G, S, si, by unfold M.bind; rw [q] at h ⊢; exact h⟩
    | bad => rw [q] at h; exact h.elim
    | ok d S1 =>
      rw [q] at h
      cases d with
      | str x =>
        refine .inr ⟨G0, H0, G, S, si, ?_⟩
        rw [q]
        intro b G' H' s' f r
        cases r
        exact ⟨x, rfl, h _ _ _ s' f isW_str⟩
      | _ => exact .inl ⟨G0, H0, G, S, si, by unfold M.bind; rw [q]; exact h⟩
/-- xs[::-1] -/
def revM (m : M D) : M (List D) := m.bind fun d => (asLst d).bind fun ds => M.pure ds.reverse
end
end Dl
/-! several values at once, some of them new lists of one's own -/
namespace Dl
open PySem L2
/-- a value, or a new list that is one's own -/
inductive Mx where
  | v (d : D) | o (ds : List D)
def Mx.slot : Mx → Slot
  | .v d => .val d
  | .o ds => .own ds
def Mx.isO : Mx → Bool
  | .v _ => false
  | .o _ => true
section
variable (K : PySem.W.Frag) (H0 : Hp) (σ : L2.St) (ρ : List Slot) (G : Gh) (H : Hp)
def MxR (v : V) : Mx → Prop
  | .v d => Rep K G H v d
  | .o ds => ∃ l xs, v = .ref l ∧ H l = some (.lst xs) ∧ xs.length ≤ sizeLine ∧ Reps K G H xs ds ∧ G.O l ∧ ¬ G.cell l ∧ H0 l = none ∧ ∀ (i : Nat) (fs : List D), ρ[i]? = some (.own fs) → σ[i]? ≠ some (some (V.ref l))
inductive MxRs : List V → List Mx → Prop
  | nil : MxRs [] []
  | cons {v : V} {m : Mx} {vs : List V} {ms : List Mx} : MxR K H0 σ ρ G H v m → (m.isO = true → ∀ (j : Nat) (n : Mx), ms[j]? = some n → n.isO = true → vs[j]? ≠ some v) → MxRs vs ms → MxRs (v :: vs) (m :: ms)
end
section
variable {K : PySem.W.Frag} {mg : Str → Option Value} {G0 G G1 : Gh} {H0 H H1 : Hp} {σ : L2.St} {ρ : List Slot} {S : MS}
theorem FR.ncell (f : FR G H G1 H1) {l : Addr} {o : HO} (hl : H l = some o) (hc : ¬ G.cell l) : ¬ G1.cell l := fun c => by
  rcases f.cnew _ c with y | y
  · exact hc y
  · rw [hl] at y; cases y
theorem MxR.mono (f : FR G H G1 H1) {v : V} : ∀ {m : Mx}, MxR K H0 σ ρ G H v m → MxR K H0 σ ρ G1 H1 v m
  | .v _, h => Rep.mono f h
  | .o _, ⟨l, xs, e, hl, z, t, ho, hc, h0, n⟩ => ⟨l, xs, e, f.keep _ _ hl (.inl hc), z, t.mono f, f.oold _ ho, f.ncell hl hc, h0, n⟩
theorem MxRs.mono (f : FR G H G1 H1) : ∀ {vs : List V} {ms : List Mx}, MxRs K H0 σ ρ G H vs ms → MxRs K H0 σ ρ G1 H1 vs ms
  | _, _, .nil => .nil
  | _, _, .cons h n t => .cons (h.mono f) n (MxRs.mono f t)
theorem MxRs.length : ∀ {vs : List V} {ms : List Mx}, MxRs K H0 σ ρ G H vs ms → vs.length = ms.length
  | _, _, .nil => rfl
  | _, _, .cons _ _ t => by rw [List.length_cons, List.length_cons, MxRs.length t]
def setMs : List Nat → List Slot → List Mx → List Slot
  | i :: is, ρ, m :: ms => setMs is (ρ.set i m.slot) ms
  | _, ρ, _ => ρ
def setVs : List Nat → L2.St → List V → L2.St
  | i :: is, σ, v :: vs => setVs is (σ.set i (some v)) vs
  | _, σ, _ => σ
theorem MxRs.step {i : Nat} {v : V} {m : Mx} (hi : i < σ.length) : ∀ {vs : List V} {ms : List Mx}, MxRs K H0 σ ρ G H vs ms → (m.isO = true → ∀ (j : Nat) (n : Mx), ms[j]? = some n → n.isO = true → vs[j]? ≠ some v) → MxRs K H0 (σ.set i (some v)) (ρ.set i m.slot) G H vs ms
  | _, _, .nil, _ => .nil
  | _, _, .cons (v := w) (m := n) h d t, q => .cons (by
      cases n with
      | v _ => exact h
      | o ds =>
        obtain ⟨l, xs, e, hl, z, r, ho, hc, h0, nn⟩ := h
        refine ⟨l, xs, e, hl, z, r, ho, hc, h0, fun j fs hj hs => ?_⟩
        by_cases e' : i = j
        · subst e'
          cases m with
          | v _ =>
            by_cases hl' : i < ρ.length
            · rw [Mx.slot, List.getElem?_set_self hl'] at hj; cases hj
            · rw [List.getElem?_eq_none (by rw [List.length_set]; omega)] at hj; cases hj
          | o gs =>
            rw [List.getElem?_set_self hi] at hs
            cases hs
            exact q rfl 0 _ rfl rfl (by rw [e]; rfl)
        · rw [List.getElem?_set_ne e'] at hj hs
          exact nn j fs hj hs) d (MxRs.step hi t fun k j n h1 h2 h3 => q k (j + 1) n (by simpa using h1) h2 (by simpa using h3))
theorem SI.setMx (s : SI K mg G0 H0 G H σ ρ S) {v : V} (i : Nat) : ∀ {m : Mx}, MxR K H0 σ ρ G H v m → SI K mg G0 H0 G H (σ.set i (some v)) (ρ.set i m.slot) S
  | .v d, r => s.set i r
  | .o ds, ⟨l, xs, e, hl, z, r, ho, hc, h0, nn⟩ => by
    subst e
    exact s.setOwn i hl z ho hc h0 r fun j fs _ h => nn j fs h
theorem SI.setMxs : ∀ (is : List Nat) {σ : L2.St} {ρ : List Slot} {vs : List V} {ms : List Mx}, SI K mg G0 H0 G H σ ρ S → (∀ i ∈ is, i < ρ.length) → MxRs K H0 σ ρ G H vs ms → SI K mg G0 H0 G H (setVs is σ vs) (setMs is ρ ms) S
  | [], _, _, _, _, s, _, _ => s
  | _ :: _, _, _, _, _, s, _, .nil => s
  | i :: is, σ, ρ, _, _, s, hi, .cons (v := v) (m := m) h d t => by
    have l := hi i List.mem_cons_self
    exact SI.setMxs is (s.setMx i h) (fun j hj => by rw [List.length_set]; exact hi j (List.mem_cons_of_mem _ hj)) (t.step (by rw [s.len]; exact l) d)
end
/-! the same while they are told: what is new was not there at Hs -/
section
variable (K : PySem.W.Frag) (Hs : Hp) (G : Gh) (H : Hp)
def MxN (v : V) : Mx → Prop
  | .v d => Rep K G H v d
  | .o ds => ∃ l xs, v = .ref l ∧ H l = some (.lst xs) ∧ xs.length ≤ sizeLine ∧ Reps K G H xs ds ∧ G.O l ∧ ¬ G.cell l ∧ Hs l = none
inductive MxNs : List V → List Mx → Prop
  | nil : MxNs [] []
  | cons {v : V} {m : Mx} {vs : List V} {ms : List Mx} : MxN K Hs G H v m → (m.isO = true → ∀ (j : Nat) (n : Mx), ms[j]? = some n → n.isO = true → vs[j]? ≠ some v) → MxNs vs ms → MxNs (v :: vs) (m :: ms)
end
section
variable {K : PySem.W.Frag} {mg : Str → Option Value} {G0 G G1 : Gh} {H0 H H1 Hs Ht : Hp} {σ : L2.St} {ρ : List Slot} {S : MS}
theorem MxN.mono (f : FR G H G1 H1) {v : V} : ∀ {m : Mx}, MxN K Hs G H v m → MxN K Hs G1 H1 v m
  | .v _, h => Rep.mono f h
  | .o _, ⟨l, xs, e, hl, z, t, ho, hc, h0⟩ => ⟨l, xs, e, f.keep _ _ hl (.inl hc), z, t.mono f, f.oold _ ho, f.ncell hl hc, h0⟩
theorem MxNs.start (f : ∀ b, Ht b = none → Hs b = none) : ∀ {vs : List V} {ms : List Mx}, MxNs K Ht G H vs ms → MxNs K Hs G H vs ms
  | _, _, .nil => .nil
  | _, _, .cons (m := m) h n t => .cons (by
      cases m with
      | v _ => exact h
      | o ds => obtain ⟨l, xs, e, hl, z, t, ho, hc, h0⟩ := h; exact ⟨l, xs, e, hl, z, t, ho, hc, f _ h0⟩) n (MxNs.start f t)
theorem MxNs.other {l : Addr} (hl : Hs l ≠ none) : ∀ {vs : List V} {ms : List Mx}, MxNs K Hs G H vs ms → ∀ (j : Nat) (n : Mx), ms[j]? = some n → n.isO = true → vs[j]? ≠ some (.ref l)
  | _, _, .nil, _, _, h, _ => by simp at h
  | _, _, .cons (m := m) h _ _, 0, n, e, q => by
    simp at e; subst e
    cases m with
    | v _ => cases q
    | o ds =>
      obtain ⟨l', xs, e, _, _, _, _, _, h0⟩ := h
      subst e
      intro e
      simp at e; subst e
      exact hl h0
  | _, _, .cons _ _ t, j + 1, n, e, q => by
    simpa using MxNs.other hl t j n (by simpa using e) q
theorem MxNs.full (h0 : ∀ b, Hs b = none → H0 b = none) (ho : ∀ l, Hs l = none → ∀ (i : Nat) (fs : List D), ρ[i]? = some (.own fs) → σ[i]? ≠ some (some (V.ref l))) : ∀ {vs : List V} {ms : List Mx}, MxNs K Hs G H vs ms → MxRs K H0 σ ρ G H vs ms
  | _, _, .nil => .nil
  | _, _, .cons (m := m) h n t => .cons (by
      cases m with
      | v _ => exact h
      | o ds => obtain ⟨l, xs, e, hl, z, t, o', hc, hs⟩ := h; exact ⟨l, xs, e, hl, z, t, o', hc, h0 _ hs, ho _ hs⟩) n (MxNs.full h0 ho t)
theorem MxNs.length : ∀ {vs : List V} {ms : List Mx}, MxNs K Hs G H vs ms → vs.length = ms.length
  | _, _, .nil => rfl
  | _, _, .cons _ _ t => by rw [List.length_cons, List.length_cons, MxNs.length t]
theorem MxNs.mono (f : FR G H G1 H1) : ∀ {vs : List V} {ms : List Mx}, MxNs K Hs G H vs ms → MxNs K Hs G1 H1 vs ms
  | _, _, .nil => .nil
  | _, _, .cons h n t => .cons (h.mono f) n (MxNs.mono f t)
end
section
variable (K : PySem.W.Frag) (mg : Str → Option Value) (W : WX)
def okM (G0 : Gh) (H0 : Hp) (G : Gh) (H : Hp) (σ : L2.St) (ρ : List Slot) (Q : List V → Hp → Prop) : Res (List Mx) → Prop
  | .ok ms S => ∀ vs G' H', SI K mg G0 H0 G' H' σ ρ S → FR G H G' H' → MxNs K H G' H' vs ms → Q vs H'
  | .err e S => ∀ cls da G' H', SI K mg G0 H0 G' H' σ ρ S → FR G H G' H' → ErrRep K mg G' H' e cls da → W cls da σ H'
  | .bad => False
def tM (ρ : List Slot) (m : M (List Mx)) : TA := fun σ H Q => ∃ G0 H0 G S, SI K mg G0 H0 G H σ ρ S ∧ okM K mg W G0 H0 G H σ ρ Q (m S)
end
def EM (X : Cx) (W : WX) (ρ : List Slot) (es : List Expr) (m : M (List Mx)) : Prop := PA X es (tM X.K X.mg W ρ m)
inductive Ax where
  | v (m : M D) | o (m : M (List D))
def argsX : List Ax → M (List Mx)
  | [] => M.pure []
  | .v m :: ms => m.bind fun d => (argsX ms).bind fun r => M.pure (.v d :: r)
  | .o m :: ms => m.bind fun d => (argsX ms).bind fun r => M.pure (.o d :: r)
section
variable {X : Cx} {W : WX} {ρ : List Slot} {e : Expr} {es : List Expr} {m : M D} {mn : M (List D)} {ms : List Ax}
theorem em_nil : EM X W ρ [] (argsX []) := PA.imp pa_nil fun σ H Q ⟨G0, H0, G, S, si, h⟩ => h [] G H si (.refl G H) .nil
theorem em_v (ha : ED X W ρ e m) (hr : EM X W ρ es (argsX ms)) (hs : starEach (e :: es) X.env = (false, eval e X.env) :: starEach es X.env := by rfl) : EM X W ρ (e :: es) (argsX (.v m :: ms)) :=
  PA.imp (pa_cons ha hr hs) fun σ H Q ⟨G0, H0, G, S, si, h⟩ => ⟨G0, H0, G, S, si, by
    unfold argsX M.bind at h
    cases q : m S with
    | err _ _ => rw [q] at h; exact h
    | bad => rw [q] at h; exact h
    | ok d S1 =>
      rw [q] at h
      intro v G1 H1 s1 f1 r1
      refine ⟨G0, H0, G1, S1, s1, ?_⟩
      simp only at h
      cases q2 : argsX ms S1 with
      | err _ _ => rw [q2] at h; exact fun cls da G' H' s f r => h cls da G' H' s (f1.trans f) r
      | bad => rw [q2] at h; exact h
      | ok ns S2 =>
        rw [q2] at h
        intro vs G2 H2 s2 f2 r2
        exact h (v :: vs) G2 H2 s2 (f1.trans f2) (.cons (m := .v d) (Rep.mono f2 r1) (fun z => nomatch z) (r2.start fun b hb => f1.free hb))⟩
theorem em_o (ha : EN X W ρ e mn) (hr : EM X W ρ es (argsX ms)) (hs : starEach (e :: es) X.env = (false, eval e X.env) :: starEach es X.env := by rfl) : EM X W ρ (e :: es) (argsX (.o mn :: ms)) :=
  PA.imp (pa_cons ha hr hs) fun σ H Q ⟨G0, H0, G, S, si, h⟩ => ⟨G0, H0, G, S, si, by
    unfold argsX M.bind at h
    cases q : mn S with
    | err _ _ => rw [q] at h; exact h
    | bad => rw [q] at h; exact h
    | ok ds S1 =>
      rw [q] at h
      intro l xs G1 H1 s1 f1 hn hl z ho hc t
      refine ⟨G0, H0, G1, S1, s1, ?_⟩
      simp only at h
      cases q2 : argsX ms S1 with
      | err _ _ => rw [q2] at h; exact fun cls da G' H' s f r => h cls da G' H' s (f1.trans f) r
      | bad => rw [q2] at h; exact h
      | ok ns S2 =>
        rw [q2] at h
        intro vs G2 H2 s2 f2 r2
        have own : MxN X.K H G1 H1 (.ref l) (.o ds) := ⟨l, xs, rfl, hl, z, t, ho, hc, hn⟩
        exact h (.ref l :: vs) G2 H2 s2 (f1.trans f2) (.cons (m := .o ds) (own.mono f2) (fun _ => r2.other (by rw [hl]; exact fun z => nomatch z)) (r2.start fun b hb => f1.free hb))⟩
variable {C L : Type} {k : Ct C L} {rest : List Stmt} {st : Stmt} {mm : M (List Mx)}
/-- behind mixed arguments in a statement -/
theorem okS.bindM {K : PySem.W.Frag} {mg : Str → Option Value} {G0 G : Gh} {H0 H : Hp} {E : Ends} {σ : L2.St} {Q : List V → Hp → Prop} {S : MS} {f : List Mx → M (Fl C L)}
    (si : SI K mg G0 H0 G H σ ρ S) (h : okS K mg k G0 H0 G H E (mm.bind f S)) (w : Wk ρ k.x)
    (q : ∀ G1 H1 S1 vs ms, SI K mg G0 H0 G1 H1 σ ρ S1 → FR G H G1 H1 → MxNs K H G1 H1 vs ms → okS K mg k G0 H0 G1 H1 E (f ms S1) → Q vs H1) : okM K mg k.W G0 H0 G H σ ρ Q (mm S) := by
  unfold M.bind at h
  cases e : mm S with
  | ok a S1 =>
    rw [e] at h
    exact fun vs G' H' s r z => q G' H' S1 vs a s r z (okS.from h r.lr)
  | err x S1 =>
    rw [e] at h
    exact fun cls da G' H' s f r => h cls da σ G' H' (s.weak w) f.lr r
  | bad => rw [e] at h; exact h
/-- what goes on behind several values: bs tells which of them are new lists -/
def Cur (α : Type) : List Bool → Type
  | [] => M α
  | false :: bs => D → Cur α bs
  | true :: bs => List D → Cur α bs
def appX {α : Type} : (bs : List Bool) → Cur α bs → List Mx → M α
  | [], m, [] => m
  | false :: bs, f, .v d :: ns => appX bs (f d) ns
  | true :: bs, f, .o d :: ns => appX bs (f d) ns
  | _, _, _ => M.bad
def parC {α : Type} : (bs : List Bool) → List Ax → Cur α bs → M α
  | [], [], m => m
  | false :: bs, .v m :: ms, f => m.bind fun d => parC bs ms (f d)
  | true :: bs, .o m :: ms, f => m.bind fun d => parC bs ms (f d)
  | _, _, _ => M.bad
def AllC {α : Type} : (bs : List Bool) → Cur α bs → List Mx → (List Mx → M α → Prop) → Prop
  | [], m, acc, P => P acc m
  | false :: bs, f, acc, P => ∀ d, AllC bs (f d) (acc ++ [.v d]) P
  | true :: bs, f, acc, P => ∀ d, AllC bs (f d) (acc ++ [.o d]) P
theorem bind_bind {α β γ : Type} (m : M α) (f : α → M β) (g : β → M γ) : (m.bind f).bind g = m.bind fun a => (f a).bind g := by
  funext S; unfold M.bind; cases m S <;> rfl
theorem bind_congr {α β : Type} (m : M α) {f g : α → M β} (h : ∀ a, f a = g a) : m.bind f = m.bind g := by rw [funext h]
theorem bind_le {α β : Type} {m : M α} {f g : α → M β} (h : ∀ a S, f a S = .bad ∨ f a S = g a S) (S : MS) : m.bind f S = .bad ∨ m.bind f S = m.bind g S := by
  unfold M.bind
  cases m S with
  | bad => exact .inl rfl
  | err _ _ => exact .inr rfl
  | ok d S1 => exact h d S1
theorem argsX_v {α : Type} {bs : List Bool} {ms : List Ax} {m : M D} {f : Cur α (false :: bs)} : (argsX (.v m :: ms)).bind (appX (false :: bs) f) = m.bind fun d => (argsX ms).bind (appX bs (f d)) := by
  rw [argsX, bind_bind]
  exact bind_congr m fun d => by rw [bind_bind]; exact bind_congr _ fun r => rfl
theorem argsX_o {α : Type} {bs : List Bool} {ms : List Ax} {m : M (List D)} {f : Cur α (true :: bs)} : (argsX (.o m :: ms)).bind (appX (true :: bs) f) = m.bind fun d => (argsX ms).bind (appX bs (f d)) := by
  rw [argsX, bind_bind]
  exact bind_congr m fun d => by rw [bind_bind]; exact bind_congr _ fun r => rfl
theorem parC_le {α : Type} : ∀ (bs : List Bool) (ms : List Ax) (f : Cur α bs) (S : MS), parC bs ms f S = .bad ∨ parC bs ms f S = ((argsX ms).bind (appX bs f)) S
  | [], [], m, S => .inr rfl
  | [], _ :: _, _, S => .inl rfl
  | false :: _, [], _, S => .inl rfl
  | true :: _, [], _, S => .inl rfl
  | false :: _, .o _ :: _, _, S => .inl rfl
  | true :: _, .v _ :: _, _, S => .inl rfl
  | false :: bs, .v m :: ms, f, S => by
    rw [argsX_v]
    exact bind_le (fun d S1 => parC_le bs ms (f d) S1) S
  | true :: bs, .o m :: ms, f, S => by
    rw [argsX_o]
    exact bind_le (fun d S1 => parC_le bs ms (f d) S1) S
theorem allC_app {α : Type} {P : List Mx → M α → Prop} (hb : ∀ ns, P ns M.bad) : ∀ (bs : List Bool) (f : Cur α bs) (acc ns : List Mx), AllC bs f acc P → P (acc ++ ns) (appX bs f ns)
  | [], m, acc, [], h => by rw [List.append_nil]; exact h
  | [], _, _, _ :: _, _ => hb _
  | false :: _, _, _, [], _ => hb _
  | true :: _, _, _, [], _ => hb _
  | false :: _, _, _, .o _ :: _, _ => hb _
  | true :: _, _, _, .v _ :: _, _ => hb _
  | false :: bs, f, acc, .v d :: ns, h => by
    have := allC_app hb bs (f d) (acc ++ [.v d]) ns (h d)
    rw [List.append_assoc] at this; exact this
  | true :: bs, f, acc, .o d :: ns, h => by
    have := allC_app hb bs (f d) (acc ++ [.o d]) ns (h d)
    rw [List.append_assoc] at this; exact this
theorem appX_len {α : Type} {S : MS} : ∀ (bs : List Bool) (f : Cur α bs) (ns : List Mx), appX bs f ns S = .bad ∨ ns.length = bs.length
  | [], _, [] => .inr rfl
  | [], _, _ :: _ => .inl rfl
  | false :: _, _, [] => .inl rfl
  | true :: _, _, [] => .inl rfl
  | false :: _, _, .o _ :: _ => .inl rfl
  | true :: _, _, .v _ :: _ => .inl rfl
  | false :: bs, f, .v d :: ns => (appX_len bs (f d) ns).imp id fun h => by rw [List.length_cons, List.length_cons, h]
  | true :: bs, f, .o d :: ns => (appX_len bs (f d) ns).imp id fun h => by rw [List.length_cons, List.length_cons, h]
theorem okS.parC {K : PySem.W.Frag} {mg : Str → Option Value} {G0 G : Gh} {H0 H : Hp} {E : Ends} {S : MS} {bs : List Bool} {f : Cur (Fl C L) bs} (h : okS K mg k G0 H0 G H E (parC bs ms f S)) : okS K mg k G0 H0 G H E ((argsX ms).bind (appX bs f) S) := by
  rcases parC_le bs ms f S with q | q
  · rw [q] at h; exact h.elim
  · rw [← q]; exact h
theorem okS.appX {K : PySem.W.Frag} {mg : Str → Option Value} {G0 G : Gh} {H0 H : Hp} {E : Ends} {S : MS} {bs : List Bool} {f : Cur (Fl C L) bs} {ns : List Mx} (h : okS K mg k G0 H0 G H E (appX bs f ns S)) : ns.length = bs.length := by
  rcases appX_len (S := S) bs f ns with q | q
  · rw [q] at h; exact h.elim
  · exact q
/-- x, y = a, b -/
theorem sd_parX2 (i j : Nat) (bs : List Bool) {f : Cur (Fl C L) bs} (w : Wk ρ k.x) (hps : PS X st (tPar i j (tM X.K X.mg k.W ρ (argsX ms)))) (hr : AllC bs f [] fun ns m => SD X k (setMs [i, j] ρ ns) rest m) (hi : (decide (i < ρ.length) && decide (j < ρ.length)) = true := by rfl) (hb : bs.length = 2 := by rfl) :
    SD X k ρ (st :: rest) (parC bs ms f) := by
  have hr : ∀ ns, SD X k (setMs [i, j] ρ ns) rest (appX bs f ns) := fun ns => allC_app (fun _ => sd_bad) bs f [] ns hr
  let u : TS := fun D σ H => ∃ ns, tS X.K X.mg k (setMs [i, j] ρ ns) (appX bs f ns) D σ H
  have hu : PSs X rest u := ⟨fun pins s σ H D I ⟨ns, q⟩ => (hr ns).run pins s σ H D I q⟩
  simp only [Bool.and_eq_true, decide_eq_true_eq] at hi
  refine PSs.imp (pss_cons hps hu) fun D σ H ⟨G0, H0, G, S, si, h⟩ => ⟨G0, H0, G, S, si, okS.bindM si h.parC w fun G1 H1 S1 vs ns s1 f1 r1 h1 => ?_⟩
  have zl : ns.length = 2 := h1.appX.trans hb
  have vl : vs.length = 2 := by rw [r1.length]; exact zl
  have r2 : MxRs X.K H0 σ ρ G1 H1 vs ns := r1.full (fun b hb => si.fr.free hb) (fun l hl => si.owns hl)
  have s2 := SI.setMxs [i, j] s1 (by simp; exact hi) r2
  match vs, vl with
  | [a, b], _ => exact ⟨a, b, rfl, ns, G0, H0, G1, S1, s2, h1⟩
theorem sd_parX3 (i j l : Nat) (bs : List Bool) {f : Cur (Fl C L) bs} (w : Wk ρ k.x) (hps : PS X st (tPar3 i j l (tM X.K X.mg k.W ρ (argsX ms)))) (hr : AllC bs f [] fun ns m => SD X k (setMs [i, j, l] ρ ns) rest m) (hi : (decide (i < ρ.length) && decide (j < ρ.length) && decide (l < ρ.length)) = true := by rfl) (hb : bs.length = 3 := by rfl) :
    SD X k ρ (st :: rest) (parC bs ms f) := by
  have hr : ∀ ns, SD X k (setMs [i, j, l] ρ ns) rest (appX bs f ns) := fun ns => allC_app (fun _ => sd_bad) bs f [] ns hr
  let u : TS := fun D σ H => ∃ ns, tS X.K X.mg k (setMs [i, j, l] ρ ns) (appX bs f ns) D σ H
  have hu : PSs X rest u := ⟨fun pins s σ H D I ⟨ns, q⟩ => (hr ns).run pins s σ H D I q⟩
  simp only [Bool.and_eq_true, decide_eq_true_eq] at hi
  refine PSs.imp (pss_cons hps hu) fun D σ H ⟨G0, H0, G, S, si, h⟩ => ⟨G0, H0, G, S, si, okS.bindM si h.parC w fun G1 H1 S1 vs ns s1 f1 r1 h1 => ?_⟩
  have zl : ns.length = 3 := h1.appX.trans hb
  have vl : vs.length = 3 := by rw [r1.length]; exact zl
  have r2 : MxRs X.K H0 σ ρ G1 H1 vs ns := r1.full (fun b hb => si.fr.free hb) (fun l hl => si.owns hl)
  have s2 := SI.setMxs [i, j, l] s1 (by simp; exact ⟨hi.1.1, hi.1.2, hi.2⟩) r2
  match vs, vl with
  | [a, b, c], _ => exact ⟨a, b, c, rfl, ns, G0, H0, G1, S1, s2, h1⟩
end
end Dl
/-! while; slices of texts, lists and tuples; list(range(..)); max and min of a list -/
namespace Dl
open PySem L2
section
variable {X : Cx} {W : WX} {ρ : List Slot} {a b c e tg : Expr} {es : List Expr} {ma mb mc m : M D} {ms : List (M D)} {pos p p1 p2 p3 : Pos}
/-! ### slices -/
def dCut (d : D) (l u : Option Int) : M D := match d with
  | .str x => guard (szOk x.length) (M.pure (.str (cutS x l u)))
  | .tup ds => M.pure (.tup (cutD ds l u))
  | d => (asLst d).bind fun ds => M.pure (.lst (cutD ds l u))
def sliceM (m : M D) (lo hi : M (Option Int)) : M D := m.bind fun d => lo.bind fun l => hi.bind fun u => dCut d l u
end
end Dl
/-! slices of texts, lists and tuples; list(range(..)); max and min of a list -/
namespace Dl
open PySem L2
end Dl
/-! new dicts: displays, dict(pairs); as values that never change, or at pointers -/
namespace Dl
open PySem L2
section
variable (K : PySem.W.Frag) (mg : Str → Option Value) (W : WX)
def okND (G0 : Gh) (H0 : Hp) (G : Gh) (H : Hp) (σ : L2.St) (ρ : List Slot) (Q : VK) : Res (List (Key × D)) → Prop
  | .ok kvs S => ∀ l ks G' H', SI K mg G0 H0 G' H' σ ρ S → FR G H G' H' → H l = none → H' l = some (.dK ks) → ks.length ≤ sizeLine → G'.O l → ¬ G'.cell l → KReps K G' H' ks kvs → Q (.ref l) H'
  | .err e S => ∀ cls da G' H', SI K mg G0 H0 G' H' σ ρ S → FR G H G' H' → ErrRep K mg G' H' e cls da → W cls da σ H'
  | .bad => False
def tND (ρ : List Slot) (m : M (List (Key × D))) : TE := fun σ H Q => ∃ G0 H0 G S, SI K mg G0 H0 G H σ ρ S ∧ okND K mg W G0 H0 G H σ ρ Q (m S)
end
def ENd (X : Cx) (W : WX) (ρ : List Slot) (e : Expr) (m : M (List (Key × D))) : Prop := PE X e (tND X.K X.mg W ρ m)
section
variable {K : PySem.W.Frag} {mg : Str → Option Value} {W : WX} {α β : Type} {R : Gh → Hp → β → α → Prop} {G0 G G1 : Gh} {H0 H H1 : Hp} {σ : L2.St} {ρ : List Slot} {Q : β → Hp → Prop} {Q' : VK} {S : MS}
theorem okND.from {r : Res (List (Key × D))} (h : okND K mg W G0 H0 G H σ ρ Q' r) (f : FR G H G1 H1) : okND K mg W G0 H0 G1 H1 σ ρ Q' r := by
  cases r with
  | ok a S => exact fun l xs G' H' s r n q z m c t => h l xs G' H' s (f.trans r) (f.free n) q z m c t
  | err e S => exact fun cls da G' H' s r => h cls da G' H' s (f.trans r)
  | bad => exact h
theorem okND.bind {m : M α} {f : α → M (List (Key × D))} (h : okND K mg W G0 H0 G H σ ρ Q' (m.bind f S))
    (k : ∀ G1 H1 S1 b a, SI K mg G0 H0 G1 H1 σ ρ S1 → FR G H G1 H1 → R G1 H1 b a → okND K mg W G0 H0 G1 H1 σ ρ Q' (f a S1) → Q b H1) : okG K mg W R G0 H0 G H σ ρ Q (m S) := by
  unfold M.bind at h
  cases e : m S with
  | ok a S1 =>
    rw [e] at h
    exact fun b G' H' s r q => k G' H' S1 b a s r q (okND.from h r)
  | err x S1 => rw [e] at h; exact h
  | bad => rw [e] at h; exact h
theorem okND.new {kvs : List (Key × D)} {p : Addr} {ks : List (Key × V)} (h : okND K mg W G0 H0 G H σ ρ Q' (.ok kvs S)) (s : SI K mg G0 H0 G H σ ρ S) (hp : H p = none) (z : ks.length ≤ sizeLine) (r : KReps K G H ks kvs) : Q' (.ref p) (upd H p (.dK ks)) :=
  h p ks (G.own p) (upd H p (.dK ks)) (s.allocO hp) (.allocO hp) hp upd_same z (.inl rfl) (fun c => s.wf.fresh hp (.inl c)) (r.mono (.allocO hp))
end
def frzD (m : M (List (Key × D))) : M D := m.bind fun kvs => M.pure (.dic (kvs.map Prod.fst) (kvs.map Prod.snd))
def boxD (m : M (List (Key × D))) : M D := m.bind fun kvs S => .ok (.ptr S.cells.length) { S with cells := S.cells ++ [.dic kvs] }
/-- what is one's own gets a pointer -/
theorem box_gen {K : PySem.W.Frag} {mg : Str → Option Value} {ρ : List Slot} {G0 G : Gh} {H0 H : Hp} {σ : L2.St} {S : MS} {l : Addr} {c0 : Cell} (s : SI K mg G0 H0 G H σ ρ S) (ho : G.O l) (hc : ¬ G.cell l) (h0 : H0 l = none)
    (hcr : LR G H { G with φ := G.φ ++ [l], O := fun b => b ≠ l ∧ G.O b } H → CellRep K mg { G with φ := G.φ ++ [l], O := fun b => b ≠ l ∧ G.O b } H l c0)
    (own : ∀ (i : Nat) (es : List D), ρ[i]? = some (.own es) → σ[i]? ≠ some (some (V.ref l))) :
    SI K mg G0 H0 { G with φ := G.φ ++ [l], O := fun b => b ≠ l ∧ G.O b } H σ ρ { S with cells := S.cells ++ [c0] } ∧ Rep K { G with φ := G.φ ++ [l], O := fun b => b ≠ l ∧ G.O b } H (.ref l) (.ptr S.cells.length) := by
  let G' : Gh := { G with φ := G.φ ++ [l], O := fun b => b ≠ l ∧ G.O b }
  have cc : ∀ b, G'.cell b → G.cell b ∨ b = l := fun b h => by
    rcases h with h | h | h
    · rcases List.mem_append.mp h.1 with k | h'
      · exact .inl (.inl ⟨k, h.2⟩)
      · exact Or.inr (List.mem_singleton.mp h')
    · exact .inl (.inr (.inl h))
    · exact .inl (.inr (.inr h))
  have mm : ∀ b, G'.mu b → G.mu b := fun b h => by
    rcases h with h | h
    · rcases cc b h with h | h
      · exact .inl h
      · rw [h]; exact .inr ho
    · exact .inr h.2
  have lr : LR G H G' H := ⟨List.prefix_append _ _, rfl, rfl, rfl, fun _ _ h _ => h, fun b h => .inl (mm b h), fun _ u h => ⟨u, h⟩⟩
  have ne0 : ∀ b, G0.O b → b ≠ l := fun b hb e => by
    obtain ⟨u, q⟩ := s.live0 b (.inr hb)
    rw [e, h0] at q; cases q
  have fr : FR G0 H0 G' H := ⟨s.fr.pre.trans (List.prefix_append _ _), s.fr.sa, s.fr.sb, s.fr.mg, s.fr.keep, fun b h => by
      rcases cc b h with h | h
      · exact s.fr.cnew b h
      · rw [h]; exact .inr h0, fun b h => s.fr.onew b h.2, fun b h => ⟨ne0 b h, s.fr.oold b h⟩, s.fr.there⟩
  have wf : Wf K mg G' H { S with cells := S.cells ++ [c0] } := by
    refine ⟨?_, ?_, ?_, fun b h => s.wf.live b (mm b h), s.wf.ha, s.wf.hb, s.wf.sab, ?_, ?_, s.wf.zs, s.wf.hmg, ?_, s.wf.zl, fun b h => ⟨fun q => ?_, (s.wf.zo b h.2).2⟩⟩
    · show (G.φ ++ [l]).length = (S.cells ++ [c0]).length
      rw [List.length_append, List.length_append, s.wf.len]; rfl
    · show (G.φ ++ [l]).Nodup
      rw [List.nodup_append]
      refine ⟨s.wf.nd, by simp, fun a ha b hb => ?_⟩
      have e : b = l := by simpa using hb
      rw [e]
      intro e'
      exact (s.wf.zo l ho).1 (by rw [← e']; exact ha)
    · intro i c a h1 h2
      have h1 : (S.cells ++ [c0])[i]? = some c := h1
      have h2 : (G.φ ++ [l])[i]? = some a := h2
      by_cases hi : i < S.cells.length
      · rw [List.getElem?_append_left hi] at h1
        rw [List.getElem?_append_left (by rw [s.wf.len]; exact hi)] at h2
        have q := s.wf.cell i c a h1 h2
        cases c with
        | lst ds => obtain ⟨xs, e, z, t⟩ := q; exact ⟨xs, e, z, t.lr lr⟩
        | dic kvs => obtain ⟨xs, e, z, t⟩ := q; exact ⟨xs, e, z, t.lr lr⟩
        | ins c fs => obtain ⟨C, dx, gs, m, e, t⟩ := q; exact ⟨C, dx, gs, m, e, t.lr lr⟩
        | out => trivial
      · rw [List.getElem?_append_right (by omega)] at h1
        rw [List.getElem?_append_right (by rw [s.wf.len]; omega)] at h2
        have ei : i - S.cells.length = 0 := by
          have := (List.getElem?_eq_some_iff.mp h1).1
          simp at this
          omega
        rw [ei] at h1
        rw [s.wf.len, ei] at h2
        cases h1; cases h2
        exact hcr lr
    · intro h
      rcases List.mem_append.mp (show G.sa ∈ G.φ ++ [l] from h) with h | h
      · exact s.wf.na h
      · exact hc (.inr (.inl (by simpa using Eq.symm (List.mem_singleton.mp h))))
    · intro h
      rcases List.mem_append.mp (show G.sb ∈ G.φ ++ [l] from h) with h | h
      · exact s.wf.nb h
      · exact hc (.inr (.inr (by simpa using Eq.symm (List.mem_singleton.mp h))))
    · intro i c a h1 h2 hn zz
      have h1 : (S.cells ++ [c0])[i]? = some c := h1
      have h2 : (G.φ ++ [l])[i]? = some a := h2
      have zz : G.Z a := zz
      by_cases hi : i < S.cells.length
      · rw [List.getElem?_append_left hi] at h1
        rw [List.getElem?_append_left (by rw [s.wf.len]; exact hi)] at h2
        exact s.wf.nz i c a h1 h2 hn zz
      · rw [List.getElem?_append_right (by rw [s.wf.len]; omega)] at h2
        have e : a = l := by simpa using List.mem_of_getElem? h2
        rw [e] at zz
        exact (s.wf.zo l ho).2 zz
    · rcases List.mem_append.mp (show b ∈ G.φ ++ [l] from q) with q | q
      · exact (s.wf.zo b h.2).1 q
      · exact h.1 (by simpa using q)
  refine ⟨⟨fr, s.live0, wf, s.len, fun i x h => ?_, s.apart⟩, .ptr ?_⟩
  · have q := s.env i x h
    cases x with
    | any => trivial
    | val d => obtain ⟨v, e, t⟩ := q; exact ⟨v, e, t.lr lr⟩
    | own es =>
      obtain ⟨m, ys, e, hm, zm, tm, hom, hcm, h0m⟩ := q
      have ne : m ≠ l := fun e' => own i es h (by rw [← e']; exact e)
      refine ⟨m, ys, e, hm, zm, tm.lr lr, ⟨ne, hom⟩, fun q' => ?_, h0m⟩
      rcases cc m q' with q' | q'
      · exact hcm q'
      · exact ne q'
    | exc a dd f d => obtain ⟨e, v, hd, n, t⟩ := q; exact ⟨e, v, hd, fun z => n (mm _ z), t.lr lr⟩
  · show (G.φ ++ [l])[S.cells.length]? = some l
    rw [← s.wf.len, List.getElem?_append_right (Nat.le_refl _), Nat.sub_self]
    rfl
theorem FR.box {G G' : Gh} {H H' : Hp} {l : Addr} (f : FR G H G' H') (n : H l = none) (lv : ∀ b, G.mu b → ∃ o, H b = some o) : FR G H { G' with φ := G'.φ ++ [l], O := fun b => b ≠ l ∧ G'.O b } H' := by
  refine ⟨f.pre.trans (List.prefix_append _ _), f.sa, f.sb, f.mg, f.keep, fun b hb => ?_, fun b hb => f.onew b hb.2, fun b hb => ⟨fun e' => ?_, f.oold b hb⟩, f.there⟩
  · rcases hb with hb | hb | hb
    · rcases List.mem_append.mp hb.1 with k | hb'
      · exact f.cnew b (.inl ⟨k, hb.2⟩)
      · have e' : b = l := by simpa using hb'
        rw [e']; exact .inr n
    · exact f.cnew b (.inr (.inl hb))
    · exact f.cnew b (.inr (.inr hb))
  · obtain ⟨u, w⟩ := lv b (.inr hb)
    rw [e', n] at w; cases w
section
variable {X : Cx} {W : WX} {ρ : List Slot} {a b c e o : Expr} {es : List Expr} {ma mb mc m mo : M D} {ms : List (M D)} {pos p p1 p2 p3 : Pos} {mn : M (List (Key × D))}
theorem ed_newD (h : ENd X W ρ e mn) : ED X W ρ e (frzD mn) :=
  PE.imp h fun σ H Q ⟨G0, H0, G, S, si, h⟩ => ⟨G0, H0, G, S, si, by
    unfold frzD M.bind at h
    cases q : mn S with
    | ok ds S1 =>
      rw [q] at h
      refine fun l xs G' H' s f n e z ho hc t => h (.ref l) (G'.let l) H' (s.let (si.fr.free n) (si.owns n)) (f.let fun b hb q => ?_) (.dic e z (fun q => ?_) t.fst.1 t.fst.2.let)
      · obtain ⟨u, w⟩ := si.wf.live b (.inr hb)
        rw [q, n] at w; cases w
      · rcases q with q | q
        · exact hc q
        · exact q.1 rfl
    | err _ _ => rw [q] at h; exact h
    | bad => rw [q] at h; exact h⟩
theorem ed_boxD (h : ENd X W ρ e mn) : ED X W ρ e (boxD mn) :=
  PE.imp h fun σ H Q ⟨G0, H0, G, S, si, h⟩ => ⟨G0, H0, G, S, si, by
    unfold boxD M.bind at h
    cases q : mn S with
    | ok ds S1 =>
      rw [q] at h
      intro l xs G' H' s f n e z ho hc t
      obtain ⟨s2, r2⟩ := box_gen (c0 := .dic ds) s ho hc (si.fr.free n) (fun lr => ⟨xs, e, z, t.lr lr⟩) (si.owns n)
      exact h (.ref l) _ H' s2 (f.box n si.wf.live) r2
    | err _ _ => rw [q] at h; exact h
    | bad => rw [q] at h; exact h⟩
/-! ### displays -/
def trsOf (X : Cx) (W : WX) (ρ : List Slot) (ks : List Str) (ms : List (M D)) : List (TE × TE) := List.zipWith (fun x m => (tC (.str x), tG X.K X.mg W (RD X.K) ρ m)) ks ms
theorem edi_nil : PPs X pos [] [] (trsOf X W ρ [] []) := pps_nil
theorem edi_cons {x : Str} {j : Nat} {kp : Pos} {keys : List (Option Expr)} {vals : List Expr} {ks : List Str} (hv : ED X W ρ e m) (hr : PPs X pos keys vals (trsOf X W ρ ks ms)) : PPs X pos (some (.Constant (.str x) j kp) :: keys) (e :: vals) (trsOf X W ρ (x :: ks) (m :: ms)) := pps_cons pe_str hv hr
theorem pairs_run : ∀ (ks : List Str) (ms : List (M D)) (σ : L2.St) (H : Hp) (Q : List (V × V) → Hp → Prop), ks.length = ms.length → tG X.K X.mg W (RDs X.K) ρ (argsM ms) σ H (fun vs H' => Q ((ks.map V.str).zip vs) H') → tPairs (trsOf X W ρ ks ms) σ H Q
  | [], [], σ, H, Q, _, ⟨G0, H0, G, S, si, h⟩ => h [] G H si (.refl G H) .nil
  | x :: ks, m :: ms, σ, H, Q, e, ⟨G0, H0, G, S, si, h⟩ => ⟨G0, H0, G, S, si, okG.bind h fun G1 H1 S1 v d s1 f1 r1 h1 => pairs_run ks ms σ H1 _ (by simpa using e) ⟨G0, H0, G1, S1, s1, okG.bind h1 fun G2 H2 S2 vs ds s2 f2 r2 h2 => h2 _ G2 H2 s2 (.refl G2 H2) (.cons (r1.mono f2) r2)⟩⟩
  | [], _ :: _, _, _, _, e, _ => nomatch e
  | _ :: _, [], _, _, _, e, _ => nomatch e
theorem putK_app {kvs : List (Key × V)} {k : Key} {v : V} (h : ∀ kv ∈ kvs, kv.1 ≠ k) : putK kvs k v = kvs ++ [(k, v)] := putK_new v (by
  unfold valV
  rw [List.find?_eq_none.mpr fun kv hm => by simpa using h kv hm]; rfl)
theorem merge_nd : ∀ (more acc : List (Key × V)), (∀ kv ∈ acc, ∀ kw ∈ more, kv.1 ≠ kw.1) → (more.map Prod.fst).Nodup → mergeK acc more = acc ++ more
  | [], acc, _, _ => by simp [mergeK]
  | (k, v) :: more, acc, h, nd => by
    have nd' := List.nodup_cons.mp (show (k :: more.map Prod.fst).Nodup from nd)
    show mergeK (putK acc k v) more = _
    rw [putK_app fun kv hm => h kv hm _ List.mem_cons_self, merge_nd more _ (fun kv hm kw hw => ?_) nd'.2, List.append_assoc]
    · rfl
    · rcases List.mem_append.mp hm with hm | hm
      · exact h kv hm kw (List.mem_cons_of_mem _ hw)
      · have e : kv = (k, v) := by simpa using hm
        rw [e]
        intro e'
        exact nd'.1 (by show k ∈ _; rw [show k = kw.1 from e']; exact List.mem_map_of_mem hw)
/-- {k: v, ..} with texts as keys -/
def dispM (ks : List Str) (ms : List (M D)) : M (List (Key × D)) := (argsM ms).bind fun ds => M.pure ((ks.map Sum.inr).zip ds)
theorem zip_pairs : ∀ (ks : List Str) (vs : List V), ((ks.map V.str).zip vs) = (((ks.map (Sum.inr : Str → Key)).zip vs).map fun kv => (kV kv.1, kv.2))
  | [], _ => rfl
  | _ :: _, [] => rfl
  | x :: ks, v :: vs => by
    simp only [List.map_cons, List.zip_cons_cons, List.cons.injEq]
    exact ⟨rfl, zip_pairs ks vs⟩
theorem krep_zip {K : PySem.W.Frag} {G : Gh} {H : Hp} : ∀ (ks : List Key) {vs : List V} {ds : List D}, Reps K G H vs ds → KReps K G H (ks.zip vs) (ks.zip ds)
  | [], _, _, _ => .nil
  | _ :: _, _, _, .nil => .nil
  | k :: ks, _, _, .cons r t => .cons r (krep_zip ks t)
theorem end_disp {keys : List (Option Expr)} {vals : List Expr} {ks : List Str} (h : PPs X pos keys vals (trsOf X W ρ ks ms)) (nd : ks.Nodup := by decide) (hm : ks.length = ms.length := by rfl) (hall : keys.all (·.isSome) = true := by rfl) (hl : keys.length = vals.length := by rfl) (h0 : keys ≠ [] := by exact fun z => nomatch z) (h15 : keys.length ≤ 15 := by decide) (hk : ks.length ≤ 15 := by decide) :
    ENd X W ρ (.Dict keys vals pos) (dispM ks ms) :=
  PE.imp (pe_disp h hall hl h0 h15) fun σ H Q ⟨G0, H0, G, S, si, h⟩ => fun p hp => by
    refine pairs_run ks ms σ _ _ hm ⟨G0, H0, G.own p, S, si.allocO hp, ?_⟩
    have f0 : FR G H (G.own p) (upd H p (.dK [])) := .allocO hp
    unfold dispM M.bind at h
    cases q : argsM ms S with
    | err _ _ => rw [q] at h; exact fun cls da G' H' s f r => h cls da G' H' s (f0.trans f) r
    | bad => rw [q] at h; exact h
    | ok ds S1 =>
    rw [q] at h
    intro vs G1 H1 s1 f1 r1
    have hc0 : ¬ (G.own p).cell p := fun c => si.wf.fresh hp (.inl c)
    have hp1 : H1 p = some (.dK []) := f1.keep _ _ upd_same (.inl hc0)
    have hc1 : ¬ G1.cell p := f1.ncell upd_same hc0
    have ho1 : G1.O p := f1.oold _ (.inl rfl)
    have hn0 : H0 p = none := si.fr.free hp
    have vl : vs.length = ds.length := r1.length
    have zl : ((ks.map (Sum.inr : Str → Key)).zip vs).length ≤ 15 := by rw [List.length_zip, List.length_map]; omega
    refine ⟨hp1, (ks.map Sum.inr).zip vs, zip_pairs ks vs, zl, ?_⟩
    have me : mergeK [] ((ks.map (Sum.inr : Str → Key)).zip vs) = (ks.map Sum.inr).zip vs := by
      rw [merge_nd _ [] (fun kv h => nomatch h) ?_, List.nil_append]
      have hs : List.Sublist ((((ks.map (Sum.inr : Str → Key)).zip vs)).map Prod.fst) (ks.map (Sum.inr : Str → Key)) := by
        have key : ∀ (l : List Key) (vs : List V), List.Sublist ((l.zip vs).map Prod.fst) l := fun l => by
          induction l with
          | nil => intro vs; exact List.nil_sublist _
          | cons x l ih =>
            intro vs
            cases vs with
            | nil => exact List.nil_sublist _
            | cons v vs => exact (ih vs).cons₂ x
        exact key _ _
      exact hs.nodup (List.Pairwise.map _ (fun a b h e => h (by cases e; rfl)) nd)
    rw [me]
    have lr : LR G1 H1 G1 (upd H1 p (.dK ((ks.map Sum.inr).zip vs))) := .put hp1 (fun z => z) (.inr ho1)
    exact h p _ G1 _ (s1.putO hp1 (fun z => z) ho1 hc1 hn0 (si.owns hp)) ((f0.trans f1).putO hp) hp upd_same (Nat.le_trans zl (by rw [sizeLine_eq]; decide)) ho1 hc1 ((krep_zip _ r1).lr lr)
/-! ### dict(pairs) -/
def mergeKD (kvs more : List (Key × D)) : List (Key × D) := more.foldl (fun acc kv => putKD acc kv.1 kv.2) kvs
def pairD : D → Option (Key × D)
  | .tup [k, v] => (keyOf k).map fun k => (k, v)
  | _ => none
def pairsD : List D → Option (List (Key × D))
  | [] => some []
  | d :: ds => (pairD d).bind fun p => (pairsD ds).map (p :: ·)
def dictP (d : D) : M (List (Key × D)) := (asLst d).bind fun ds => (ofOpt (pairsD ds)).bind fun kvs => M.pure (mergeKD [] kvs)
theorem pair_ofD {K : PySem.W.Frag} {G : Gh} {H : Hp} {v : V} {d : D} {kv : Key × D} (r : Rep K G H v d) (q : pairD d = some kv) : ∃ a w, v = .ref a ∧ SqT K H a [kV kv.1, w] ∧ Rep K G H w kv.2 := by
  unfold pairD at q
  split at q
  · rename_i k v'
    cases qk : keyOf k with
    | none => rw [qk] at q; cases q
    | some key =>
      rw [qk] at q; cases q
      cases r with
      | tup hs z tt =>
        cases tt with
        | cons rk tt =>
          cases tt with
          | cons rv tt =>
            cases tt
            have ek := key_of rk qk
            subst ek
            exact ⟨_, _, rfl, hs, rv⟩
  · cases q
theorem pairs_ofD {K : PySem.W.Frag} {G : Gh} {H : Hp} : ∀ {xs : List V} {ds : List D} {kvs : List (Key × D)}, Reps K G H xs ds → pairsD ds = some kvs → ∃ (ps : List Addr) (ks : List (Key × V)), xs = ps.map V.ref ∧ Paired (fun p kv => SqT K H p [kV kv.1, kv.2]) ps ks ∧ KReps K G H ks kvs
  | _, _, _, .nil, e => by cases e; exact ⟨[], [], rfl, .nil, .nil⟩
  | _, _, kvs, .cons (d := d) (ds := ds) r t, e => by
    unfold pairsD at e
    cases q : pairD d with
    | none => rw [q] at e; cases e
    | some kv =>
      cases q2 : pairsD ds with
      | none => rw [q, q2] at e; cases e
      | some l =>
        rw [q, q2] at e; cases e
        obtain ⟨ps, ks, e1, e2, e3⟩ := pairs_ofD t q2
        obtain ⟨a, w, ev, hs, rw'⟩ := pair_ofD r q
        subst ev
        exact ⟨a :: ps, (kv.1, w) :: ks, by rw [e1]; rfl, .cons hs e2, .cons rw' e3⟩
theorem KReps.merge {K : PySem.W.Frag} {G : Gh} {H : Hp} : ∀ {more : List (Key × V)} {moreD : List (Key × D)} {ks : List (Key × V)} {kvs : List (Key × D)}, KReps K G H more moreD → KReps K G H ks kvs → KReps K G H (mergeK ks more) (mergeKD kvs moreD)
  | _, _, _, _, .nil, h => h
  | _, _, ks, kvs, .cons (k := k) (v := v) (d := d) r t, h => KReps.merge (ks := putK ks k v) (kvs := putKD kvs k d) t (h.put r)
theorem end_dictP (hd : X.mg "dict" = none) (ha : ED X W ρ e m) (hg : Gl X "dict" := by rfl) (hs : NS1 X e [] := by rfl) (hpl : NS2 X pos [] := by rfl) (hc : X.calm = true := by rfl) : ENd X W ρ (.Call (.Name "dict" p) [e] [] pos) (m.bind dictP) :=
  PE.imp (pe_callTy (call_dictP hc) hg hd (by decide +kernel) (pa_cons ha pa_nil hs) (by decide) (by decide) hs hpl) fun σ H Q ⟨G0, H0, G, S, si, h⟩ => ⟨G0, H0, G, S, si, okND.bind h fun G1 H1 S1 x d s1 f1 r1 h1 => by
    have h2 : ∃ a xs ds, x = .ref a ∧ H1 a = some (.lst xs) ∧ xs.length ≤ sizeLine ∧ Reps X.K G1 H1 xs ds ∧ okND X.K X.mg W G0 H0 G1 H1 σ ρ Q (((ofOpt (pairsD ds)).bind fun kvs => M.pure (mergeKD [] kvs)) S1) := by
      have key : okG X.K X.mg W (fun _ _ a b => a = b) G0 H0 G1 H1 σ ρ (fun ds H' => ds = ds) ((asLst d).bind M.pure S1) ∨ True := .inr trivial
      unfold dictP M.bind at h1
      cases r1 with
      | lst h2 z n t => exact ⟨_, _, _, rfl, h2, z, t, h1⟩
      | ptr e =>
        rename_i a k
        unfold asLst at h1
        cases q : S1.cells[k]? with
        | none => simp only [q] at h1; exact h1.elim
        | some c =>
          have cr := s1.wf.cell k c a q e
          cases c with
          | lst ds =>
            simp only [q] at h1
            obtain ⟨xs, hx, z, t⟩ := cr
            exact ⟨_, xs, ds, rfl, hx, z, t, h1⟩
          | dic _ => simp only [q] at h1; exact h1.elim
          | out => simp only [q] at h1; exact h1.elim
          | ins _ _ => simp only [q] at h1; exact h1.elim
      | _ => exact h1.elim
    obtain ⟨a, xs, ds, rfl, hs, z, t, h2⟩ := h2
    cases q : pairsD ds with
    | none => rw [q] at h2; exact h2.elim
    | some kvs =>
      rw [q] at h2
      obtain ⟨ps, ks, e1, e2, e3⟩ := pairs_ofD t q
      subst e1
      refine ⟨a, ps, ks, rfl, SqL.of hs, e2, fun p hp => okND.new h2 s1 hp ?_ (e3.merge .nil)⟩
      have := length_mergeK ks []
      have l := Paired.length e2
      rw [List.length_map] at z
      simp only [List.length_nil] at this
      omega⟩
end
end Dl
/-! d.update(e); xs.append(x), xs.pop() at pointers -/
namespace Dl
open PySem L2
section
variable {X : Cx} {W : WX} {ρ : List Slot} {a b c e o : Expr} {es : List Expr} {ma mb mc m mo me : M D} {ms : List (M D)} {pos p p1 p2 p3 apos cpos : Pos} {td ty : TE}
/-- d.update(e): d at a pointer, e another dict -/
def isDicP (o : D) : M Unit := fun S => match dicAt S o with
  | some _ => .ok () S
  | none => .bad
def offP (k : Nat) : D → Bool
  | .ptr j => decide (j ≠ k)
  | _ => true
def updP (o d : D) : M D := fun S => match o with
  | .ptr k => match S.cells[k]?, dicAt S d with
    | some (.dic kvs), some more => if (szOk (kvs.length + more.length) && offP k d) = true then .ok .non (S.put k (.dic (mergeKD kvs more))) else .bad
    | _, _ => .bad
  | _ => .bad
def updM (mo me : M D) : M D := mo.bind fun o => (isDicP o).bind fun _ => me.bind fun d => updP o d
/-! ### lists at pointers -/
/-- it is a list -/
def isLstP (d : D) : M Unit := (asLst d).bind fun _ => M.pure ()
theorem isLst_ok {K : PySem.W.Frag} {mg : Str → Option Value} {G0 G : Gh} {H0 H : Hp} {σ : L2.St} {S : MS} {α β : Type} {R : Gh → Hp → β → α → Prop} {Q : β → Hp → Prop} {v : V} {d : D} {f : Unit → M α} (si : SI K mg G0 H0 G H σ ρ S) (r : Rep K G H v d) (h : okG K mg W R G0 H0 G H σ ρ Q ((isLstP d).bind f S)) : tyV K "list" v H ∧ okG K mg W R G0 H0 G H σ ρ Q (f () S) := by
  have h : okG K mg W R G0 H0 G H σ ρ Q ((asLst d).bind (fun _ => f ()) S) := by
    unfold isLstP at h
    rw [bind_bind] at h
    exact h
  obtain ⟨a, xs, ds, rfl, hs, z, t, h⟩ := asLst_ok si r h
  exact ⟨.inl ⟨rfl, xs, SqL.of hs⟩, h⟩
def appP (o d : D) : M D := fun S => match o with
  | .ptr k => match S.cells[k]? with
    | some (.lst ds) => if szLt ds.length = true then .ok .non (S.put k (.lst (ds ++ [d]))) else .bad
    | _ => .bad
  | _ => .bad
def appM (mo me : M D) : M D := mo.bind fun o => (isLstP o).bind fun _ => me.bind fun d => appP o d
theorem ed_appP {ap cp : Pos} (hpe : PE X (.Call (.Attribute o "append" ap) [e] [] cp) (tBM X.K "list" rAppend (tG X.K X.mg W (RD X.K) ρ mo) (tCons (tG X.K X.mg W (RD X.K) ρ me) tNil))) : ED X W ρ (.Call (.Attribute o "append" ap) [e] [] cp) (appM mo me) :=
  PE.imp hpe fun σ H Q ⟨G0, H0, G, S, si, h⟩ => ⟨G0, H0, G, S, si, okG.bind h fun G1 H1 S1 x d s1 f1 r1 h1 => by
    obtain ⟨ty, h1⟩ := isLst_ok s1 r1 h1
    refine ⟨ty, G0, H0, G1, S1, s1, okG.bind h1 fun G2 H2 S2 y d2 s2 f2 r2 h2 => ?_⟩
    have ro := Rep.mono f2 r1
    unfold appP at h2
    cases ro with
    | @ptr a k q =>
      cases qc : S2.cells[k]? with
      | none => simp only [qc] at h2; exact h2.elim
      | some c =>
        cases c with
        | lst ds =>
          simp only [qc] at h2
          split at h2
          · rename_i zz
            obtain ⟨xs, ha, hz, t⟩ := s2.wf.cell k _ a qc q
            have nz := s2.wf.nz _ _ _ qc q (by intro h; cases h)
            have hl : xs.length < sizeLine := by rw [t.length]; exact szLt_of zz
            have lr : LR G2 H2 G2 (upd H2 a (.lst (xs ++ [y]))) := .put ha (fun z => z) (.inl (.inl ⟨List.mem_of_getElem? q, nz⟩))
            have fr : FR G2 H2 G2 (upd H2 a (.lst (xs ++ [y]))) := .putC q ha (fun z => z) nz
            have r2 : Rep X.K G2 H2 y d2 := r2
            refine ⟨a, xs, y, rfl, rfl, ha, hl, h2 .non G2 _ (s2.putC q ha (fun z => z) nz ⟨_, upd_same, ?_, (t.append (.cons r2 .nil)).lr lr⟩) fr .non⟩
            rw [List.length_append, List.length_singleton]; omega
          · exact h2.elim
        | dic _ => simp only [qc] at h2; exact h2.elim
        | ins _ _ => simp only [qc] at h2; exact h2.elim
        | out => simp only [qc] at h2; exact h2.elim
    | _ => exact h2.elim⟩
theorem Reps.dropLast {K : PySem.W.Frag} {G : Gh} {H : Hp} {xs : List V} {ds : List D} (t : Reps K G H xs ds) : Reps K G H xs.dropLast ds.dropLast := by
  rw [List.dropLast_eq_take, List.dropLast_eq_take, t.length]
  exact t.take _
end
end Dl
/-! facts for the head: classes that are asked for, constants, keyword-only parameters, properties -/
namespace Dl
open PySem L2
theorem kitOne_ty {K : PySem.W.Frag} {C : Addr} {T : String} {b : Bool} (h1 : PySem.W.kitMeta T = true) (h2 : PySem.W.subIn K (.ref C) (.type T) = some b) : PySem.W.kitOne K (.ref C) (.type T) = some b := by
  unfold PySem.W.kitOne PySem.W.kitCls
  rw [if_neg (by simp)]
  simp only [h1, if_true]
  exact h2
theorem kitOne_own {K : PySem.W.Frag} {C D : Addr} {b : Bool} (h1 : PySem.W.isClsIn K D = true) (h2 : PySem.W.typeIn K (.ref D) = some (.type "type")) (h3 : PySem.W.subIn K (.ref C) (.ref D) = some b) (hb : (C == D) = true → b = true) : PySem.W.kitOne K (.ref C) (.ref D) = some b := by
  unfold PySem.W.kitOne PySem.W.kitCls
  have h1 : (PySem.W.clsIn K D).isSome = true := h1
  by_cases e : C = D
  · subst e
    rw [if_pos (by simp), hb (by simp)]
  · rw [if_neg (by simpa using e)]
    simp only [h1, h2]
    exact h3
theorem insF_mk {K : PySem.W.Frag} {mg : Str → Option Value} {Ts : List Str} {c : Str} {anc : List Str} {C : Addr} (ci : CI K mg c C) (f1 : PySem.W.findIn K (.ref C) "__class__" = some (some (.builtin "object.__class__"))) (f2 : PySem.W.specialIn K (.builtin "object.__class__") "__get__" = some (some (.builtin "getset_descriptor.__get__")))
    (f3 : PySem.W.takesIn K (.builtin "object.__class__") = some true) (f4 : PySem.W.mroIn K C (.type "object") = some true)
    (s1 : PySem.W.subIn K (.ref C) (.type "bool") = some false) (s2 : PySem.W.subIn K (.ref C) (.type "int") = some false) (s3 : PySem.W.subIn K (.ref C) (.type "str") = some false) (s4 : PySem.W.subIn K (.ref C) (.type "list") = some false) (s5 : PySem.W.subIn K (.ref C) (.type "tuple") = some false) (s6 : PySem.W.subIn K (.ref C) (.type "dict") = some false)
    (hT : ∀ T ∈ Ts, ∃ CT, mg T = some (.ref CT) ∧ PySem.W.kitOne K (.ref C) (.ref CT) = some (anc.contains T)) : InsF K mg Ts c anc :=
  ⟨C, ci.mg, ci.cl, f1, f2, f3, f4, fun t h => by
    cases t with
    | non => exact absurd rfl h
    | bool => exact kitOne_ty (by decide +kernel) s1
    | int => exact kitOne_ty (by decide +kernel) s2
    | str => exact kitOne_ty (by decide +kernel) s3
    | list => exact kitOne_ty (by decide +kernel) s4
    | tuple => exact kitOne_ty (by decide +kernel) s5
    | dict => exact kitOne_ty (by decide +kernel) s6, fun T h CT m => by
    obtain ⟨CT', m', k⟩ := hT T h
    rw [m] at m'; cases m'
    exact k⟩
theorem tgt_nil {K : PySem.W.Frag} {mg : Str → Option Value} {C : Addr} {anc : List Str} : ∀ T ∈ ([] : List Str), ∃ CT, mg T = some (.ref CT) ∧ PySem.W.kitOne K (.ref C) (.ref CT) = some (anc.contains T) := fun _ h => nomatch h
theorem tgt_cons {K : PySem.W.Frag} {mg : Str → Option Value} {C CT : Addr} {anc : List Str} {T : Str} {Ts : List Str} (m : mg T = some (.ref CT)) (k : PySem.W.kitOne K (.ref C) (.ref CT) = some (anc.contains T)) (h : ∀ T ∈ Ts, ∃ CT, mg T = some (.ref CT) ∧ PySem.W.kitOne K (.ref C) (.ref CT) = some (anc.contains T)) : ∀ T' ∈ T :: Ts, ∃ CT, mg T' = some (.ref CT) ∧ PySem.W.kitOne K (.ref C) (.ref CT) = some (anc.contains T') := fun T' h' => by
  rcases List.mem_cons.mp h' with e | h'
  · rw [e]; exact ⟨CT, m, k⟩
  · exact h T' h'
/-! constants -/
theorem co_str {K : PySem.W.Frag} {mg : Str → Option Value} {x s : Str} {t : Nat} (h : mg x = some (.str s t)) : CO K mg x (.str s) := ⟨_, .str s, h, ⟨t, rfl⟩, fun _ _ => .str s⟩
/-! ### a def with keyword-only parameters, some of them passed -/
section
variable {P : Program} {w : World} {K : PySem.W.Frag} {mg : Str → Option Value} {base : Heap} {x qual : Str} {params : Arguments} {body : List Stmt} {scope : Scope} {kws : List (Str × V)} {f : Addr} {fd : FuncData} {ps : List Str}
theorem kbn0 (F : FunD K x qual params body scope [] kws f fd) (n : Nat) (ks : List Str) (ms : List (Str × V)) (g : {α : Type} → List α → List α → List α → List α) (hk : kws ≠ []) (hms : ∀ q ∈ ms, q ∈ kws)
    (hrel : ∀ {vs mz zs : List V} {us mv ws : List Value}, Vals vs us → Vals mz mv → Vals zs ws → Vals (g vs mz zs) (g us mv ws))
    (h : ∀ (D : Addr) (doc pm : Value) (an : Option Addr) (cdv ct : Value) (us mv ws : List Value), us.length = n → mv.length = ms.length → ws.length = ks.length →
      KwChain D ((ms.map (·.1)).zip mv) (bindArgs (PySem.W.fnOf x qual params body scope .none (.ref D) doc pm an cdv ct) ⟨us, ks.zip ws⟩) (ps.zip (g us mv ws))) :
    ∃ mv : List Value, KBn K fd ps n ks (fun us ws => g us mv ws) (fun vs zs => g vs (ms.map (·.2)) zs) := by
  obtain ⟨oc, od, dV, kV, doc, pm, an, cdv, ct, osl, rfl, lk, hcd, hD, hK⟩ := F.ex
  rcases hD with ⟨_, rfl⟩ | ⟨e, _⟩
  · rcases hK with e | ⟨D, rfl, hq⟩
    · exact absurd e hk
    · obtain ⟨mv, hl, rk, hks⟩ := kwd_vals (ms := ms) fun q hm => hq q (hms q hm)
      exact ⟨mv, ⟨fun s us ws X l1 l2 => BindsTo.of_looks fun M => KwChain.looks X hks (h D doc pm an cdv ct us mv ws l1 hl l2), fun r1 r2 => hrel r1 rk r2⟩⟩
  · exact absurd rfl e
end
end Dl
/-! calls with keywords: the order of what is passed; {} as a value -/
namespace Dl
open PySem L2
/-- a parameter: passed by position, by keyword, or left out -/
inductive Arg where
  | pos (i : Nat) | kw (i : Nat) | dfl (i : Nat)
def permG {α : Type} (as : List Arg) (vs ms zs : List α) : List α := as.filterMap fun a => match a with
  | .pos i => vs[i]?
  | .kw i => zs[i]?
  | .dfl i => ms[i]?
def argOk (n m k : Nat) : Arg → Bool
  | .pos i => decide (i < n)
  | .kw i => decide (i < k)
  | .dfl i => decide (i < m)
theorem permG_len {α : Type} {vs ms zs : List α} : ∀ {as : List Arg}, as.all (argOk vs.length ms.length zs.length) = true → (permG as vs ms zs).length = as.length
  | [], _ => rfl
  | a :: as, h => by
    rw [List.all_cons, Bool.and_eq_true] at h
    have ih := permG_len (vs := vs) (ms := ms) (zs := zs) h.2
    unfold permG at *
    cases a with
    | pos i =>
      have hi : i < vs.length := of_decide_eq_true h.1
      rw [List.filterMap_cons_some (b := vs[i]) (by simp [hi]), List.length_cons, List.length_cons, ih]
    | kw i =>
      have hi : i < zs.length := of_decide_eq_true h.1
      rw [List.filterMap_cons_some (b := zs[i]) (by simp [hi]), List.length_cons, List.length_cons, ih]
    | dfl i =>
      have hi : i < ms.length := of_decide_eq_true h.1
      rw [List.filterMap_cons_some (b := ms[i]) (by simp [hi]), List.length_cons, List.length_cons, ih]
theorem vals_get {vs : List V} {us : List Value} (r : Vals vs us) (i : Nat) : (vs[i]? = none ∧ us[i]? = none) ∨ ∃ v u, vs[i]? = some v ∧ us[i]? = some u ∧ RelV v u := by
  cases q : vs[i]? with
  | none => exact .inl ⟨rfl, by rw [List.getElem?_eq_none_iff] at q ⊢; rw [← r.length]; exact q⟩
  | some v =>
    obtain ⟨u, h1, h2⟩ := r.get q
    exact .inr ⟨v, u, rfl, h1, h2⟩
theorem permG_vals {as : List Arg} : ∀ {vs mz zs : List V} {us mv ws : List Value}, Vals vs us → Vals mz mv → Vals zs ws → Vals (permG as vs mz zs) (permG as us mv ws) := by
  intro vs mz zs us mv ws r1 r2 r3
  unfold permG
  induction as with
  | nil => exact .nil
  | cons a as ih =>
    cases a with
    | pos i =>
      rcases vals_get r1 i with ⟨e1, e2⟩ | ⟨v, u, e1, e2, r⟩
      · simp only [List.filterMap_cons, e1, e2]; exact ih
      · simp only [List.filterMap_cons, e1, e2]; exact .cons r ih
    | kw i =>
      rcases vals_get r3 i with ⟨e1, e2⟩ | ⟨v, u, e1, e2, r⟩
      · simp only [List.filterMap_cons, e1, e2]; exact ih
      · simp only [List.filterMap_cons, e1, e2]; exact .cons r ih
    | dfl i =>
      rcases vals_get r2 i with ⟨e1, e2⟩ | ⟨v, u, e1, e2, r⟩
      · simp only [List.filterMap_cons, e1, e2]; exact ih
      · simp only [List.filterMap_cons, e1, e2]; exact .cons r ih
section
variable {K : PySem.W.Frag} {G : Gh} {H : Hp}
theorem reps_at {vs : List V} {ds : List D} (r : Reps K G H vs ds) (i : Nat) : (vs[i]? = none ∧ ds[i]? = none) ∨ ∃ v d, vs[i]? = some v ∧ ds[i]? = some d ∧ Rep K G H v d := by
  cases q : vs[i]? with
  | none => exact .inl ⟨rfl, by rw [List.getElem?_eq_none_iff] at q ⊢; rw [← r.length]; exact q⟩
  | some v =>
    obtain ⟨d, h1, h2⟩ := r.getV q
    exact .inr ⟨v, d, rfl, h1, h2⟩
theorem permG_reps {as : List Arg} {vs mz zs : List V} {ds ms es : List D} (r1 : Reps K G H vs ds) (r2 : Reps K G H mz ms) (r3 : Reps K G H zs es) : Reps K G H (permG as vs mz zs) (permG as ds ms es) := by
  unfold permG
  induction as with
  | nil => exact .nil
  | cons a as ih =>
    cases a with
    | pos i =>
      rcases reps_at r1 i with ⟨e1, e2⟩ | ⟨v, u, e1, e2, r⟩
      · simp only [List.filterMap_cons, e1, e2]; exact ih
      · simp only [List.filterMap_cons, e1, e2]; exact .cons r ih
    | kw i =>
      rcases reps_at r3 i with ⟨e1, e2⟩ | ⟨v, u, e1, e2, r⟩
      · simp only [List.filterMap_cons, e1, e2]; exact ih
      · simp only [List.filterMap_cons, e1, e2]; exact .cons r ih
    | dfl i =>
      rcases reps_at r2 i with ⟨e1, e2⟩ | ⟨v, u, e1, e2, r⟩
      · simp only [List.filterMap_cons, e1, e2]; exact ih
      · simp only [List.filterMap_cons, e1, e2]; exact .cons r ih
end
/-- defaults as values and as data -/
inductive FlatR : List V → List D → Prop
  | nil : FlatR [] []
  | non {vs : List V} {ds : List D} : FlatR vs ds → FlatR (.non :: vs) (.non :: ds)
  | str {x : Str} {vs : List V} {ds : List D} : FlatR vs ds → FlatR (.str x :: vs) (.str x :: ds)
  | int {x : Int} {vs : List V} {ds : List D} : FlatR vs ds → FlatR (.int x :: vs) (.int x :: ds)
theorem FlatR.reps {K : PySem.W.Frag} {G : Gh} {H : Hp} : ∀ {vs : List V} {ds : List D}, FlatR vs ds → Reps K G H vs ds
  | _, _, .nil => .nil
  | _, _, .non t => .cons .non t.reps
  | _, _, .str t => .cons (.str _) t.reps
  | _, _, .int t => .cons (.int _) t.reps
/-- a def with keyword-only parameters, called so -/
theorem fki_mk {P : Program} {w : World} {K : PySem.W.Frag} {mg : Str → Option Value} {base : Heap} {x qual : Str} {params : Arguments} {body : List Stmt} {scope : Scope} {kws : List (Str × V)} {f : Addr} {fd : FuncData} {ps : List Str} {k n : Nat} {ks : List Str} {g : List D → M D} {as : List Arg} {ms : List D} (lack : List (Str × V))
    (F : FunD K x qual params body scope [] kws f fd) (hm : mg x = some (.ref f)) (ok : FnOk P w K mg base (L2.CX P w) k f fd ps (spD K mg ps.length g)) (hk : kws ≠ []) (hl : ∀ q ∈ lack, q ∈ kws) (fl : FlatR (lack.map (·.2)) ms) (ha : as.all (argOk n lack.length ks.length) = true) (hp : as.length = ps.length)
    (h : ∀ (D : Addr) (doc pm : Value) (an : Option Addr) (cdv ct : Value) (us mv ws : List Value), us.length = n → mv.length = lack.length → ws.length = ks.length →
      KwChain D ((lack.map (·.1)).zip mv) (bindArgs (PySem.W.fnOf x qual params body scope .none (.ref D) doc pm an cdv ct) ⟨us, ks.zip ws⟩) (ps.zip (permG as us mv ws))) :
    FKI P w K mg base x ps k g n ks (fun ds zs => permG as ds ms zs) := by
  obtain ⟨mv, kb⟩ := kbn0 F n ks lack (fun us mv ws => permG as us mv ws) hk hl (fun r1 r2 r3 => permG_vals r1 r2 r3) h
  have ml : ms.length = lack.length := by
    have := (fl.reps (K := K) (G := ⟨[], 0, 0, fun _ => False, fun _ => False, mg⟩) (H := fun _ => none)).length
    rw [List.length_map] at this; exact this.symm
  refine ⟨f, fd, _, _, hm, F.kp, ok, kb, fun G H vs ds zs es r1 r2 l1 l2 => ⟨?_, permG_reps r1 fl.reps r2⟩⟩
  rw [permG_len (by rw [l1, l2, ml]; exact ha), hp]
end Dl
/-! in, as a test; str(n) -/
namespace Dl
open PySem L2
section
variable {X : Cx} {W : WX} {ρ : List Slot} {a b e o i : Expr} {ma mb mo mi : M D} {pos p p2 : Pos} {k : Nat}
theorem tst_ok {σ : L2.St} {H : Hp} {Q : Bool → Hp → Prop} {m : M D} (h : tG X.K X.mg W RB ρ (tst m) σ H Q) : tG X.K X.mg W (RD X.K) ρ m σ H fun x H' => ∃ k, x = .bl k ∧ Q k H' := by
  obtain ⟨G0, H0, G, S, si, h⟩ := h
  exact ⟨G0, H0, G, S, si, okG.bind h fun G1 H1 S1 x d s1 f1 r1 h1 => by
    cases r1 with
    | bl k => exact ⟨k, rfl, okG.here h1 s1 rfl⟩
    | _ => exact h1.elim⟩
theorem et_dnotin (hr : Room k X.A) (hi : ED X W ρ i mi) (ho : ED X W ρ o mo) (hm : behindInMarks .NotIn o = false := by rfl) : ET X W ρ (.Compare i [.NotIn] [o] pos) (tst (bin (dInK true) mi mo)) :=
  PT.imp (pt_cmp (pc_dnotin (by have := hr.units; omega) hi ho) hm) fun σ H Q h => by
    obtain ⟨G0, H0, G, S, si, h⟩ := tst_ok h
    refine ⟨G0, H0, G, S, si, okG.bind h fun G1 H1 S1 x d s1 f1 r1 h1 => ⟨G0, H0, G1, S1, s1, okG.bind h1 fun G2 H2 S2 y e s2 f2 r2 h2 => ?_⟩⟩
    obtain ⟨a, w, ex, g, k, ek, q⟩ := dinK_ok s2 (r1.mono f2) r2 h2
    cases ek
    exact ⟨a, w, ex, g, _, rfl, q⟩
theorem et_inO {x : Str} {ds : List D} {np : Pos} (i : Nat) (ha : ED X W ρ a ma) (hρ : ρ[i]? = some (.own ds) := by rfl) (hN : X.N[i]? = some x := by rfl) (hv : Vis X.env.scope x := by first | exact Or.inl rfl | exact Or.inr (Or.inl rfl) | exact Or.inr (Or.inr rfl))
    (hd : (x == ("__debug__" : Str)) = false := by decide) (hcd : (x == ("__classdict__" : Str)) = false := by decide) (hm : behindInMarks .In (.Name x np) = false := by rfl) : ET X W ρ (.Compare a [.In] [.Name x np] pos) (tst (bin (dIn false) ma (M.pure (.lst ds)))) :=
  PT.imp (pt_cmpR op_in_seq ha (pv i hN hv hd hcd) hm) fun σ H Q h => by
    obtain ⟨G0, H0, G, S, si, h⟩ := tst_ok h
    refine ⟨G0, H0, G, S, si, okG.bind h fun G1 H1 S1 y d s1 f1 r1 h1 => ?_⟩
    obtain ⟨l, xs, e, hl, z, t, ho, hc, h0⟩ := s1.env i _ hρ
    have h1 : okG X.K X.mg W (RD X.K) G0 H0 G1 H1 σ ρ (fun x H' => ∃ k, x = V.bl k ∧ Q k H') (guard (d.thin && ds.all D.thin) (M.pure (.bl (inD d ds))) S1) := by cases d <;> exact h1
    obtain ⟨q, h1⟩ := okG.guard h1
    obtain ⟨q1, q2⟩ := Bool.and_eq_true_iff.mp q
    obtain ⟨k, ek, qk⟩ := okG.here h1 s1 (.bl _)
    cases ek
    refine ⟨_, e, l, xs, rfl, .inl (SqL.of hl), thin_flat r1 q1, thin_all t q2, _, rfl, ?_⟩
    simp only [Bool.false_eq_true, if_false]
    rw [thin_in r1 q1 t q2]
    exact qk
end
/-! keyword defaults of a def -/
theorem kwq_nil {K : PySem.W.Frag} {D : Addr} : ∀ q ∈ ([] : List (Str × V)), ∃ u, PySem.W.nsIn K D q.1 = some (some u) ∧ RelV q.2 u := fun _ h => nomatch h
theorem kwq_cons {K : PySem.W.Frag} {D : Addr} {x : Str} {v : V} {u : Value} {kws : List (Str × V)} (h : PySem.W.nsIn K D x = some (some u)) (r : RelV v u) (t : ∀ q ∈ kws, ∃ u, PySem.W.nsIn K D q.1 = some (some u) ∧ RelV q.2 u) : ∀ q ∈ (x, v) :: kws, ∃ u, PySem.W.nsIn K D q.1 = some (some u) ∧ RelV q.2 u := fun q hq => by
  rcases List.mem_cons.mp hq with e | hq
  · rw [e]; exact ⟨u, h, r⟩
  · exact t q hq
theorem funD_mk {K : PySem.W.Frag} {x qual : Str} {st : Stmt} {oc : Value} {od : Option Addr} {D f : Addr} {doc pm : Value} {an : Option Addr} {cdv ct : Value} {osl : Array (Option Value)} {kws : List (Str × V)} (l : K.lookup f = some ⟨oc, od, .func (PySem.W.fnOf x qual (defArgs st) (defBody st) (defScope st) .none (.ref D) doc pm an cdv ct), osl⟩) (c : PySem.W.codeIn K cdv qual = true) (k : PySem.W.keepIn K (.ref f) = true)
    (h : ∀ q ∈ kws, ∃ u, PySem.W.nsIn K D q.1 = some (some u) ∧ RelV q.2 u) : FunD K x qual (defArgs st) (defBody st) (defScope st) [] kws f (PySem.W.fnOf x qual (defArgs st) (defBody st) (defScope st) .none (.ref D) doc pm an cdv ct) :=
  ⟨⟨oc, od, .none, .ref D, doc, pm, an, cdv, ct, osl, rfl, l, c, .inl ⟨rfl, rfl⟩, .inr ⟨D, rfl, h⟩⟩, k⟩
end Dl
/-! unpacking into targets of any form -/
namespace Dl
open PySem L2
section
variable {X : Cx} {C L : Type} {k : Ct C L} {ρ : List Slot} {m : M D} {rest : List Stmt} {st : Stmt}
theorem sd_at (ρ : List Slot) {sts : List Stmt} {mm : M (Fl C L)} (h : SD X k ρ sts mm) : SD X k ρ sts mm := h
theorem sd_unpT (t : Tg) {f : List D → M (Fl C L)} (w : Wk ρ k.x) (hps : PS X st (tAsg (tG X.K X.mg k.W (RD X.K) ρ m) (t.g X.K))) (hr : ∀ ds, SD X k (slN t.ix ρ ds) rest (f ds)) :
    SD X k ρ (st :: rest) (m.bind (unT t f)) := by
  let u : TS := fun D σ H => ∃ ds, tS X.K X.mg k (slN t.ix ρ ds) (f ds) D σ H
  have hu : PSs X rest u := ⟨fun pins s σ H D I ⟨ds, q⟩ => (hr ds).run pins s σ H D I q⟩
  refine PSs.imp (pss_cons hps hu) fun D σ H ⟨G0, H0, G, S, si, h⟩ => ⟨G0, H0, G, S, si, okS.bind h w fun G1 H1 S1 v d s1 r1 h1 => ?_⟩
  unfold unT unM at h1
  cases q : t.u d with
  | none => rw [q] at h1; exact h1.elim
  | some us =>
    rw [q] at h1
    exact tg_ok t G0 H0 G1 H1 σ ρ S1 v d us _ s1 r1 q fun σ3 s3 _ => ⟨us, G0, H0, G1, S1, s3, h1⟩
end
end Dl
/-! several values at once, shape by shape -/
namespace Dl
open PySem L2
section
variable {X : Cx} {C L : Type} {k : Ct C L} {ρ : List Slot} {rest : List Stmt} {st : Stmt}
theorem sd_par_ov (i j : Nat) {ma : M (List D)} {mb : M D} {f : List D → D → M (Fl C L)} (w : Wk ρ k.x) (hps : PS X st (tPar i j (tM X.K X.mg k.W ρ (argsX [.o ma, .v mb])))) (hr : ∀ (a : List D) (b : D), SD X k ((ρ.set i (.own a)).set j (.val b)) rest (f a b)) (hi : (decide (i < ρ.length) && decide (j < ρ.length)) = true := by rfl) :
    SD X k ρ (st :: rest) (ma.bind fun a => mb.bind fun b => f a b) :=
  sd_parX2 i j [true, false] (ms := [.o ma, .v mb]) (f := f) w hps (fun a b => hr a b) hi
theorem sd_par_vvo (i j l : Nat) {ma : M D} {mb : M D} {mc : M (List D)} {f : D → D → List D → M (Fl C L)} (w : Wk ρ k.x) (hps : PS X st (tPar3 i j l (tM X.K X.mg k.W ρ (argsX [.v ma, .v mb, .o mc])))) (hr : ∀ (a : D) (b : D) (c : List D), SD X k (((ρ.set i (.val a)).set j (.val b)).set l (.own c)) rest (f a b c)) (hi : (decide (i < ρ.length) && decide (j < ρ.length) && decide (l < ρ.length)) = true := by rfl) :
    SD X k ρ (st :: rest) (ma.bind fun a => mb.bind fun b => mc.bind fun c => f a b c) :=
  sd_parX3 i j l [false, false, true] (ms := [.v ma, .v mb, .o mc]) (f := f) w hps (fun a b c => hr a b c) hi
end
theorem tgt_consB {K : PySem.W.Frag} {mg : Str → Option Value} {C CT : Addr} {anc : List Str} {T : Str} {Ts : List Str} {b : Bool} (hc : anc.contains T = b) (m : mg T = some (.ref CT)) (k : PySem.W.kitOne K (.ref C) (.ref CT) = some b) (h : ∀ T ∈ Ts, ∃ CT, mg T = some (.ref CT) ∧ PySem.W.kitOne K (.ref C) (.ref CT) = some (anc.contains T)) : ∀ T' ∈ T :: Ts, ∃ CT, mg T' = some (.ref CT) ∧ PySem.W.kitOne K (.ref C) (.ref CT) = some (anc.contains T') := tgt_cons m (by rw [hc]; exact k) h
end Dl
/-! what computations come to at a state: equations -/
namespace Dl
open PySem L2
def Res.andThen {α β : Type} (r : Res α) (f : α → MS → Res β) : Res β := match r with
  | .ok a S => f a S
  | .err e S => .err e S
  | .bad => .bad
section
variable {α β C L J : Type} {S S' : MS}
@[simp] theorem at_ok {a : α} {f : α → MS → Res β} : (Res.ok a S).andThen f = f a S := rfl
@[simp] theorem at_err {e : Err} {f : α → MS → Res β} : (Res.err e S).andThen f = .err e S := rfl
@[simp] theorem at_bad {f : α → MS → Res β} : (Res.bad : Res α).andThen f = .bad := rfl
@[simp] theorem at_ite {b : Prop} [Decidable b] {r s : Res α} {f : α → MS → Res β} : (if b then r else s).andThen f = if b then r.andThen f else s.andThen f := by split <;> rfl
@[simp] theorem ev_pure {a : α} : (M.pure a : M α) S = .ok a S := rfl
@[simp] theorem ev_raise {e : Err} : (M.raise e : M α) S = .err e S := rfl
@[simp] theorem ev_bad : (M.bad : M α) S = .bad := rfl
@[simp] theorem ev_bind {m : M α} {f : α → M β} : M.bind m f S = (m S).andThen fun a S1 => f a S1 := by unfold M.bind Res.andThen; cases m S <;> rfl
@[simp] theorem ev_ite {b : Prop} [Decidable b] {m n : M α} : (if b then m else n) S = if b then m S else n S := by split <;> rfl
@[simp] theorem ev_bin {f : D → D → M D} {a b : M D} : bin f a b S = (a S).andThen fun x S1 => (b S1).andThen fun y S2 => f x y S2 := by simp [bin]
@[simp] theorem ev_una {f : D → M D} {a : M D} : una f a S = (a S).andThen fun x S1 => f x S1 := by simp [una]
@[simp] theorem ev_args0 : argsM [] S = .ok [] S := rfl
@[simp] theorem ev_args1 {m : M D} {ms : List (M D)} : argsM (m :: ms) S = (m S).andThen fun d S1 => (argsM ms S1).andThen fun ds S2 => .ok (d :: ds) S2 := by simp [argsM]
@[simp] theorem ev_call {f : List D → M D} {ms : List (M D)} : callM f ms S = (argsM ms S).andThen fun ds S1 => f ds S1 := by simp [callM]
@[simp] theorem ev_kcall {g : List D → M D} {perm : List D → List D → List D} {ms kms : List (M D)} : kcallM g perm ms kms S = (argsM ms S).andThen fun ds S1 => (argsM kms S1).andThen fun zs S2 => g (perm ds zs) S2 := by simp [kcallM]
@[simp] theorem ev_guard {b : Bool} {m : M D} : guard b m S = if b = true then m S else .bad := by unfold guard; split <;> rfl
@[simp] theorem ev_gd {b : Bool} {m : M α} : gd b m S = if b = true then m S else .bad := by unfold gd; split <;> rfl
@[simp] theorem ev_tup {ms : List (M D)} : tupM ms S = (argsM ms S).andThen fun ds S1 => if szOk ds.length = true then .ok (.tup ds) S1 else .bad := by simp [tupM]
@[simp] theorem ev_lst {ms : List (M D)} : lstM ms S = (argsM ms S).andThen fun ds S1 => if szOk ds.length = true then .ok ds S1 else .bad := by simp [lstM]
@[simp] theorem ev_frz {m : M (List D)} : frz m S = (m S).andThen fun ds S1 => .ok (.lst ds) S1 := by simp [frz]
@[simp] theorem ev_tst {m : M D} : tst m S = (m S).andThen fun d S1 => asB d S1 := by simp [tst]
@[simp] theorem asB_bl {b : Bool} : asB (.bl b) = M.pure b := rfl
@[simp] theorem ev_ofB {m : M Bool} : ofB m S = (m S).andThen fun b S1 => .ok (.bl b) S1 := by simp [ofB]
@[simp] theorem ev_andT {a b : M Bool} : andT a b S = (a S).andThen fun x S1 => if x = true then b S1 else .ok false S1 := by simp [andT]
@[simp] theorem ev_orT {a b : M Bool} : orT a b S = (a S).andThen fun x S1 => if x = true then .ok true S1 else b S1 := by simp [orT]
@[simp] theorem ev_notT {a : M Bool} : notT a S = (a S).andThen fun x S1 => .ok (!x) S1 := by simp [notT]
@[simp] theorem ev_ifM {t : M Bool} {a b : M α} : ifM t a b S = (t S).andThen fun x S1 => if x = true then a S1 else b S1 := by simp [ifM]
@[simp] theorem ev_andV {a b : M D} : andV a b S = (a S).andThen fun x S1 => (asB x S1).andThen fun c S2 => if c = true then b S2 else .ok (.bl false) S2 := by simp [andV]
@[simp] theorem ev_orV {a b : M D} : orV a b S = (a S).andThen fun x S1 => (asB x S1).andThen fun c S2 => if c = true then .ok (.bl true) S2 else b S2 := by simp [orV]
@[simp] theorem ev_notV {a : M D} : notV a S = (a S).andThen fun x S1 => (asB x S1).andThen fun c S2 => .ok (.bl (!c)) S2 := by simp [notV]
@[simp] theorem ev_ret {m : M D} : (retM m : M (Fl C L)) S = (m S).andThen fun d S1 => .ok (.ret d) S1 := by simp [retM]
/-- how a block ends, handed on -/
def Fl.goR {L C : Type} : Fl Empty L → MS → Res (Fl C L)
  | .ret d, S => .ok (.ret d) S
  | .brk l, S => .ok (.brk l) S
  | .cnt l, S => .ok (.cnt l) S
  | .nx c, _ => c.elim
@[simp] theorem goR_ret {d : D} : (Fl.goR (.ret d : Fl Empty L) S : Res (Fl C L)) = .ok (.ret d) S := rfl
@[simp] theorem goR_brk {d : L} : (Fl.goR (.brk d : Fl Empty L) S : Res (Fl C L)) = .ok (.brk d) S := rfl
@[simp] theorem goR_cnt {d : L} : (Fl.goR (.cnt d : Fl Empty L) S : Res (Fl C L)) = .ok (.cnt d) S := rfl
@[simp] theorem ev_out {m : M (Fl Empty L)} : (outM m : M (Fl C L)) S = (m S).andThen Fl.goR := by
  unfold outM
  rw [ev_bind]
  cases m S with
  | ok z S1 => cases z <;> first | rfl | (rename_i c; exact c.elim)
  | err _ _ => rfl
  | bad => rfl
def Fl.thR {J L C : Type} (f : J → M (Fl C L)) : Fl J L → MS → Res (Fl C L)
  | .nx c, S => f c S
  | .ret d, S => .ok (.ret d) S
  | .brk l, S => .ok (.brk l) S
  | .cnt l, S => .ok (.cnt l) S
@[simp] theorem thR_nx {f : J → M (Fl C L)} {c : J} : Fl.thR f (.nx c) S = f c S := rfl
@[simp] theorem thR_ret {f : J → M (Fl C L)} {d : D} : Fl.thR f (.ret d) S = .ok (.ret d) S := rfl
@[simp] theorem thR_brk {f : J → M (Fl C L)} {d : L} : Fl.thR f (.brk d) S = .ok (.brk d) S := rfl
@[simp] theorem thR_cnt {f : J → M (Fl C L)} {d : L} : Fl.thR f (.cnt d) S = .ok (.cnt d) S := rfl
@[simp] theorem ev_then {m : M (Fl J L)} {f : J → M (Fl C L)} : thenM m f S = (m S).andThen (Fl.thR f) := by
  unfold thenM
  rw [ev_bind]
  cases m S with
  | ok z S1 => cases z <;> rfl
  | err _ _ => rfl
  | bad => rfl
def Fl.fnR : Fl Unit Empty → MS → Res D
  | .nx _, S => .ok .non S
  | .ret d, S => .ok d S
  | .brk l, _ => l.elim
  | .cnt l, _ => l.elim
@[simp] theorem fnR_nx {u : Unit} : Fl.fnR (.nx u) S = .ok .non S := rfl
@[simp] theorem fnR_ret {d : D} : Fl.fnR (.ret d) S = .ok d S := rfl
@[simp] theorem ev_fin {m : M (Fl Unit Empty)} : finM m S = (m S).andThen Fl.fnR := by
  unfold finM
  rw [ev_bind]
  cases m S with
  | ok z S1 => cases z <;> first | rfl | (rename_i c; exact c.elim)
  | err _ _ => rfl
  | bad => rfl
@[simp] theorem ev_ar1 {f : D → M D} {a : D} : ar1 f [a] = f a := rfl
@[simp] theorem ev_ar2 {f : D → D → M D} {a b : D} : ar2 f [a, b] = f a b := rfl
@[simp] theorem ev_ar3 {f : D → D → D → M D} {a b c : D} : ar3 f [a, b, c] = f a b c := rfl
@[simp] theorem ev_ar4 {f : D → D → D → D → M D} {a b c d : D} : ar4 f [a, b, c, d] = f a b c d := rfl
@[simp] theorem ev_ar5 {f : D → D → D → D → D → M D} {a b c d e : D} : ar5 f [a, b, c, d, e] = f a b c d e := rfl
@[simp] theorem ev_ar6 {f : D → D → D → D → D → D → M D} {a b c d e g : D} : ar6 f [a, b, c, d, e, g] = f a b c d e g := rfl
@[simp] theorem ev_on1 {f : D → M α} {a : D} : on1 f [a] = f a := rfl
@[simp] theorem ev_on2 {f : D → D → M α} {a b : D} : on2 f [a, b] = f a b := rfl
@[simp] theorem ev_on3 {f : D → D → D → M α} {a b c : D} : on3 f [a, b, c] = f a b c := rfl
@[simp] theorem ev_on4 {f : D → D → D → D → M α} {a b c d : D} : on4 f [a, b, c, d] = f a b c d := rfl
@[simp] theorem ev_un2 {f : D → D → M α} {a b : D} : un2 f (.tup [a, b]) = f a b := rfl
@[simp] theorem ev_un3 {f : D → D → D → M α} {a b c : D} : un3 f (.tup [a, b, c]) = f a b c := rfl
@[simp] theorem ev_unN {i : Nat} {f : List D → M α} {d : D} : unT (.nm i) f d = f [d] := rfl
@[simp] theorem ev_unT2 {i j : Nat} {f : List D → M α} {a b : D} : unT (.tp [.nm i, .nm j]) f (.tup [a, b]) = f [a, b] := rfl
@[simp] theorem ev_unT3 {i j l : Nat} {f : List D → M α} {a b c : D} : unT (.tp [.nm i, .nm j, .nm l]) f (.tup [a, b, c]) = f [a, b, c] := rfl
@[simp] theorem ev_unT4 {i j l q : Nat} {f : List D → M α} {a b c d : D} : unT (.tp [.nm i, .nm j, .nm l, .nm q]) f (.tup [a, b, c, d]) = f [a, b, c, d] := rfl
@[simp] theorem ev_unT31 {i j l q : Nat} {f : List D → M α} {a b c d : D} : unT (.tp [.tp [.nm i, .nm j, .nm l], .nm q]) f (.tup [.tup [a, b, c], d]) = f [a, b, c, d] := rfl
@[simp] theorem ev_mapX {mi : M (List D)} {f : D → M D} : mapX mi f S = (mi S).andThen fun ds S1 => if szOk ds.length = true then mapXC f ds S1 else .bad := by simp [mapX]
@[simp] theorem ev_filX {mi : M (List D)} {t : D → M Bool} {f : D → M D} : filX mi t f S = (mi S).andThen fun ds S1 => if szOk ds.length = true then filXC t f ds S1 else .bad := by simp [filX]
@[simp] theorem ev_map0 {f : D → M D} : mapXC f [] S = .ok [] S := rfl
@[simp] theorem ev_map1 {f : D → M D} {d : D} {ds : List D} : mapXC f (d :: ds) S = (f d S).andThen fun x S1 => (mapXC f ds S1).andThen fun r S2 => .ok (x :: r) S2 := by simp [mapXC]
@[simp] theorem ev_fil0 {t : D → M Bool} {f : D → M D} : filXC t f [] S = .ok [] S := rfl
@[simp] theorem ev_fil1 {t : D → M Bool} {f : D → M D} {d : D} {ds : List D} : filXC t f (d :: ds) S = (t d S).andThen fun b S1 => if b = true then (f d S1).andThen fun x S2 => (filXC t f ds S2).andThen fun r S3 => .ok (x :: r) S3 else filXC t f ds S1 := by simp [filXC]
@[simp] theorem ev_meth {cn mn : Str} {g : List D → M D} {mo : M D} {ms : List (M D)} : methM cn mn g mo ms S = (mo S).andThen fun o S1 => (isA cn mn o S1).andThen fun _ S2 => (argsM ms S2).andThen fun ds S3 => g (o :: ds) S3 := by simp [methM]
@[simp] theorem ev_calm {m : M α} {a : α} (h : m S = .ok a S') : calmM m S = .ok a S' := by unfold calmM; rw [h]
@[simp] theorem ev_opt {a : α} : ofOpt (some a) = M.pure a := rfl
@[simp] theorem ev_slice {m : M D} {lo hi : M (Option Int)} : sliceM m lo hi S = (m S).andThen fun d S1 => (lo S1).andThen fun l S2 => (hi S2).andThen fun u S3 => dCut d l u S3 := by simp [sliceM]
@[simp] theorem ev_part0 : partM none S = .ok none S := rfl
def partI : D → M (Option Int)
  | .int i => M.pure (some i)
  | _ => M.bad
@[simp] theorem partI_int {i : Int} : partI (.int i) = M.pure (some i) := rfl
@[simp] theorem ev_part1 {m : M D} : partM (some m) S = (m S).andThen fun d S1 => partI d S1 := by
  rw [partM, ev_bind]; rfl
@[simp] theorem ev_disp {ks : List Str} {ms : List (M D)} : dispM ks ms S = (argsM ms S).andThen fun ds S1 => .ok ((ks.map Sum.inr).zip ds) S1 := by simp [dispM]
@[simp] theorem ev_frzD {m : M (List (Key × D))} : frzD m S = (m S).andThen fun kvs S1 => .ok (.dic (kvs.map Prod.fst) (kvs.map Prod.snd)) S1 := by simp [frzD]
def repI (ds : List D) : D → M (List D)
  | .int k => gd (decide (-(2 ^ 63) ≤ k) && decide (k < 2 ^ 63) && szOk (ds.length * k.toNat)) (M.pure (List.replicate k.toNat ds).flatten)
  | _ => M.bad
@[simp] theorem repI_int {ds : List D} {k : Int} : repI ds (.int k) = gd (decide (-(2 ^ 63) ≤ k) && decide (k < 2 ^ 63) && szOk (ds.length * k.toNat)) (M.pure (List.replicate k.toNat ds).flatten) := rfl
@[simp] theorem ev_rep {a : M (List D)} {b : M D} : repM a b S = (a S).andThen fun ds S1 => (b S1).andThen fun k S2 => repI ds k S2 := by
  rw [repM, ev_bind]; congr
@[simp] theorem ev_chain {f g : D → D → M D} {a b c : M D} : chainM f g a b c S = (a S).andThen fun x S1 => (b S1).andThen fun y S2 => (f x y S2).andThen fun z S3 => (asB z S3).andThen fun k S4 => if k = true then (c S4).andThen fun w S5 => g y w S5 else .ok (.bl false) S4 := by simp [chainM]
/-! loops -/
@[simp] theorem ev_for0 {body : C → D → M (Fl C C)} {c : C} : (Dl.forM body [] c : M (Fl C L)) S = .ok (.nx c) S := rfl
def Fl.foR {C L : Type} (body : C → D → M (Fl C C)) (ds : List D) : Fl C C → MS → Res (Fl C L)
  | .nx c, S => Dl.forM body ds c S
  | .cnt c, S => Dl.forM body ds c S
  | .brk c, S => .ok (.nx c) S
  | .ret v, S => .ok (.ret v) S
@[simp] theorem foR_nx {body : C → D → M (Fl C C)} {ds : List D} {c : C} : (Fl.foR body ds (.nx c) S : Res (Fl C L)) = Dl.forM body ds c S := rfl
@[simp] theorem foR_cnt {body : C → D → M (Fl C C)} {ds : List D} {c : C} : (Fl.foR body ds (.cnt c) S : Res (Fl C L)) = Dl.forM body ds c S := rfl
@[simp] theorem foR_brk {body : C → D → M (Fl C C)} {ds : List D} {c : C} : (Fl.foR body ds (.brk c) S : Res (Fl C L)) = .ok (.nx c) S := rfl
@[simp] theorem foR_ret {body : C → D → M (Fl C C)} {ds : List D} {v : D} : (Fl.foR body ds (.ret v) S : Res (Fl C L)) = .ok (.ret v) S := rfl
theorem ev_for1 {body : C → D → M (Fl C C)} {d : D} {ds : List D} {c : C} : (Dl.forM body (d :: ds) c : M (Fl C L)) S = (body c d S).andThen (Fl.foR body ds) := by
  rw [Dl.forM, ev_bind]
  cases body c d S with
  | ok z S1 => cases z <;> rfl
  | err _ _ => rfl
  | bad => rfl
/-- a loop that changes no cell and is never left: its turns one behind another -/
theorem for_enc {A X : Type} {body : C → D → M (Fl C C)} (e : X → D) (emb : A → C) (g : A → X → A) (I : A → List X → Prop) : ∀ (xs : List X) (a : A), (∀ a x t, I a (x :: t) → body (emb a) (e x) S = .ok (.nx (emb (g a x))) S ∧ I (g a x) t) → I a xs →
    (Dl.forM body (xs.map e) (emb a) : M (Fl C L)) S = .ok (.nx (emb (xs.foldl g a))) S
  | [], a, _, _ => rfl
  | x :: xs, a, h, i => by
    obtain ⟨h1, h2⟩ := h a x xs i
    rw [List.map_cons, ev_for1, h1, at_ok, foR_nx, List.foldl_cons]
    exact for_enc e emb g I xs (g a x) h h2
theorem map_enc {X : Type} {f : D → M D} (e : X → D) (g : X → D) : ∀ (xs : List X), (∀ x ∈ xs, f (e x) S = .ok (g x) S) → mapXC f (xs.map e) S = .ok (xs.map g) S
  | [], _ => rfl
  | x :: xs, h => by
    rw [List.map_cons, ev_map1, h x List.mem_cons_self, at_ok, map_enc e g xs fun y hy => h y (List.mem_cons_of_mem _ hy), at_ok, List.map_cons]
theorem fil_enc {X : Type} {t : D → M Bool} {f : D → M D} (e : X → D) (p : X → Bool) (g : X → D) : ∀ (xs : List X), (∀ x ∈ xs, t (e x) S = .ok (p x) S ∧ f (e x) S = .ok (g x) S) → filXC t f (xs.map e) S = .ok ((xs.filter p).map g) S
  | [], _ => rfl
  | x :: xs, h => by
    obtain ⟨h1, h2⟩ := h x List.mem_cons_self
    rw [List.map_cons, ev_fil1, h1, at_ok, List.filter_cons]
    cases p x with
    | true => rw [if_pos rfl, h2, at_ok, fil_enc e p g xs fun y hy => h y (List.mem_cons_of_mem _ hy), at_ok, if_pos rfl, List.map_cons]
    | false => rw [if_neg (by decide), fil_enc e p g xs fun y hy => h y (List.mem_cons_of_mem _ hy), if_neg (by decide)]
end
end Dl
/-! all pointers become values: for good, or as long as a call runs -/
namespace Dl
open PySem L2
/-- what stands at pointers, as a value -/
def viewD (S : MS) : Nat → D → D
  | 0, d => d
  | n + 1, .ptr k => match S.cells[k]? with
    | some (.lst ds) => .lst (ds.map (viewD S n))
    | some (.dic kvs) => .dic (kvs.map (·.1)) (kvs.map fun kv => viewD S n kv.2)
    | some (.ins c fs) => .obj k c (fs.map (·.1)) (fs.map fun f => viewD S n f.2)
    | _ => .ptr k
  | n + 1, .lst ds => .lst (ds.map (viewD S n))
  | n + 1, .tup ds => .tup (ds.map (viewD S n))
  | n + 1, .dic ks ds => .dic ks (ds.map (viewD S n))
  | n + 1, .obj k c ns ds => .obj k c ns (ds.map (viewD S n))
  | _ + 1, d => d
def MS.outs (S : MS) : MS := { S with cells := S.cells.map fun _ => .out }
def Gh.all (G : Gh) : Gh := { G with Z := fun b => b ∈ G.φ ∨ G.Z b }
section
variable {K : PySem.W.Frag} {mg : Str → Option Value} {G : Gh} {H : Hp} {S : MS}
theorem FR.all : FR G H G.all H :=
  ⟨List.prefix_rfl, rfl, rfl, rfl, fun _ _ h _ => h, fun b h => .inl (h.elim (fun y => .inl ⟨y.1, fun z => y.2 (.inr z)⟩) .inr), fun b h => .inl h, fun _ h => h, fun b o h => ⟨o, h⟩⟩
theorem Wf.all (w : Wf K mg G H S) : Wf K mg G.all H S.outs := by
  refine ⟨?_, w.nd, fun i c b h1 h2 => ?_, fun b h => ?_, w.ha, w.hb, w.sab, w.na, w.nb, w.zs, w.hmg, fun i c b h1 h2 hn => ?_, fun b h => ?_, fun b h => ⟨(w.zo b h).1, fun z => ?_⟩⟩
  · show _ = (S.cells.map fun _ => Cell.out).length
    rw [List.length_map]; exact w.len
  · have h1 : (S.cells.map fun _ => Cell.out)[i]? = some c := h1
    rw [List.getElem?_map] at h1
    cases q : S.cells[i]? with
    | none => rw [q] at h1; cases h1
    | some x => rw [q] at h1; cases h1; trivial
  · exact w.live b (h.elim (fun h => .inl (h.elim (fun y => .inl ⟨y.1, fun z => y.2 (.inr z)⟩) .inr)) .inr)
  · have h1 : (S.cells.map fun _ => Cell.out)[i]? = some c := h1
    rw [List.getElem?_map] at h1
    cases q : S.cells[i]? with
    | none => rw [q] at h1; cases h1
    | some x => rw [q] at h1; cases h1; exact absurd rfl hn
  · rcases h with h | h
    · exact w.phi h
    · exact w.zl b h
  · rcases z with z | z
    · exact (w.zo b h).1 z
    · exact (w.zo b h).2 z
theorem all_mu {a : Addr} {k : Nat} (w : Wf K mg G H S) (hk : G.φ[k]? = some a) : ¬ G.all.mu a := fun h => by
  have m := List.mem_of_getElem? hk
  rcases h with (h | h | h) | h
  · exact h.2 (.inl m)
  · exact w.na (by rw [← show a = G.sa from h]; exact m)
  · exact w.nb (by rw [← show a = G.sb from h]; exact m)
  · exact (w.zo a h).1 m
theorem all_mu' {a : Addr} (h : ¬ G.mu a) : ¬ G.all.mu a := fun z => h (z.elim (fun z => .inl (z.elim (fun y => .inl ⟨y.1, fun q => y.2 (.inr q)⟩) .inr)) .inr)
theorem reps_map {G' : Gh} {H' : Hp} {f : D → D} (h : ∀ v d, Rep K G H v d → Rep K G' H' v (f d)) : ∀ {vs : List V} {ds : List D}, Reps K G H vs ds → Reps K G' H' vs (ds.map f)
  | _, _, .nil => .nil
  | _, _, .cons r t => .cons (h _ _ r) (reps_map h t)
theorem Rep.view (w : Wf K mg G H S) : ∀ (n : Nat) (v : V) (d : D), Rep K G H v d → Rep K G.all H v (viewD S n d)
  | 0, v, d, r => r.mono .all
  | n + 1, v, d, r => by
    have ih := Rep.view w n
    cases r with
    | non => exact .non
    | bl b => exact .bl b
    | int i => exact .int i
    | str x => exact .str x
    | strm => exact .strm
    | lst h z m t => exact .lst h z (all_mu' m) (reps_map ih t)
    | tup h z t => exact .tup h z (reps_map ih t)
    | dic h z m e t => exact .dic h z (all_mu' m) e (reps_map ih t)
    | obj p c h m e t => exact .obj p c h (all_mu' m) e (reps_map ih t)
    | @ptr a k q =>
      unfold viewD
      cases qc : S.cells[k]? with
      | none => exact .ptr q
      | some c =>
        have cr := w.cell k c a qc q
        have nm := all_mu w q
        cases c with
        | out => exact .ptr q
        | lst ds =>
          obtain ⟨xs, hx, z, t⟩ := cr
          exact .lst hx z nm (reps_map ih t)
        | dic kvs =>
          obtain ⟨xs, hx, z, t⟩ := cr
          obtain ⟨e1, e2⟩ := t.fst
          refine .dic hx z nm e1 ?_
          rw [show (kvs.map fun kv => viewD S n kv.2) = (kvs.map Prod.snd).map (viewD S n) from by rw [List.map_map]; rfl]
          exact reps_map ih e2
        | ins c fs =>
          obtain ⟨C, dx, gs, mm, hx, t⟩ := cr
          obtain ⟨e1, e2⟩ := t.fst
          refine .obj q (by rw [← w.hmg] at mm; exact mm) hx nm e1 ?_
          rw [show (fs.map fun f => viewD S n f.2) = (fs.map Prod.snd).map (viewD S n) from by rw [List.map_map]; rfl]
          exact reps_map ih e2
end
/-- for good: d as a value; nothing that was at a pointer changes any more -/
def frzAll (d : D) : M D := fun S => .ok (viewD S 64 d) S.outs
section
variable {X : Cx} {W : WX} {ρ : List Slot} {e : Expr} {es : List Expr} {m : M D} {ms : List (M D)} {pos p : Pos}
variable {C L : Type} {k : Ct C L} {sts : List Stmt}
/-- the same with a name -/
theorem sd_frzV (i : Nat) {d : D} {f : D → M (Fl C L)} (h : ∀ d', SD X k (ρ.set i (.val d')) sts (f d')) (hρ : ρ[i]? = some (.val d) := by rfl) : SD X k ρ sts ((frzAll d).bind f) :=
  let u : TS := fun D σ H => ∃ d', tS X.K X.mg k (ρ.set i (.val d')) (f d') D σ H
  have hu : PSs X sts u := ⟨fun pins s σ H D I ⟨d', q⟩ => (h d').run pins s σ H D I q⟩
  PSs.imp hu fun D σ H ⟨G0, H0, G, S, si, h⟩ => by
    obtain ⟨v, e, r⟩ := si.env i _ hρ
    have hi : i < ρ.length := (List.getElem?_eq_some_iff.mp hρ).1
    have s2 : SI X.K X.mg G0 H0 G.all H σ ρ S.outs := si.mono .all si.wf.all
    have s3 := s2.set (v := v) i (Rep.view si.wf 64 v d r)
    have e1 : σ.set i (some v) = σ := by
      apply List.ext_getElem?
      intro j
      by_cases q : i = j
      · subst q
        rw [List.getElem?_set_self (by rw [si.len]; exact hi), e]
      · rw [List.getElem?_set_ne q]
    rw [e1] at s3
    exact ⟨viewD S 64 d, G0, H0, G.all, S.outs, s3, okS.from h (FR.all (G := G) (H := H)).lr⟩
end
end Dl
namespace Lw
open PySem L2 Dl
abbrev tabC : List (Str × List Str) := [("Layout", ["Layout", "Shape"])]
abbrev f_draw := drawD
def c_ALIGNS : D := D.tup [D.int (1), D.int (2), D.int (4), D.int (8), D.int (16), D.int (32)]
def c_CONVENTIONS : D := D.tup [D.str "sysv", D.str "msvc"]
def c_DIGITS : D := D.str "0123456789"
def c_ENDS : D := D.tup [D.str "little", D.str "big"]
def c_LETTERS : D := D.str "abcdefghijklmnopqrstuvwxyzABCDEFGHIJKLMNOPQRSTUVWXYZ_"
def c_PACKS : D := D.tup [D.int (1), D.int (2), D.int (4), D.int (8), D.int (16)]
def c_SIZES : D := D.tup [D.int (1), D.int (2), D.int (4), D.int (8)]
def f_pick (a_s : D) (a_some : D) : M D := finM (retM (bin dItem (M.pure a_some) (callM (ar2 f_draw) [(M.pure a_s), (callM (ar1 dLen) [(M.pure a_some)])])))
def f_is_word_of (a_thing : D) (a_some : D) : M D := finM (retM (andV (una (dIsX tabC [.str] []) (M.pure a_thing)) (bin (dIn false) (M.pure a_thing) (M.pure a_some))))
def f_is_integer (a_thing : D) : M D := finM (retM (andV (una (dIsX tabC [.int] []) (M.pure a_thing)) (notV (una (dIsX tabC [.bool] []) (M.pure a_thing)))))
def f_is_number_of (a_thing : D) (a_some : D) : M D := finM (retM (andV (callM (ar1 f_is_integer) [(M.pure a_thing)]) (bin (dIn false) (M.pure a_thing) (M.pure a_some))))
def f_checked_options (a_convention : D) (a_pack : D) (a_align : D) (a_ends : D) : M D := finM (ifM (notT (tst (callM (ar2 f_is_word_of) [(M.pure a_convention), (M.pure c_CONVENTIONS)]))) (outM ((M.pure (D.str "convention")).bind fun v_e1 => M.raise ⟨"BadOption", "name", v_e1⟩)) (ifM (andT (tst (una dNotN (M.pure a_pack))) (notT (tst (callM (ar2 f_is_number_of) [(M.pure a_pack), (M.pure c_PACKS)])))) (outM ((M.pure (D.str "pack")).bind fun v_e2 => M.raise ⟨"BadOption", "name", v_e2⟩)) (ifM (andT (tst (una dNotN (M.pure a_align))) (notT (tst (callM (ar2 f_is_number_of) [(M.pure a_align), (M.pure c_ALIGNS)])))) (outM ((M.pure (D.str "align")).bind fun v_e3 => M.raise ⟨"BadOption", "name", v_e3⟩)) (ifM (notT (tst (callM (ar2 f_is_word_of) [(M.pure a_ends), (M.pure c_ENDS)]))) (outM ((M.pure (D.str "ends")).bind fun v_e4 => M.raise ⟨"BadOption", "name", v_e4⟩)) (retM (tupM [(M.pure a_convention), (M.pure a_pack), (M.pure a_align), (M.pure a_ends)]))))))
def f_is_row (a_thing : D) : M D := finM (retM (una (dIsX tabC [.list, .tuple] []) (M.pure a_thing)))
def f_is_integer_kind (a_kind : D) : M D := finM (ifM (orT (notT (tst (callM (ar1 f_is_row) [(M.pure a_kind)]))) (orT (tst (bin dNe (callM (ar1 dLen) [(M.pure a_kind)]) (M.pure (D.int 3)))) (orT (notT (tst (una (dIsX tabC [.str] []) (bin dItem (M.pure a_kind) (M.pure (D.int 0)))))) (tst (bin dNe (bin dItem (M.pure a_kind) (M.pure (D.int 0))) (M.pure (D.str "int"))))))) (outM (retM (M.pure (D.bl false)))) (retM (andV (callM (ar2 f_is_number_of) [(bin dItem (M.pure a_kind) (M.pure (D.int 1))), (M.pure c_SIZES)]) (una (dIsX tabC [.bool] []) (bin dItem (M.pure a_kind) (M.pure (D.int 2)))))))
def f_is_array_kind (a_kind : D) : M D := finM (ifM (orT (notT (tst (callM (ar1 f_is_row) [(M.pure a_kind)]))) (orT (tst (bin dNe (callM (ar1 dLen) [(M.pure a_kind)]) (M.pure (D.int 3)))) (orT (notT (tst (una (dIsX tabC [.str] []) (bin dItem (M.pure a_kind) (M.pure (D.int 0)))))) (tst (bin dNe (bin dItem (M.pure a_kind) (M.pure (D.int 0))) (M.pure (D.str "array"))))))) (outM (retM (M.pure (D.bl false)))) (retM (andV (callM (ar1 f_is_integer) [(bin dItem (M.pure a_kind) (M.pure (D.int 2)))]) (bin dGe (bin dItem (M.pure a_kind) (M.pure (D.int 2))) (M.pure (D.int 0))))))
def f_checked_kind : Nat → D → M D
  | 0, _ => M.bad
  | n + 1, a_kind => finM (ifM (tst (una (dIsX tabC [] ["Shape"]) (M.pure a_kind))) (outM (retM (M.pure a_kind))) (ifM (tst (callM (ar1 f_is_integer_kind) [(M.pure a_kind)])) (outM (retM (callM (ar1 dTuple) [(M.pure a_kind)]))) (ifM (tst (callM (ar1 f_is_array_kind) [(M.pure a_kind)])) (outM (retM (tupM [(M.pure (D.str "array")), (callM (ar1 (f_checked_kind n)) [(bin dItem (M.pure a_kind) (M.pure (D.int 1)))]), (bin dItem (M.pure a_kind) (M.pure (D.int 2)))]))) ((M.pure a_kind).bind fun v_e1 => M.raise ⟨"BadKind", "kind", v_e1⟩))))
def f_is_name (a_thing : D) : M D := finM (ifM (orT (notT (tst (una (dIsX tabC [.str] []) (M.pure a_thing)))) (orT (tst (bin dEq (M.pure a_thing) (M.pure (D.str "")))) (tst (bin (dIn false) (bin dItem (M.pure a_thing) (M.pure (D.int 0))) (M.pure c_DIGITS))))) (outM (retM (M.pure (D.bl false)))) (retM (callM (ar1 dAll) [(frz (mapX (M.bind (M.pure a_thing) itemsS) (unT (.nm 1) (on1 fun v_sign1 => (orV (bin (dIn false) (M.pure v_sign1) (M.pure c_LETTERS)) (bin (dIn false) (M.pure v_sign1) (M.pure c_DIGITS)))))))])))
def f_checked_member (a_place : D) (a_member : D) : M D := finM (ifM (orT (notT (tst (callM (ar1 f_is_row) [(M.pure a_member)]))) (orT (tst (bin (dIn true) (callM (ar1 dLen) [(M.pure a_member)]) (tupM [(M.pure (D.int 2)), (M.pure (D.int 3))]))) (andT (tst (una dNotN (bin dItem (M.pure a_member) (M.pure (D.int 0))))) (notT (tst (callM (ar1 f_is_name) [(bin dItem (M.pure a_member) (M.pure (D.int 0)))])))))) (outM ((M.pure a_place).bind fun v_e1 => M.raise ⟨"BadMember", "place", v_e1⟩)) (M.bind (argsM [(bin dItem (M.pure a_member) (M.pure (D.int 0))), (callM (ar1 (f_checked_kind 12)) [(bin dItem (M.pure a_member) (M.pure (D.int 1)))])]) (on2 fun v_name2 v_kind3 => (ifM (tst (bin dEq (callM (ar1 dLen) [(M.pure a_member)]) (M.pure (D.int 2)))) (outM (ifM (andT (tst (una dIsN (M.pure v_name2))) (notT (tst (una (dIsX tabC [] ["Shape"]) (M.pure v_kind3))))) (outM ((M.pure a_place).bind fun v_e4 => M.raise ⟨"BadMember", "place", v_e4⟩)) (retM (tupM [(M.pure v_name2), (M.pure v_kind3), (M.pure D.non)])))) (ifM (notT (tst (callM (ar1 f_is_integer_kind) [(M.pure v_kind3)]))) (outM ((M.pure a_place).bind fun v_e5 => M.raise ⟨"BadMember", "place", v_e5⟩)) (M.bind (bin dItem (M.pure a_member) (M.pure (D.int 2))) fun v_bits6 => (ifM (orT (notT (tst (callM (ar1 f_is_integer) [(M.pure v_bits6)]))) (orT (notT (tst (chainM dLe dLe (M.pure (D.int 0)) (M.pure v_bits6) (bin dMul (M.pure (D.int 8)) (bin dItem (M.pure v_kind3) (M.pure (D.int 1))))))) (andT (tst (bin dEq (M.pure v_bits6) (M.pure (D.int 0)))) (tst (una dNotN (M.pure v_name2)))))) (outM ((M.pure a_place).bind fun v_e7 => M.raise ⟨"BadBits", "place", v_e7⟩)) (retM (tupM [(M.pure v_name2), (M.pure v_kind3), (M.pure v_bits6)])))))))))
def f_checked_members (a_members : D) : M D := finM (retM (frz (mapX (M.bind (M.pure a_members) enumM) (unT (.tp [(.nm 1), (.nm 2)]) (on2 fun v_place1 v_member2 => (callM (ar2 f_checked_member) [(M.pure v_place1), (M.pure v_member2)]))))))
def f_names_of : Nat → D → M D
  | 0, _ => M.bad
  | n + 1, a_rows => finM (M.bind (lstM []) fun v_found1 => (M.bind (M.bind (M.pure a_rows) itemsS) fun v_ds10 => thenM (forM (fun (v_c2 : List D) => un3 fun v_name3 v_kind4 v_bits5 => (ifM (tst (una dNotN (M.pure v_name3))) (M.bind (M.pure v_name3) fun v_d6 => gd (szLt (List.length v_c2)) (M.pure (.nx (v_c2 ++ [v_d6])))) (thenM (ifM (tst (una dIsN (M.pure v_bits5))) (M.bind (callM (ar1 (f_names_of n)) [(una (dFld "Layout" "rows") (M.pure v_kind4))]) fun v_d8 => M.bind (asLst v_d8) fun v_es9 => gd (szOk (List.length v_c2 + List.length v_es9)) (M.pure (.nx (v_c2 ++ v_es9)))) (M.pure (.nx v_c2))) (fun (v_c7 : List D) => (M.pure (.nx v_c7)))))) v_ds10 v_found1) (fun (v_c2 : List D) => (retM (M.pure (D.lst v_c2))))))
def f_checked_names (a_rows : D) : M D := finM (M.bind (lstM []) fun v_seen1 => (M.bind (M.bind (callM (ar1 (f_names_of 12)) [(M.pure a_rows)]) itemsS) fun v_ds6 => thenM (forM (fun (v_c2 : List D) v_name3 => (ifM (tst (bin (dIn false) (M.pure v_name3) (M.pure (D.lst v_c2)))) (outM ((M.pure v_name3).bind fun v_e4 => M.raise ⟨"BadName", "name", v_e4⟩)) (M.bind (M.pure v_name3) fun v_d5 => gd (szLt (List.length v_c2)) (M.pure (.nx (v_c2 ++ [v_d5])))))) v_ds6 v_seen1) (fun (v_c2 : List D) => (retM (M.pure (D.lst v_c2))))))
def f_up (a_number : D) (a_step : D) : M D := finM (retM (bin dMul (bin dDiv (bin dSub (bin dAdd (M.pure a_number) (M.pure a_step)) (M.pure (D.int 1))) (M.pure a_step)) (M.pure a_step)))
def f_Layout_init (a_self : D) (a_rows : D) (a_laid : D) (a_convention : D) (a_align : D) (a_ends : D) : M D := finM (M.bind (M.pure a_laid) (un3 fun v_positions1 v_taken2 v_least3 => (M.bind (M.pure a_rows) fun v_v14 => M.bind (M.pure a_self) fun v_o15 => M.bind (setF "Layout" "rows" v_o15 v_v14) fun _ => (M.bind (M.pure v_positions1) fun v_v12 => M.bind (M.pure a_self) fun v_o13 => M.bind (setF "Layout" "positions" v_o13 v_v12) fun _ => (M.bind (ifM (tst (una dIsN (M.pure a_align))) (M.pure v_least3) (callM (ar2 dMax) [(M.pure v_least3), (M.pure a_align)])) fun v_v10 => M.bind (M.pure a_self) fun v_o11 => M.bind (setF "Layout" "step" v_o11 v_v10) fun _ => (M.bind (callM (ar2 f_up) [(M.pure v_taken2), (una (dFld "Layout" "step") (M.pure a_self))]) fun v_v8 => M.bind (M.pure a_self) fun v_o9 => M.bind (setF "Layout" "extent" v_o9 v_v8) fun _ => (M.bind (M.pure a_convention) fun v_v6 => M.bind (M.pure a_self) fun v_o7 => M.bind (setF "Layout" "rule" v_o7 v_v6) fun _ => (M.bind (M.pure a_ends) fun v_v4 => M.bind (M.pure a_self) fun v_o5 => M.bind (setF "Layout" "order" v_o5 v_v4) fun _ => (M.pure (.nx ()))))))))))
def f_Layout_size (a_self : D) : M D := finM (retM (una (dFld "Layout" "extent") (M.pure a_self)))
def f_size_of : Nat → D → M D
  | 0, _ => M.bad
  | n + 1, a_kind => finM (ifM (tst (una (dIsX tabC [] ["Shape"]) (M.pure a_kind))) (outM (retM (propM "Layout" (ar1 f_Layout_size) (M.pure a_kind)))) (retM (ifM (tst (bin dEq (bin dItem (M.pure a_kind) (M.pure (D.int 0))) (M.pure (D.str "int")))) (bin dItem (M.pure a_kind) (M.pure (D.int 1))) (bin dMul (bin dItem (M.pure a_kind) (M.pure (D.int 2))) (callM (ar1 (f_size_of n)) [(bin dItem (M.pure a_kind) (M.pure (D.int 1)))])))))
def f_Layout_alignment (a_self : D) : M D := finM (retM (una (dFld "Layout" "step") (M.pure a_self)))
def f_alignment_of : Nat → D → M D
  | 0, _ => M.bad
  | n + 1, a_kind => finM (ifM (tst (una (dIsX tabC [] ["Shape"]) (M.pure a_kind))) (outM (retM (propM "Layout" (ar1 f_Layout_alignment) (M.pure a_kind)))) (retM (ifM (tst (bin dEq (bin dItem (M.pure a_kind) (M.pure (D.int 0))) (M.pure (D.str "int")))) (bin dItem (M.pure a_kind) (M.pure (D.int 1))) (callM (ar1 (f_alignment_of n)) [(bin dItem (M.pure a_kind) (M.pure (D.int 1)))]))))
def f_step_of (a_kind : D) (a_pack : D) : M D := finM (retM (ifM (tst (una dIsN (M.pure a_pack))) (callM (ar1 (f_alignment_of 12)) [(M.pure a_kind)]) (callM (ar2 dMin) [(callM (ar1 (f_alignment_of 12)) [(M.pure a_kind)]), (M.pure a_pack)])))
def f_msvc_union (a_rows : D) (a_pack : D) : M D := finM (M.bind (tupM [(M.pure (D.int 0)), (M.pure (D.int 1))]) (un2 fun v_taken1 v_least2 => (M.bind (M.bind (M.pure a_rows) itemsS) fun v_ds10 => thenM (forM (fun (v_c3 : D × D) => un3 fun v_name4 v_kind5 v_bits6 => (thenM (ifM (tst (bin dNe (M.pure v_bits6) (M.pure (D.int 0)))) (M.bind (argsM [(callM (ar2 dMax) [(M.pure v_c3.1), (callM (ar1 (f_size_of 12)) [(M.pure v_kind5)])]), (callM (ar2 dMax) [(M.pure v_c3.2), (callM (ar2 f_step_of) [(M.pure v_kind5), (M.pure a_pack)])])]) (on2 fun v_taken8 v_least9 => (M.pure (.nx (v_taken8, v_least9))))) (M.pure (.nx (v_c3.1, v_c3.2)))) (fun (v_c7 : D × D) => (M.pure (.nx (v_c7.1, v_c7.2)))))) v_ds10 (v_taken1, v_least2)) (fun (v_c3 : D × D) => (retM (tupM [(bin dMul (frz (lstM [(M.pure (D.int 0))])) (callM (ar1 dLen) [(M.pure a_rows)])), (M.pure v_c3.1), (M.pure v_c3.2)]))))))
def f_msvc_structure (a_rows : D) (a_pack : D) : M D := finM (M.bind (M.pure (D.int 0)) fun v_at1 => (M.bind (M.pure (D.int 1)) fun v_least2 => (M.bind (lstM []) fun v_positions3 => (M.bind (tupM [(M.pure (D.int 0)), (M.pure (D.int 0))]) (un2 fun v_unit4 v_used5 => (M.bind (M.bind (M.pure a_rows) itemsS) fun v_ds27 => thenM (forM (fun (v_c6 : D × D × List D × D × D) => un3 fun v_name7 v_kind8 v_bits9 => (M.bind (argsM [(callM (ar2 f_step_of) [(M.pure v_kind8), (M.pure a_pack)]), (callM (ar1 (f_size_of 12)) [(M.pure v_kind8)])]) (on2 fun v_step10 v_size11 => (thenM (ifM (tst (una dIsN (M.pure v_bits9))) (M.bind (callM (ar2 f_up) [(M.pure v_c6.1), (M.pure v_step10)]) fun v_at13 => (M.bind (bin dMul (M.pure (D.int 8)) (M.pure v_at13)) fun v_d14 => gd (szLt (List.length v_c6.2.2.1)) (M.bind (argsM [(bin dAdd (M.pure v_at13) (M.pure v_size11)), (M.pure (D.int 0))]) (on2 fun v_at15 v_unit16 => (M.pure (.nx (v_at15, (v_c6.2.2.1 ++ [v_d14]), v_unit16, v_c6.2.2.2.2))))))) (ifM (tst (bin dEq (M.pure v_bits9) (M.pure (D.int 0)))) (M.bind (bin dMul (M.pure (D.int 8)) (M.pure v_c6.1)) fun v_d17 => gd (szLt (List.length v_c6.2.2.1)) (M.bind (M.pure (D.int 0)) fun v_unit18 => (M.pure (.nx (v_c6.1, (v_c6.2.2.1 ++ [v_d17]), v_unit18, v_c6.2.2.2.2))))) (thenM (ifM (orT (tst (bin dNe (M.pure v_c6.2.2.2.1) (M.pure v_size11))) (tst (bin dGt (bin dAdd (M.pure v_c6.2.2.2.2) (M.pure v_bits9)) (bin dMul (M.pure (D.int 8)) (M.pure v_size11))))) (M.bind (argsM [(bin dAdd (callM (ar2 f_up) [(M.pure v_c6.1), (M.pure v_step10)]) (M.pure v_size11)), (M.pure v_size11), (M.pure (D.int 0))]) (on3 fun v_at20 v_unit21 v_used22 => (M.pure (.nx (v_at20, v_unit21, v_used22))))) (M.pure (.nx (v_c6.1, v_c6.2.2.2.1, v_c6.2.2.2.2)))) (fun (v_c19 : D × D × D) => (M.bind (bin dAdd (bin dMul (M.pure (D.int 8)) (bin dSub (M.pure v_c19.1) (M.pure v_size11))) (M.pure v_c19.2.2)) fun v_d23 => gd (szLt (List.length v_c6.2.2.1)) (M.bind (M.bind (M.pure v_bits9) fun v_y25 => dPlus v_c19.2.2 v_y25) fun v_used24 => (M.pure (.nx (v_c19.1, (v_c6.2.2.1 ++ [v_d23]), v_c19.2.1, v_used24))))))))) (fun (v_c12 : D × List D × D × D) => (M.bind (ifM (tst (bin dNe (M.pure v_bits9) (M.pure (D.int 0)))) (callM (ar2 dMax) [(M.pure v_c6.2.1), (M.pure v_step10)]) (M.pure v_c6.2.1)) fun v_least26 => (M.pure (.nx (v_c12.1, v_least26, v_c12.2.1, v_c12.2.2.1, v_c12.2.2.2))))))))) v_ds27 (v_at1, v_least2, v_positions3, v_unit4, v_used5)) (fun (v_c6 : D × D × List D × D × D) => (retM (tupM [(M.pure (D.lst v_c6.2.2.1)), (M.pure v_c6.1), (M.pure v_c6.2.1)])))))))))
def f_counts (a_name : D) (a_bits : D) : M D := finM (retM (orV (una dIsN (M.pure a_bits)) (una dNotN (M.pure a_name))))
def f_sysv_union (a_rows : D) (a_pack : D) : M D := finM (M.bind (tupM [(M.pure (D.int 0)), (M.pure (D.int 1))]) (un2 fun v_taken1 v_least2 => (M.bind (M.bind (M.pure a_rows) itemsS) fun v_ds9 => thenM (forM (fun (v_c3 : D × D) => un3 fun v_name4 v_kind5 v_bits6 => (M.bind (callM (ar2 dMax) [(M.pure v_c3.1), (ifM (tst (una dIsN (M.pure v_bits6))) (callM (ar1 (f_size_of 12)) [(M.pure v_kind5)]) (bin dDiv (callM (ar2 f_up) [(M.pure v_bits6), (M.pure (D.int 8))]) (M.pure (D.int 8))))]) fun v_taken7 => (M.bind (ifM (tst (callM (ar2 f_counts) [(M.pure v_name4), (M.pure v_bits6)])) (callM (ar2 dMax) [(M.pure v_c3.2), (callM (ar2 f_step_of) [(M.pure v_kind5), (M.pure a_pack)])]) (M.pure v_c3.2)) fun v_least8 => (M.pure (.nx (v_taken7, v_least8)))))) v_ds9 (v_taken1, v_least2)) (fun (v_c3 : D × D) => (retM (tupM [(bin dMul (frz (lstM [(M.pure (D.int 0))])) (callM (ar1 dLen) [(M.pure a_rows)])), (M.pure v_c3.1), (M.pure v_c3.2)]))))))
def f_is_moved (a_position : D) (a_kind : D) (a_bits : D) (a_pack : D) : M D := finM (M.bind (bin dMul (M.pure (D.int 8)) (callM (ar1 (f_size_of 12)) [(M.pure a_kind)])) fun v_unit1 => (retM (orV (bin dEq (M.pure a_bits) (M.pure (D.int 0))) (andV (una dIsN (M.pure a_pack)) (bin dNe (bin dDiv (M.pure a_position) (M.pure v_unit1)) (bin dDiv (bin dSub (bin dAdd (M.pure a_position) (M.pure a_bits)) (M.pure (D.int 1))) (M.pure v_unit1)))))))
def f_sysv_structure (a_rows : D) (a_pack : D) : M D := finM (M.bind (M.pure (D.int 0)) fun v_at1 => (M.bind (M.pure (D.int 1)) fun v_least2 => (M.bind (lstM []) fun v_positions3 => (M.bind (M.bind (M.pure a_rows) itemsS) fun v_ds15 => thenM (forM (fun (v_c4 : D × D × List D) => un3 fun v_name5 v_kind6 v_bits7 => (M.bind (callM (ar2 f_step_of) [(M.pure v_kind6), (M.pure a_pack)]) fun v_step8 => (thenM (ifM (orT (tst (una dIsN (M.pure v_bits7))) (tst (callM (ar4 f_is_moved) [(M.pure v_c4.1), (M.pure v_kind6), (M.pure v_bits7), (M.pure a_pack)]))) (M.bind (callM (ar2 f_up) [(M.pure v_c4.1), (bin dMul (M.pure (D.int 8)) (M.pure v_step8))]) fun v_at10 => (M.pure (.nx v_at10))) (M.pure (.nx v_c4.1))) (fun (v_c9 : D) => (M.bind (M.pure v_c9) fun v_d11 => gd (szLt (List.length v_c4.2.2)) (M.bind (M.bind (ifM (tst (una dIsN (M.pure v_bits7))) (bin dMul (M.pure (D.int 8)) (callM (ar1 (f_size_of 12)) [(M.pure v_kind6)])) (M.pure v_bits7)) fun v_y13 => dPlus v_c9 v_y13) fun v_at12 => (M.bind (ifM (tst (callM (ar2 f_counts) [(M.pure v_name5), (M.pure v_bits7)])) (callM (ar2 dMax) [(M.pure v_c4.2.1), (M.pure v_step8)]) (M.pure v_c4.2.1)) fun v_least14 => (M.pure (.nx (v_at12, v_least14, (v_c4.2.2 ++ [v_d11]))))))))))) v_ds15 (v_at1, v_least2, v_positions3)) (fun (v_c4 : D × D × List D) => (retM (tupM [(M.pure (D.lst v_c4.2.2)), (bin dDiv (callM (ar2 f_up) [(M.pure v_c4.1), (M.pure (D.int 8))]) (M.pure (D.int 8))), (M.pure v_c4.2.1)])))))))
def f_layout_of (a_members : D) (a_convention : D) (a_pack : D) (a_align : D) (a_ends : D) (a_is_union : D) : M D := finM (M.bind (callM (ar4 f_checked_options) [(M.pure a_convention), (M.pure a_pack), (M.pure a_align), (M.pure a_ends)]) fun _ => (M.bind (callM (ar1 f_checked_members) [(M.pure a_members)]) fun v_rows1 => (M.bind (callM (ar1 f_checked_names) [(M.pure v_rows1)]) fun _ => (thenM (ifM (tst (bin dEq (M.pure a_convention) (M.pure (D.str "msvc")))) (M.bind (ifM (tst (M.pure a_is_union)) (callM (ar2 f_msvc_union) [(M.pure v_rows1), (M.pure a_pack)]) (callM (ar2 f_msvc_structure) [(M.pure v_rows1), (M.pure a_pack)])) fun v_laid3 => (M.pure (.nx v_laid3))) (M.bind (ifM (tst (M.pure a_is_union)) (callM (ar2 f_sysv_union) [(M.pure v_rows1), (M.pure a_pack)]) (callM (ar2 f_sysv_structure) [(M.pure v_rows1), (M.pure a_pack)])) fun v_laid4 => (M.pure (.nx v_laid4)))) (fun (v_c2 : D) => (retM (M.bind (newM "Layout" (ar6 f_Layout_init) [(M.pure v_rows1), (M.pure v_c2), (M.pure a_convention), (M.pure a_align), (M.pure a_ends)]) frzP)))))))
def f_struct (a_members : D) (a_convention : D) (a_pack : D) (a_align : D) (a_ends : D) : M D := finM (retM (callM (ar6 f_layout_of) [(M.pure a_members), (M.pure a_convention), (M.pure a_pack), (M.pure a_align), (M.pure a_ends), (M.pure (D.bl false))]))
def f_union (a_members : D) (a_convention : D) (a_pack : D) (a_align : D) (a_ends : D) : M D := finM (retM (callM (ar6 f_layout_of) [(M.pure a_members), (M.pure a_convention), (M.pure a_pack), (M.pure a_align), (M.pure a_ends), (M.pure (D.bl true))]))
def f_all_paths : Nat → D → M D
  | 0, _ => M.bad
  | n + 1, a_kind => finM (ifM (tst (una (dIsX tabC [] ["Shape"]) (M.pure a_kind))) (outM (M.bind (lstM []) fun v_found1 => (M.bind (M.bind (una (dFld "Layout" "rows") (M.pure a_kind)) itemsS) fun v_ds12 => thenM (forM (fun (v_c2 : List D) => un3 fun v_name3 v_inner4 v_bits5 => (ifM (tst (una dNotN (M.pure v_bits5))) (M.bind (ifM (tst (una dIsN (M.pure v_name3))) (frz (lstM [])) (frz (lstM [(tupM [(M.pure v_name3)])]))) fun v_d6 => M.bind (asLst v_d6) fun v_es7 => gd (szOk (List.length v_c2 + List.length v_es7)) (M.pure (.nx (v_c2 ++ v_es7)))) (M.bind (ifM (tst (una dIsN (M.pure v_name3))) (tupM []) (tupM [(M.pure v_name3)])) fun v_ahead8 => (M.bind (frz (mapX (M.bind (callM (ar1 (f_all_paths n)) [(M.pure v_inner4)]) itemsS) (unT (.nm 7) (on1 fun v_path9 => (bin dAdd (M.pure v_ahead8) (M.pure v_path9)))))) fun v_d10 => M.bind (asLst v_d10) fun v_es11 => gd (szOk (List.length v_c2 + List.length v_es11)) (M.pure (.nx (v_c2 ++ v_es11))))))) v_ds12 v_found1) (fun (v_c2 : List D) => (retM (M.pure (D.lst v_c2))))))) (ifM (tst (bin dNe (bin dItem (M.pure a_kind) (M.pure (D.int 0))) (M.pure (D.str "array")))) (outM (retM (frz (lstM [(tupM [])])))) (M.bind (callM (ar1 (f_all_paths n)) [(bin dItem (M.pure a_kind) (M.pure (D.int 1)))]) fun v_inner13 => (M.bind (lstM []) fun v_found14 => (M.bind (M.bind (bin dItem (M.pure a_kind) (M.pure (D.int 2))) rng1) fun v_ds20 => thenM (forM (fun (v_c15 : List D) v_index16 => (M.bind (frz (mapX (M.bind (M.pure v_inner13) itemsS) (unT (.nm 7) (on1 fun v_path17 => (bin dAdd (tupM [(M.pure v_index16)]) (M.pure v_path17)))))) fun v_d18 => M.bind (asLst v_d18) fun v_es19 => gd (szOk (List.length v_c15 + List.length v_es19)) (M.pure (.nx (v_c15 ++ v_es19))))) v_ds20 v_found14) (fun (v_c15 : List D) => (retM (M.pure (D.lst v_c15)))))))))
def f_Layout_paths (a_self : D) : M D := finM (retM (callM (ar1 (f_all_paths 12)) [(M.pure a_self)]))
def f_Layout_ends (a_self : D) : M D := finM (retM (una (dFld "Layout" "order") (M.pure a_self)))
def f_row_named : Nat → D → D → M D
  | 0, _, _ => M.bad
  | n + 1, a_layout, a_name => finM (M.bind (M.bind (argsM [(una (dFld "Layout" "rows") (M.pure a_layout)), (una (dFld "Layout" "positions") (M.pure a_layout))]) zipM) fun v_ds8 => thenM (forM (fun (_ : Unit) => unT (.tp [(.tp [(.nm 3), (.nm 4), (.nm 5)]), (.nm 2)]) (on4 fun v_own2 v_kind3 v_bits4 v_position5 => (ifM (tst (bin dEq (M.pure v_own2) (M.pure a_name))) (outM (retM (tupM [(M.pure v_kind3), (M.pure v_bits4), (M.pure v_position5), (propM "Layout" (ar1 f_Layout_ends) (M.pure a_layout))]))) (thenM (ifM (andT (tst (una dIsN (M.pure v_own2))) (tst (una dIsN (M.pure v_bits4)))) (M.bind (callM (ar2 (f_row_named n)) [(M.pure v_kind3), (M.pure a_name)]) fun v_inner7 => (ifM (tst (una dNotN (M.pure v_inner7))) (retM (tupM [(bin dItem (M.pure v_inner7) (M.pure (D.int 0))), (bin dItem (M.pure v_inner7) (M.pure (D.int 1))), (bin dAdd (M.pure v_position5) (bin dItem (M.pure v_inner7) (M.pure (D.int 2)))), (bin dItem (M.pure v_inner7) (M.pure (D.int 3)))])) (M.pure (.nx ())))) (M.pure (.nx ()))) (fun (_ : Unit) => (M.pure (.nx ()))))))) v_ds8 ()) (fun (_ : Unit) => (retM (M.pure D.non))))
def f_step_from (a_spot : D) (a_step : D) : M D := finM (M.bind (M.pure a_spot) (un3 fun v_kind1 v_position2 v_ends3 => (ifM (tst (una (dIsX tabC [] ["Shape"]) (M.pure v_kind1))) (outM (M.bind (ifM (tst (una (dIsX tabC [.str] []) (M.pure a_step))) (callM (ar2 (f_row_named 12)) [(M.pure v_kind1), (M.pure a_step)]) (M.pure D.non)) fun v_row4 => (ifM (tst (una dIsN (M.pure v_row4))) (outM (retM (M.pure D.non))) (M.bind (M.pure v_row4) (unT (.tp [(.nm 6), (.nm 7), (.nm 8), (.nm 9)]) (on4 fun v_inner5 v_bits6 v_ahead7 v_own8 => (retM (tupM [(ifM (tst (una dIsN (M.pure v_bits6))) (M.pure v_inner5) (tupM [(M.pure (D.str "bits")), (bin dItem (M.pure v_inner5) (M.pure (D.int 1))), (bin dItem (M.pure v_inner5) (M.pure (D.int 2))), (M.pure v_bits6)])), (bin dAdd (M.pure v_position2) (M.pure v_ahead7)), (M.pure v_own8)])))))))) (ifM (orT (tst (bin dNe (bin dItem (M.pure v_kind1) (M.pure (D.int 0))) (M.pure (D.str "array")))) (orT (notT (tst (callM (ar1 f_is_integer) [(M.pure a_step)]))) (notT (tst (chainM dLe dLt (M.pure (D.int 0)) (M.pure a_step) (bin dItem (M.pure v_kind1) (M.pure (D.int 2)))))))) (outM (retM (M.pure D.non))) (retM (tupM [(bin dItem (M.pure v_kind1) (M.pure (D.int 1))), (bin dAdd (M.pure v_position2) (bin dMul (bin dMul (M.pure (D.int 8)) (callM (ar1 (f_size_of 12)) [(bin dItem (M.pure v_kind1) (M.pure (D.int 1)))])) (M.pure a_step))), (M.pure v_ends3)]))))))
def f_lead (a_kind : D) (a_path : D) (a_ends : D) : M D := finM (ifM (notT (tst (callM (ar1 f_is_row) [(M.pure a_path)]))) (outM (retM (M.pure D.non))) (M.bind (tupM [(M.pure a_kind), (M.pure (D.int 0)), (M.pure a_ends)]) fun v_spot1 => (M.bind (M.bind (M.pure a_path) itemsS) fun v_ds5 => thenM (forM (fun (v_c2 : D) v_step3 => (M.bind (callM (ar2 f_step_from) [(M.pure v_c2), (M.pure v_step3)]) fun v_spot4 => (ifM (tst (una dIsN (M.pure v_spot4))) (retM (M.pure D.non)) (M.pure (.nx v_spot4))))) v_ds5 v_spot1) (fun (v_c2 : D) => (retM (M.pure v_c2))))))
def f_spot_of (a_layout : D) (a_path : D) : M D := finM (retM (callM (ar3 f_lead) [(M.pure a_layout), (M.pure a_path), (M.pure (D.str "little"))]))
def f_Layout_checked_spot (a_self : D) (a_path : D) : M D := finM (M.bind (callM (ar2 f_spot_of) [(M.pure a_self), (M.pure a_path)]) fun v_spot1 => (ifM (tst (una dIsN (M.pure v_spot1))) (outM ((M.pure a_path).bind fun v_e2 => M.raise ⟨"BadPath", "path", v_e2⟩)) (retM (M.pure v_spot1))))
def f_is_number_kind (a_what : D) : M D := finM (retM (andV (notV (una (dIsX tabC [] ["Shape"]) (M.pure a_what))) (bin dNe (bin dItem (M.pure a_what) (M.pure (D.int 0))) (M.pure (D.str "array")))))
def f_bit_at (a_position : D) (a_ends : D) : M D := finM (retM (ifM (tst (bin dEq (M.pure a_ends) (M.pure (D.str "little")))) (M.pure a_position) (bin dSub (bin dAdd (M.pure a_position) (M.pure (D.int 7))) (bin dMul (M.pure (D.int 2)) (bin dMod (M.pure a_position) (M.pure (D.int 8)))))))
def f_bits_at (a_what : D) (a_position : D) (a_ends : D) : M D := finM (M.bind (ifM (tst (bin dEq (bin dItem (M.pure a_what) (M.pure (D.int 0))) (M.pure (D.str "bits")))) (bin dItem (M.pure a_what) (M.pure (D.int 3))) (bin dMul (M.pure (D.int 8)) (bin dItem (M.pure a_what) (M.pure (D.int 1))))) fun v_many1 => (M.bind (mapX (M.bind (M.pure v_many1) rng1) (unT (.nm 5) (on1 fun v_more3 => (callM (ar2 f_bit_at) [(bin dAdd (M.pure a_position) (M.pure v_more3)), (M.pure a_ends)])))) fun v_some2 => (retM (callM (ar1 dTuple) [(ifM (tst (bin dEq (M.pure a_ends) (M.pure (D.str "little")))) (M.pure (D.lst v_some2)) (frz (revM (M.pure (D.lst v_some2)))))]))))
def f_Layout_berth (a_self : D) (a_path : D) : M D := finM (M.bind (methM "Layout" "checked_spot" (ar2 f_Layout_checked_spot) (M.pure a_self) [(M.pure a_path)]) (un3 fun v_what1 v_position2 v_ends3 => (ifM (notT (tst (callM (ar1 f_is_number_kind) [(M.pure v_what1)]))) (outM ((M.pure a_path).bind fun v_e4 => M.raise ⟨"BadPath", "path", v_e4⟩)) (retM (tupM [(callM (ar3 f_bits_at) [(M.pure v_what1), (M.pure v_position2), (M.pure v_ends3)]), (bin dItem (M.pure v_what1) (M.pure (D.int 2)))])))))
def f_Layout_holes (a_self : D) : M D := finM (M.bind (boxD (M.pure [])) fun v_used1 => (M.bind (M.bind (methM "Layout" "paths" (ar1 f_Layout_paths) (M.pure a_self) []) itemsS) fun v_ds6 => thenM (forM (fun (_ : Unit) v_path3 => (M.bind (updM (M.pure v_used1) (frzD (M.bind (frz (mapX (M.bind (bin dItem (methM "Layout" "berth" (ar2 f_Layout_berth) (M.pure a_self) [(M.pure v_path3)]) (M.pure (D.int 0))) itemsS) (unT (.nm 3) (on1 fun v_bit4 => (tupM [(M.pure v_bit4), (M.pure (D.bl true))]))))) dictP))) fun _ => (M.pure (.nx ())))) v_ds6 ()) (fun (_ : Unit) => (retM (frz (filX (M.bind (bin dMul (M.pure (D.int 8)) (propM "Layout" (ar1 f_Layout_size) (M.pure a_self))) rng1) (unT (.nm 3) (on1 fun v_bit5 => (tst (bin (dInK true) (M.pure v_bit5) (M.pure v_used1))))) (unT (.nm 3) (on1 fun v_bit5 => (M.pure v_bit5)))))))))
def f_Layout_octet_at (a_self : D) (a_path : D) : M D := finM (M.bind (methM "Layout" "checked_spot" (ar2 f_Layout_checked_spot) (M.pure a_self) [(M.pure a_path)]) (un3 fun v_what1 v_position2 v_ends3 => (ifM (andT (tst (callM (ar1 f_is_number_kind) [(M.pure v_what1)])) (tst (bin dEq (bin dItem (M.pure v_what1) (M.pure (D.int 0))) (M.pure (D.str "bits"))))) (outM ((M.pure a_path).bind fun v_e4 => M.raise ⟨"BadPath", "path", v_e4⟩)) (retM (bin dDiv (M.pure v_position2) (M.pure (D.int 8)))))))
end Lw
/-! all but one dict is frozen: what stands in this dict becomes values -/
namespace Dl
open PySem L2
section
variable {K : PySem.W.Frag} {mg : Str → Option Value} {G : Gh} {H : Hp} {S : MS} {p : Addr}
theorem kreps_map {G' : Gh} {H' : Hp} {f : D → D} (h : ∀ v d, Rep K G H v d → Rep K G' H' v (f d)) : ∀ {vs : List (Key × V)} {ds : List (Key × D)}, KReps K G H vs ds → KReps K G' H' vs (ds.map fun kv => (kv.1, f kv.2))
  | _, _, .nil => .nil
  | _, _, .cons r t => .cons (h _ _ r) (kreps_map h t)
end
end Dl
/-! all lists at pointers become values; dicts and instances may still change -/
namespace Dl
open PySem L2
/-- lists at pointers as values; pointers to all else stay -/
def viewL (S : MS) : Nat → D → D
  | 0, d => d
  | n + 1, .ptr k => match S.cells[k]? with
    | some (.lst ds) => .lst (ds.map (viewL S n))
    | _ => .ptr k
  | n + 1, .lst ds => .lst (ds.map (viewL S n))
  | n + 1, .tup ds => .tup (ds.map (viewL S n))
  | n + 1, .dic ks ds => .dic ks (ds.map (viewL S n))
  | n + 1, .obj k c ns ds => .obj k c ns (ds.map (viewL S n))
  | _ + 1, d => d
def Gh.lsts (G : Gh) (S : MS) : Gh := { G with Z := fun b => (∃ (i : Nat) (ds : List D), G.φ[i]? = some b ∧ S.cells[i]? = some (.lst ds)) ∨ G.Z b }
def cellL (S : MS) : Cell → Cell
  | .lst _ => .out
  | .dic kvs => .dic (kvs.map fun kv => (kv.1, viewL S 64 kv.2))
  | .ins c fs => .ins c (fs.map fun f => (f.1, viewL S 64 f.2))
  | .out => .out
def MS.lsts (S : MS) : MS := { S with cells := S.cells.map (cellL S) }
section
variable {K : PySem.W.Frag} {mg : Str → Option Value} {G : Gh} {H : Hp} {S : MS}
theorem FR.lsts : FR G H (G.lsts S) H :=
  ⟨List.prefix_rfl, rfl, rfl, rfl, fun _ _ h _ => h, fun b h => .inl (h.elim (fun y => .inl ⟨y.1, fun z => y.2 (.inr z)⟩) .inr), fun b h => .inl h, fun _ h => h, fun b o h => ⟨o, h⟩⟩
theorem lsts_mu {a : Addr} {k : Nat} {ds : List D} (w : Wf K mg G H S) (hk : G.φ[k]? = some a) (hc : S.cells[k]? = some (.lst ds)) : ¬ (G.lsts S).mu a := fun h => by
  have m := List.mem_of_getElem? hk
  rcases h with (h | h | h) | h
  · exact h.2 (.inl ⟨k, ds, hk, hc⟩)
  · exact w.na (by rw [← show a = G.sa from h]; exact m)
  · exact w.nb (by rw [← show a = G.sb from h]; exact m)
  · exact (w.zo a h).1 m
theorem lsts_mu' {a : Addr} (h : ¬ G.mu a) : ¬ (G.lsts S).mu a := fun z => h (z.elim (fun z => .inl (z.elim (fun y => .inl ⟨y.1, fun q => y.2 (.inr q)⟩) .inr)) .inr)
theorem Rep.viewL (w : Wf K mg G H S) : ∀ (n : Nat) (v : V) (d : D), Rep K G H v d → Rep K (G.lsts S) H v (viewL S n d)
  | 0, v, d, r => r.mono .lsts
  | n + 1, v, d, r => by
    have ih := Rep.viewL w n
    cases r with
    | non => exact .non
    | bl b => exact .bl b
    | int i => exact .int i
    | str x => exact .str x
    | strm => exact .strm
    | lst h z m t => exact .lst h z (lsts_mu' m) (reps_map ih t)
    | tup h z t => exact .tup h z (reps_map ih t)
    | dic h z m e t => exact .dic h z (lsts_mu' m) e (reps_map ih t)
    | obj p c h m e t => exact .obj p c h (lsts_mu' m) e (reps_map ih t)
    | @ptr b k q =>
      unfold Dl.viewL
      cases qc : S.cells[k]? with
      | none => exact .ptr q
      | some c =>
        cases c with
        | lst ds =>
          obtain ⟨xs, hx, z, t⟩ := w.cell k _ b qc q
          exact .lst hx z (lsts_mu w q qc) (reps_map ih t)
        | out => exact .ptr q
        | dic kvs => exact .ptr q
        | ins c fs => exact .ptr q
theorem freps_map {G' : Gh} {H' : Hp} {f : D → D} (h : ∀ v d, Rep K G H v d → Rep K G' H' v (f d)) : ∀ {vs : List (Str × V)} {ds : List (Str × D)}, FReps K G H vs ds → FReps K G' H' vs (ds.map fun kv => (kv.1, f kv.2))
  | _, _, .nil => .nil
  | _, _, .cons r t => .cons (h _ _ r) (freps_map h t)
theorem Wf.lsts (w : Wf K mg G H S) : Wf K mg (G.lsts S) H S.lsts := by
  have get : ∀ {i : Nat} {c : Cell}, (S.cells.map (cellL S))[i]? = some c → ∃ c0, S.cells[i]? = some c0 ∧ c = cellL S c0 := fun {i c} h1 => by
    rw [List.getElem?_map] at h1
    cases q : S.cells[i]? with
    | none => rw [q] at h1; cases h1
    | some x => rw [q] at h1; cases h1; exact ⟨x, rfl, rfl⟩
  refine ⟨?_, w.nd, fun i c b h1 h2 => ?_, fun b h => ?_, w.ha, w.hb, w.sab, w.na, w.nb, w.zs, w.hmg, fun i c b h1 h2 hn => ?_, fun b h => ?_, fun b h => ⟨(w.zo b h).1, fun z => ?_⟩⟩
  · show _ = (S.cells.map (cellL S)).length
    rw [List.length_map]; exact w.len
  · obtain ⟨c0, e0, rfl⟩ := get h1
    have cr := w.cell i c0 b e0 h2
    cases c0 with
    | out => trivial
    | lst ds => trivial
    | dic kvs =>
      obtain ⟨xs, hx, z, t⟩ := cr
      exact ⟨xs, hx, z, kreps_map (Rep.viewL w 64) t⟩
    | ins c fs =>
      obtain ⟨C, dx, gs, mm, hx, t⟩ := cr
      exact ⟨C, dx, gs, mm, hx, freps_map (Rep.viewL w 64) t⟩
  · exact w.live b (h.elim (fun h => .inl (h.elim (fun y => .inl ⟨y.1, fun z => y.2 (.inr z)⟩) .inr)) .inr)
  · obtain ⟨c0, e0, rfl⟩ := get h1
    have h2 : G.φ[i]? = some b := h2
    have hn0 : c0 ≠ .out := fun e => by subst e; exact hn rfl
    rintro (⟨j, ds, g1, g2⟩ | q)
    · obtain ⟨l1, e1⟩ := List.getElem?_eq_some_iff.mp h2
      obtain ⟨l2, e2⟩ := List.getElem?_eq_some_iff.mp g1
      have : i = j := (List.getElem_inj w.nd).mp (e1.trans e2.symm)
      subst this
      rw [g2] at e0
      cases e0
      exact hn rfl
    · exact w.nz i c0 b e0 h2 hn0 q
  · rcases h with ⟨j, ds, g1, g2⟩ | h
    · exact w.phi (List.mem_of_getElem? g1)
    · exact w.zl b h
  · rcases z with ⟨j, ds, g1, g2⟩ | z
    · exact (w.zo b h).1 (List.mem_of_getElem? g1)
    · exact (w.zo b h).2 z
end
/-- all lists at pointers, for good -/
def frzY : M Unit := fun S => .ok () S.lsts
end Dl
/-! tuple(range(..)) -/
namespace Dl
open PySem L2
end Dl
/-! x or y, where x may be None or a number -/
namespace Dl
open PySem L2
def truD : D → M Bool
  | .non => M.pure false
  | .bl b => M.pure b
  | .int i => M.pure (i != 0)
  | _ => M.bad
def orX (a b : M D) : M D := a.bind fun x => (truD x).bind fun c => if c = true then M.pure x else b
@[simp] theorem tru_non : truD .non = M.pure false := rfl
@[simp] theorem tru_bl {b : Bool} : truD (.bl b) = M.pure b := rfl
@[simp] theorem tru_int {i : Int} : truD (.int i) = M.pure (i != 0) := rfl
@[simp] theorem ev_orX {a b : M D} {S : MS} : orX a b S = (a S).andThen fun x S1 => (truD x S1).andThen fun c S2 => if c = true then .ok x S2 else b S2 := by
  unfold orX
  rw [ev_bind]
  congr 1; funext x S1
  rw [ev_bind]
  congr 1; funext c S2
  cases c <;> rfl
end Dl
/-! d[i], e[j] = a, b of dicts -/
namespace Dl
open PySem L2
section
variable {X : Cx} {C L : Type} {k : Ct C L} {ρ : List Slot} {mo mi mo2 mi2 mv : M D} {st : Stmt} {rest : List Stmt} {n : Nat}
theorem set_dictR (hu : Room n X.A) : PSet X rSetD := set_dict (by have := hu.units; omega)
/-- one of the two -/
theorem put_one {G0 : Gh} {H0 : Hp} {G1 : Gh} {H1 : Hp} {σ : L2.St} {S1 : MS} {D : Ends} {v : V} {d : Dl.D} {m2 : M (Fl C L)} {R : L2.St → Hp → Prop} (w : Wk ρ k.x) (s1 : SI X.K X.mg G0 H0 G1 H1 σ ρ S1) (rv : Rep X.K G1 H1 v d)
    (h : okS X.K X.mg k G0 H0 G1 H1 D ((mo.bind fun o => mi.bind fun i => (setK o i d).bind fun _ => m2) S1))
    (next : ∀ G4 H4 S4, SI X.K X.mg G0 H0 G4 H4 σ ρ S4 → LR G1 H1 G4 H4 → okS X.K X.mg k G0 H0 G4 H4 D (m2 S4) → R σ H4) :
    gSub (tG X.K X.mg k.W (RD X.K) ρ mo) (tG X.K X.mg k.W (RD X.K) ρ mi) rSetD v σ H1 R := by
  refine ⟨G0, H0, G1, S1, s1, okS.bind2 h w fun G2 H2 S2 ov od s2 f2 r2 h2 => ⟨G0, H0, G2, S2, s2, okS.bind2 h2 w fun G3 H3 S3 iv id s3 f3 r3 h3 => ?_⟩⟩
  have rv := rv.mono (f2.trans f3)
  have ro := r2.mono f3
  unfold setK M.bind at h3
  cases ro with
  | ptr q =>
    rename_i a kk
    cases qc : S3.cells[kk]? with
    | none => simp only [qc] at h3; exact h3.elim
    | some c =>
      cases c with
      | dic kvs =>
        cases qk : keyOf id with
        | none => simp only [qc, qk] at h3; exact h3.elim
        | some key =>
          simp only [qc, qk] at h3
          by_cases z : szLt kvs.length = true
          · rw [if_pos z] at h3
            obtain ⟨ks, hH, hz, t⟩ := s3.wf.cell kk _ a qc q
            have hl : ks.length < sizeLine := by rw [t.len]; exact of_decide_eq_true z
            have ei := key_of r3 qk
            subst ei
            have lr : LR G3 H3 G3 (upd H3 a (.dK (putK ks key v))) := .put hH (fun z => z) (.inl (.inl ⟨List.mem_of_getElem? q, s3.wf.nz _ _ _ qc q (by intro h; cases h)⟩))
            refine ⟨a, _, rfl, DPut.k hH hl, next G3 _ (S3.put kk (.dic (putKD kvs key d))) (s3.putC q hH (fun z => z) (s3.wf.nz _ _ _ qc q (by intro h; cases h)) ⟨_, upd_same, ?_, (t.put rv).lr lr⟩) ((f2.trans f3).lr.trans lr) (okS.from h3 lr)⟩
            have := length_putK ks key v
            omega
          · rw [if_neg z] at h3; exact h3.elim
      | lst _ => simp only [qc] at h3; exact h3.elim
      | ins _ _ => simp only [qc] at h3; exact h3.elim
      | out => simp only [qc] at h3; exact h3.elim
  | _ => exact h3.elim
end
end Dl
/-! several values at once, to names that comprehensions read -/
namespace Dl
open PySem L2
end Dl
/-! D78: a comprehension over zip of two lists whose target is one name (the pair that was handed out before may still be there, or be gone). -/
namespace Dl
open PySem PySem.Spec PyProof.Rows L2
end Dl
/-! D79: d.get(key, default). -/
namespace Dl
open PySem L2
end Dl
/-! D80: try with several clauses, each with a name. -/
namespace L2
open PySem PySem.Spec PyProof.Rows
/-- what the clauses 'except c as n' wish of an exception of the body, one after the other; slot i is n's -/
def wManyA (K : PySem.W.Frag) (Wout : WX) (D : Ends) : List (Value × Nat × (Addr → Value → Option Addr → TS)) → WX
  | [] => Wout
  | (c, i, ts) :: r => fun cls d σ H => ∃ b, PySem.W.exmOne K cls c = some b ∧ (b = true → ∀ a, H a = none → ts a cls d { nx := fun σ' H' => D.nx (σ'.set i none) H', rt := D.rt, bk := fun σ' H' => D.bk (σ'.set i none) H', ct := fun σ' H' => D.ct (σ'.set i none) H' } (σ.set i (some (.ref a))) H) ∧
    (b = false → wManyA K Wout D r cls d σ H)
inductive HdsA (X : Cx) : List ExceptHandler → List (Value × Nat × (Addr → Value → Option Addr → TS)) → Prop
  | nil : HdsA X [] []
  | cons {x n : Str} {i : Nat} {c : Value} {ts : Addr → Value → Option Addr → TS} {b₀ : Stmt} {suite : List Stmt} {np pos' : Pos} {hds : List ExceptHandler} {l : List (Value × Nat × (Addr → Value → Option Addr → TS))} (hi : X.N[i]? = some n) (hln : X.env.kindOf n = some .local) (hc : Names X x c)
      (hsu : ∀ (a : Addr) (oe : Obj) (cls : Value) (d : Option Addr) (pn : List (Addr × Obj)), Zc cls d oe → (∃ vs, oe.data = .fields vs) → PSs (X.suite a ((a, oe) :: pn)) (b₀ :: suite) (ts a cls d)) (r : HdsA X hds l) :
      HdsA X (.ExceptHandler (some (.Name x np)) (some n) (b₀ :: suite) pos' :: hds) ((c, i, ts) :: l)
section
variable {X : Cx} {body : List Stmt} {h₀ : ExceptHandler} {hds : List ExceptHandler} {l : List (Value × Nat × (Addr → Value → Option Addr → TS))} {pos : Pos} {tb : WX → TS} {Wout : WX}
theorem ps_try_manyA (hs : X.stack = X.env :: X.outer) (hf : X.env.frame = some X.env.locals) (hN : X.N.Nodup) (tk : Takes X Wout)
    (hb : ∀ (W : WX) (pn : List (Addr × Obj)) (xe : Value → Shared → Prop), Takes (X.tr pn xe) W → PassesOwn (model X.prog X.w) X.A X.env xe → PSs (X.tr pn xe) body (tb W))
    (hh : HdsA X (h₀ :: hds) l) : PS X (.Try body (h₀ :: hds) [] [] pos) (fun D σ H => tb (wManyA X.K Wout D l) D σ H) := by
  refine ⟨fun pins s σ H D I h => ?_⟩
  have ok := I.ok
  have hfr : X.A.frames = some (X.env :: X.outer) := by rw [ok.frames, hs]
  refine wpAny_Try_except ?_
  refine wpAny_mono ((hb (wManyA X.K Wout D l) (X.pn ++ pins) (fun e s₁ => wpAny (model X.prog X.w) X.A (noteFrame e X.env) (fun _ s₂ => wpAny (model X.prog X.w) X.A (setFlight e none) (fun _ s₃ =>
    wpAny (model X.prog X.w) X.A (handleBy e X.env (h₀ :: hds)) (SP X pins D) X.xe s₃) X.xe s₂) X.xe s₁) (fun u s' xx => ?_) PassesOwn.looking).run [] s σ H D (I.toTry _) h) (fun f s1 hsp => ?_) (fun e s1 he => he)
  · -- the catch
    obtain ⟨a, B, sI, pins', σ', H', cls, d, rfl, J', nb, up, sky, na, os, ag, w⟩ := xx
    have J : Inv X pins σ' H' sI := J'.ofTry ok
    have sky' : Sky B (X.env :: X.outer) a (Zc cls d) X.env.locals s'.heap := by rw [← hs]; exact sky
    show wpAny (model X.prog X.w) X.A (noteFrame (.ref a) X.env) _ _ _
    refine Sky.land Zc.steady hfr hf sky' fun h3 fl3 up3 => ?_
    have J3 : Inv X pins σ' H' { s' with heap := h3 } := J.landed nb fl3.1 (up.trans up3) os ag
    obtain ⟨oe3, vs3, he3, hz3, hd3⟩ := fl3.there
    have notFr : ∀ {h : Heap} {o : Obj} {vs : Array Value}, h.FunFrames B (X.env :: X.outer) → h.get? a = some o → o.data = .fields vs → a ∉ frs (X.env :: X.outer) := fun {h o vs} ff e dd hm => by
      obtain ⟨_, o', e', hnf⟩ := ff.mem hm
      rw [e] at e'; cases e'
      exact hnf _ dd
    have nfr := notFr fl3.2.2.1 he3 hd3
    have nL : a ≠ X.env.locals := fun z => nfr (List.mem_filterMap.mpr ⟨X.env, List.mem_cons_self, by rw [hf, z]⟩)
    have nF : a ∉ X.fs := fun hm => by
      obtain ⟨e, he, q⟩ := List.mem_filterMap.mp hm
      exact nfr (List.mem_filterMap.mpr ⟨e, List.mem_cons_of_mem _ he, q⟩)
    have S3 := J3.suite he3 hd3 na nL nF
    have go : ∀ {hds' : List ExceptHandler} {l' : List (Value × Nat × (Addr → Value → Option Addr → TS))}, HdsA X hds' l' → wManyA X.K Wout D l' cls d σ' H' →
        wpAny (model X.prog X.w) X.A (handleBy (.ref a) X.env hds') (SP X pins D) X.xe { s' with heap := h3 } := by
      intro hds' l' hk
      induction hk with
      | nil =>
        intro w
        refine wpAny_handleBy_nil ?_
        obtain ⟨k1, k2, k3, oe, vs, T, oT, ts', he, hz, hd, h1, hr⟩ := id fl3
        unfold PySem.passOn
        refine wpAny_bind (wpAny_field he hd h1 ?_)
        rw [if_neg (show ¬ ((Value.ref T == Value.none) = true) from by simp)]
        have fin : wpAny (model X.prog X.w) X.A (setFlight (.ref a) X.env.frame) (fun _ s4 => wpAny (model X.prog X.w) X.A (throw (.ref a) : Sem Flow) (SP X pins D) X.xe s4) X.xe { s' with heap := h3 } := by
          rw [hf]
          refine HandSPX.setFlight_upZ fl3 fun h4 hh4 up4 => wpAny_throw (tk _ _ ?_)
          exact ⟨a, B, sI, pins, σ', H', cls, d, rfl, J, nb, (up.trans up3).trans up4, .inr (.inr (by rw [hs]; exact hh4)), na, os, ag, w⟩
        first
          | exact wpAny_bind (wpAny_pure (wpAny_bind fin))
          | exact wpAny_bind fin
      | @cons x n i c ts b₀ suite np pos' hds2 l2 hi hln hc hsu r ih =>
        intro w
        obtain ⟨b, hb1, hyes, hno⟩ := w
        refine wpAny_handleBy_cons (codeAny_handlers_test ?_) (by intro q; cases q)
        have LT : PySem.W.Looks (model X.prog X.w) h3 (typeOf (.ref a)) cls := fun A Q E s k q => wpAny_typeOf_ref (k _ _ he3) (by rw [hz3.1]; exact q)
        have LM := PySem.W.exm_one (M := model X.prog X.w) (J3.kIn) LT hb1
        have test : ∀ {Q : Value → Shared → Prop} {E : Value → Shared → Prop}, Q c { s' with heap := h3 } → wpAny (model X.prog X.w) (X.A.mark (some (.ref a))) (eval (.Name x np) X.env) Q E { s' with heap := h3 } := fun {Q E} q => by
          obtain ⟨hg, hdbg, hm | ⟨hm, hv, hnn⟩⟩ := hc
          · exact ld_glob (X := X.suite a ((a, oe3) :: (X.pn ++ pins))) S3 hg hm q hdbg
          · exact ld_blt (X := X.suite a ((a, oe3) :: (X.pn ++ pins))) S3 hg hm hv q hnn hdbg
        refine test (LM.here ?_)
        cases b with
        | true =>
          refine codeAny_handlers_suite_as ?_
          refine HandSPX.lands_againZ fl3 fun h4 fl4 up4 => ?_
          have J4 : Inv X pins σ' H' { s' with heap := h4 } := J.landed nb fl4.1 ((up.trans up3).trans up4) os ag
          obtain ⟨oe4, vs4, he4, hz4, hd4⟩ := fl4.there
          have S4 := J4.suite he4 hd4 na nL nF
          have hloc : Loc X.env.scope n := .inl hln
          refine store_ok (X := X.suite a ((a, oe4) :: (X.pn ++ pins))) (v := .ref a) S4 hN hi hloc rfl (fun s5 S5 => ?_) (.inr hln)
          refine wpAny_mono ((hsu a oe4 cls d (X.pn ++ pins) hz4 ⟨_, hd4⟩).run [] s5 _ H' _ S5 (hyes rfl a na)) (fun f s6 hsp => ?_) (fun _ _ z => False.elim z)
          have end_ : ∀ {σ6 : St} {H6 : Hp} {Q : Shared → Prop}, Inv (X.suite a ((a, oe4) :: (X.pn ++ pins))) [] σ6 H6 s6 → (∀ s7, Inv X pins (σ6.set i none) H6 s7 → Q s7) →
              wpAny (model X.prog X.w) X.A (do bindName X.env n .none; unbindBehindTheSuite X.env n pos') (fun _ s7 => Q s7) X.xe s6 := fun {σ6 H6 Q} S6 hq => gone_ok (S6.unsuite ok) hN hi hln hq
          cases f with
          | next =>
            obtain ⟨σ6, H6, S6, q6⟩ := hsp
            exact end_ S6 fun s7 J7 => ⟨_, _, J7, q6⟩
          | brk =>
            obtain ⟨σ6, H6, S6, q6⟩ := hsp
            exact end_ S6 fun s7 J7 => ⟨_, _, J7, q6⟩
          | cont =>
            obtain ⟨σ6, H6, S6, q6⟩ := hsp
            exact end_ S6 fun s7 J7 => ⟨_, _, J7, q6⟩
          | ret u =>
            obtain ⟨v6, σ6, H6, S6, r6, q6⟩ := hsp
            exact end_ S6 fun s7 J7 => ⟨_, _, _, J7, r6, q6⟩
        | false =>
          show wpAny _ X.A (handleBy (.ref a) X.env hds2) _ _ _
          exact ih (hno rfl)
    exact go hh w
  · cases f with
    | next =>
      obtain ⟨σ', H', J', q⟩ := hsp
      exact wpAny_execs_nil ⟨σ', H', J'.ofTry ok, q⟩
    | brk =>
      obtain ⟨σ', H', J', q⟩ := hsp
      exact ⟨σ', H', J'.ofTry ok, q⟩
    | cont =>
      obtain ⟨σ', H', J', q⟩ := hsp
      exact ⟨σ', H', J'.ofTry ok, q⟩
    | ret u =>
      obtain ⟨v, σ', H', J', r, q⟩ := hsp
      exact ⟨v, σ', H', J'.ofTry ok, r, q⟩
end
end L2
/-! D81: try with several named clauses, over D. -/
namespace Dl
open PySem L2
/-- the clause that an error goes to; of none it goes on -/
def pickA {α : Type} (e : Err) (S' : MS) : List (Str × Str × (D → M α)) → Res α
  | [] => .err e S'
  | (x, f, hd) :: r => if e.cls = x then (if e.fld = f then calmM (hd e.val) S' else .bad) else pickA e S' r
def tryA {α : Type} (all : List Str) (hs : List (Str × Str × (D → M α))) (m : M α) : M α := fun S => match m S with
  | .err e S' => if all.contains e.cls = true then pickA e S' hs else .bad
  | r => r
section
variable {X : Cx} {C L : Type} {k : Ct C L} {ρ : List Slot} {pos : Pos} {rest : List Stmt}
theorem si_hold {K : PySem.W.Frag} {mg : Str → Option Value} {G0 G' : Gh} {H0 H' : Hp} {σ' : L2.St} {ρx : List Slot} {S1 : MS} {i : Nat} {a dd C' : Addr} {f : Str} {d : D} {v : V} (s' : SI K mg G0 H0 G' H' σ' ρx S1) (hdd : H' dd = some (.xd [(f, v)])) (hmu : ¬ G'.mu dd) (rv : Rep K G' H' v d) : SI K mg G0 H0 G' H' (σ'.set i (some (.ref a))) (ρx.set i (.exc a dd f d)) S1 := by
  have hlen : σ'.length = ρx.length := s'.len
  refine ⟨s'.fr, s'.live0, s'.wf, by rw [List.length_set, List.length_set]; exact s'.len, fun j y hy => ?_, fun j j' ds es l nj h1 h2 h3 => ?_⟩
  · by_cases ej : i = j
    · subst ej
      by_cases hl : i < ρx.length
      · rw [List.getElem?_set_self hl] at hy
        cases hy
        exact ⟨List.getElem?_set_self (by rw [hlen]; exact hl), v, hdd, hmu, rv⟩
      · rw [List.getElem?_eq_none (by rw [List.length_set]; omega)] at hy; cases hy
    · rw [List.getElem?_set_ne ej] at hy ⊢
      exact s'.env j y hy
  · have ne : ∀ {c : Nat} {fs : List Dl.D}, (ρx.set i (.exc a dd f d))[c]? = some (.own fs) → i ≠ c ∧ ρx[c]? = some (.own fs) := fun {c fs} h => by
      by_cases e : i = c
      · subst e
        by_cases hl : i < ρx.length
        · rw [List.getElem?_set_self hl] at h; cases h
        · rw [List.getElem?_eq_none (by rw [List.length_set]; omega)] at h; cases h
      · rw [List.getElem?_set_ne e] at h
        exact ⟨e, h⟩
    obtain ⟨n1, q1⟩ := ne h1
    obtain ⟨n2, q2⟩ := ne h2
    rw [List.getElem?_set_ne n1] at h3
    rw [List.getElem?_set_ne n2]
    exact s'.apart j j' ds es l nj q1 q2 h3
theorem si_gone {K : PySem.W.Frag} {mg : Str → Option Value} {G0 G2 : Gh} {H0 H2 : Hp} {σ2 : L2.St} {ρ2 : List Slot} {S2 : MS} {i : Nat} (s2 : SI K mg G0 H0 G2 H2 σ2 ρ2 S2) (hρ : ρ2[i]? = some .any ∨ ρ2[i]? = none) : SI K mg G0 H0 G2 H2 (σ2.set i none) ρ2 S2 := by
  have noti : ∀ {j : Nat} {y : Slot}, ρ2[j]? = some y → y ≠ .any → i ≠ j := fun {j y} hy ny e => by
    subst e
    rcases hρ with hρ | hρ
    · rw [hρ] at hy; cases hy; exact ny rfl
    · rw [hρ] at hy; cases hy
  refine ⟨s2.fr, s2.live0, s2.wf, by rw [List.length_set]; exact s2.len, fun j y hy => ?_, fun j j' ds es l nj h1 h2 h3 => ?_⟩
  · cases y with
    | any => trivial
    | val d => rw [List.getElem?_set_ne (noti hy (fun z => nomatch z))]; exact s2.env j _ hy
    | own d => rw [List.getElem?_set_ne (noti hy (fun z => nomatch z))]; exact s2.env j _ hy
    | exc _ _ _ _ => rw [List.getElem?_set_ne (noti hy (fun z => nomatch z))]; exact s2.env j _ hy
  · rw [List.getElem?_set_ne (noti h1 (fun z => nomatch z))] at h3
    rw [List.getElem?_set_ne (noti h2 (fun z => nomatch z))]
    exact s2.apart j j' ds es l nj h1 h2 h3
/-- the clauses: each is walked with its name holding the error -/
inductive ClA {J : Type} (X : Cx) (k : Ct C L) (emb : J → List Slot) (ρx : List Slot) (all : List Str) : List ExceptHandler → List (Str × Str × (D → M (Fl J L))) → Prop
  | nil : ClA X k emb ρx all [] []
  | cons {x n f : Str} {CA : Addr} {i : Nat} {b₀ : Stmt} {suite : List Stmt} {np pos' : Pos} {mh : D → M (Fl J L)} {hds : List ExceptHandler} {l : List (Str × Str × (D → M (Fl J L)))}
      (hmg : X.mg x = some (.ref CA)) (hyes : PySem.W.exmOne X.K (.ref CA) (.ref CA) = some true) (hno : ∀ y ∈ all, y ≠ x → ∀ C', X.mg y = some (.ref C') → PySem.W.exmOne X.K (.ref C') (.ref CA) = some false)
      (hsu : ∀ (a dd : Addr) (oe : Obj) (d : D) (pn : List (Addr × Obj)), Zc (.ref CA) (some dd) oe → (∃ vs, oe.data = .fields vs) → SD (X.suite a ((a, oe) :: pn)) (⟨W0, List.replicate ρx.length .any, emb, k.embL, k.R⟩ : Ct J L) (ρx.set i (.exc a dd f d)) (b₀ :: suite) (mh d))
      (he : ∀ c, (emb c)[i]? = some .any) (hel : ∀ l, (k.embL l)[i]? = some .any ∨ (k.embL l)[i]? = none) (r : ClA X k emb ρx all hds l)
      (hi : X.N[i]? = some n := by rfl) (hln : X.env.kindOf n = some .local := by rfl) (hgx : Gl X x := by rfl) (hdx : (x == ("__debug__" : Str)) = false := by decide) :
      ClA X k emb ρx all (.ExceptHandler (some (.Name x np)) (some n) (b₀ :: suite) pos' :: hds) ((x, f, mh) :: l)
theorem ClA.ts {J : Type} {emb : J → List Slot} {ρx : List Slot} {all : List Str} (wx : Wk ρx k.x) {hds : List ExceptHandler} {l : List (Str × Str × (D → M (Fl J L)))} (c : ClA X k emb ρx all hds l) :
    ∃ l', HdsA X hds l' ∧ ∀ (Dn : Ends) (G0 G : Gh) (H0 H : Hp) (er : Err) (S1 : MS), er.cls ∈ all → okS X.K X.mg (k.to emb) G0 H0 G H Dn (pickA er S1 l) →
      ∀ cls da σ' G' H', SI X.K X.mg G0 H0 G' H' σ' ρx S1 → LR G H G' H' → ErrRep X.K X.mg G' H' er cls da → wManyA X.K k.W Dn l' cls da σ' H' := by
  induction c with
  | nil => exact ⟨[], .nil, fun Dn G0 G H0 H er S1 _ h1 cls da σ' G' H' s' lr er' => h1 cls da σ' G' H' (s'.weak wx) lr er'⟩
  | @cons x n f CA i b₀ suite np pos' mh hds l hmg hyes hno hsu he hel r hi hln hgx hdx ih =>
    obtain ⟨l', hh, ih⟩ := ih
    let ts : Addr → Value → Option Addr → TS := fun a cls d D σ H => ∃ dd dat, cls = .ref CA ∧ d = some dd ∧ tS X.K X.mg (⟨W0, List.replicate ρx.length .any, emb, k.embL, k.R⟩ : Ct J L) (ρx.set i (.exc a dd f dat)) (mh dat) D σ H
    have hts : ∀ (a : Addr) (oe : Obj) (cls : Value) (d : Option Addr) (pn : List (Addr × Obj)), Zc cls d oe → (∃ vs, oe.data = .fields vs) → PSs (X.suite a ((a, oe) :: pn)) (b₀ :: suite) (ts a cls d) := fun a oe cls d pn hz hv => ⟨fun pins s σ H D I ⟨dd, dat, e1, e2, q⟩ => by
      subst e1 e2
      exact (hsu a dd oe dat pn hz hv).run pins s σ H D I q⟩
    refine ⟨(.ref CA, i, ts) :: l', .cons hi hln ⟨hgx, hdx, .inl hmg⟩ hts hh, fun Dn G0 G H0 H er S1 ha h1 cls da σ' G' H' s' lr erep => ?_⟩
    have erep' := erep
    obtain ⟨C', dd, v, hC, e1, e2, hdd, hmu, rv⟩ := erep
    subst e1 e2
    unfold pickA at h1
    by_cases ec : er.cls = x
    · rw [if_pos ec] at h1
      by_cases ef : er.fld = f
      case neg => rw [if_neg ef] at h1; exact h1.elim
      rw [if_pos ef] at h1
      rw [ef] at hdd
      rw [ec, hmg] at hC; cases hC
      refine ⟨true, hyes, fun _ a ha => ?_, (fun z => nomatch z)⟩
      refine ⟨dd, er.val, rfl, rfl, G0, H0, G', S1, si_hold (C' := CA) s' hdd hmu rv, ?_⟩
      have h2 := okS.from h1 lr
      unfold calmM at h2
      cases qh : mh er.val S1 with
      | ok z S2 =>
        rw [qh] at h2
        cases z with
        | nx c => exact fun σ3 G3 H3 s3 l3 => h2 _ G3 H3 (si_gone s3 (.inl (he c))) l3
        | ret d => exact h2
        | brk l => exact fun σ3 G3 H3 s3 l3 => h2 _ G3 H3 (si_gone s3 (hel l)) l3
        | cnt l => exact fun σ3 G3 H3 s3 l3 => h2 _ G3 H3 (si_gone s3 (hel l)) l3
      | err _ _ => rw [qh] at h2; exact h2.elim
      | bad => rw [qh] at h2; exact h2
    · rw [if_neg ec] at h1
      exact ⟨false, hno _ ha ec C' hC, (fun z => nomatch z), fun _ => ih Dn G0 G H0 H er S1 ha h1 _ _ σ' G' H' s' lr erep'⟩
theorem sd_tryA {J : Type} (emb : J → List Slot) (ρx : List Slot) {all : List Str} {body : List Stmt} {h₀ : ExceptHandler} {hds : List ExceptHandler} {l : List (Str × Str × (D → M (Fl J L)))} {mb : M (Fl J L)} {fr : J → M (Fl C L)}
    (w : Wk ρ k.x) (wx : Wk ρx k.x) (tk : Takes X k.W) (hN : X.N.Nodup)
    (hb : ∀ (W : WX) (pn : List (Addr × Obj)) (xe : Value → Shared → Prop), Takes (X.tr pn xe) W → PassesOwn (model X.prog X.w) X.A X.env xe → SD (X.tr pn xe) (⟨W, ρx, emb, k.embL, k.R⟩ : Ct J L) ρ body mb)
    (hc : ClA X k emb ρx all (h₀ :: hds) l) (hr : ∀ c, SD X k (emb c) rest (fr c))
    (hs : X.stack = X.env :: X.outer := by rfl) (hf : X.env.frame = some X.env.locals := by rfl) :
    SD X k ρ (.Try body (h₀ :: hds) [] [] pos :: rest) (thenM (tryA all l mb) fr) := by
  let ur : TS := fun D σ H => ∃ c, tS X.K X.mg k (emb c) (fr c) D σ H
  have hur : PSs X rest ur := ⟨fun pins s σ H D I ⟨c, q⟩ => (hr c).run pins s σ H D I q⟩
  obtain ⟨l', hh, key⟩ := hc.ts wx
  refine PSs.imp (pss_cons (ps_try_manyA (tb := fun W => tS X.K X.mg (⟨W, ρx, emb, k.embL, k.R⟩ : Ct J L) ρ mb) hs hf hN tk hb hh) hur) fun D σ H ⟨G0, H0, G, S, si, h⟩ => ?_
  have h1 : okS X.K X.mg (k.to emb) G0 H0 G H { D with nx := ur D } (tryA all l mb S) := okS.then h (fun c S1 σ G H si _ h => ⟨c, G0, H0, G, S1, si, h⟩) rfl rfl rfl
  refine ⟨G0, H0, G, S, si, ?_⟩
  unfold tryA at h1
  cases q : mb S with
  | ok z S1 => rw [q] at h1; cases z <;> exact h1
  | bad => rw [q] at h1; exact h1
  | err er S1 =>
    rw [q] at h1
    simp only at h1
    by_cases en : all.contains er.cls = true
    · rw [if_pos en] at h1
      exact fun cls da σ' G' H' s' lr erep => key _ G0 G H0 H er S1 (by simpa using en) h1 cls da σ' G' H' s' lr erep
    · rw [if_neg en] at h1; exact h1.elim
end
end Dl
namespace Dl
open PySem L2
/-- an error of class y is none of class x -/
def NX (K : PySem.W.Frag) (mg : Str → Option Value) (y x : Str) : Prop := ∀ C' CA, mg y = some (.ref C') → mg x = some (.ref CA) → PySem.W.exmOne K (.ref C') (.ref CA) = some false
def HN (K : PySem.W.Frag) (mg : Str → Option Value) (all : List Str) (x : Str) (CA : Addr) : Prop := ∀ y ∈ all, y ≠ x → ∀ C', mg y = some (.ref C') → PySem.W.exmOne K (.ref C') (.ref CA) = some false
section
variable {K : PySem.W.Frag} {mg : Str → Option Value} {all : List Str} {x y : Str} {CA CB : Addr}
theorem hn_nil : HN K mg [] x CA := fun _ h => nomatch h
theorem hn_same (r : HN K mg all x CA) : HN K mg (x :: all) x CA := fun y hy ne C' h => by
  rcases List.mem_cons.mp hy with q | q
  · exact absurd q ne
  · exact r y q ne C' h
theorem hn_ne (n : NX K mg y x) (hm : mg x = some (.ref CA)) (r : HN K mg all x CA) : HN K mg (y :: all) x CA := fun z hz ne C' h => by
  rcases List.mem_cons.mp hz with q | q
  · subst q; exact n C' CA h hm
  · exact r z q ne C' h
theorem nx_of (h1 : mg y = some (.ref CB)) (h2 : mg x = some (.ref CA)) (h : PySem.W.exmOne K (.ref CB) (.ref CA) = some false) : NX K mg y x := fun C' C h3 h4 => by
  rw [h1] at h3; cases h3
  rw [h2] at h4; cases h4
  exact h
end
end Dl
/-! D82: d[i], name = a pair. -/
namespace Dl
open PySem L2
end Dl
/-! calls with nothing handed over -/
namespace L2
open PySem
end L2
namespace Dl
open PySem L2
end Dl
/-! xs.pop(i), xs a list at a pointer -/
namespace Dl
open PySem L2
theorem Reps.eraseIdx {K : PySem.W.Frag} {G : Gh} {H : Hp} : ∀ {xs : List V} {ds : List D} (i : Nat), Reps K G H xs ds → Reps K G H (xs.eraseIdx i) (ds.eraseIdx i)
  | _, _, _, .nil => by rw [List.eraseIdx_nil, List.eraseIdx_nil]; exact .nil
  | _, _, 0, .cons a t => t
  | _, _, i + 1, .cons a t => .cons a (Reps.eraseIdx i t)
def popAt (o i : D) : M D := fun S => match o, i with
  | .ptr k, .int i => match S.cells[k]? with
    | some (.lst ds) => if 0 ≤ i then match ds[i.toNat]? with
      | some d => .ok d (S.put k (.lst (ds.eraseIdx i.toNat)))
      | none => .bad
      else .bad
    | _ => .bad
  | _, _ => .bad
def popAtM (mo mi : M D) : M D := mo.bind fun o => (isLstP o).bind fun _ => mi.bind fun i => popAt o i
@[simp] theorem ev_popAtM {mo mi : M D} {S : MS} : popAtM mo mi S = (mo S).andThen fun o S1 => (isLstP o S1).andThen fun _ S2 => (mi S2).andThen fun i S3 => popAt o i S3 := by simp [popAtM]
end Dl
/-! loops over enumerate(x), x a text -/
namespace PySem
end PySem
namespace L2
open PySem PySem.Spec PyProof.Rows
end L2
namespace Dl
open PySem L2
end Dl
/-! texts of data (repr): a def at one place of the stack, of which it is known that no repr runs below -/
namespace Dl
open PySem L2 PySem.Spec PyProof.Rows
end Dl
/-! the law itself, where its body or its helpers ask for texts (repr) -/
namespace Dl
open PySem L2 PySem.Spec PyProof.Rows
end Dl
/-! sum of lists, put end to end: sum(rows, []) -/
namespace Dl
open PySem L2 PySem.Spec PyProof.Rows
def flatF (zs : Nat → List Value) : Nat → Nat → List Value
  | _, 0 => []
  | i, k + 1 => zs i ++ flatF zs (i + 1) k
abbrev lstO (its : List Value) (n : Nat) : Obj := { cls := .type "list", data := .seq its.toArray n }
theorem args_sum2 (a b : Value) : argsOk "sum" ⟨[a, b], []⟩ := by unfold argsOk; kernel_rfl
theorem sub_list_str : isSubtype (.type "list") (.type "str") = pure false := by rw [isSubtype_type]; kernel_rfl
theorem sub_list_bytes : isSubtype (.type "list") (.type "bytes") = pure false := by rw [isSubtype_type]; kernel_rfl
theorem sub_list_barr : isSubtype (.type "list") (.type "bytearray") = pure false := by rw [isSubtype_type]; kernel_rfl
section
variable {prog : Program} {w : World} {A : Around} {R : Result → Shared → Prop} {I S : Addr} {fp wr : List Addr} {n : Nat} {P : Nat → Value → Prop} {St : Nat → Heap → Prop}
/-- what a turn needs of the rows that are still to come -/
def Rows (h : Heap) (S : Addr) (wr : List Addr) (bs : Nat → Addr) (zs : Nat → List Value) (i n : Nat) : Prop := ∀ j, i ≤ j → j < n → bs j ≠ S ∧ bs j ∉ wr ∧ ∃ e, h.get? (bs j) = some (lstO (zs j) e)
theorem sum_rows (W : Walks prog w A.in1 I fp wr n P St) {bs : Nat → Addr} {zs : Nat → List Value} (hv : ∀ i v, P i v → v = Value.ref (bs i)) (hS : S ∉ fp) (hI : ∀ i h, St i h → ∀ b ∈ wr, b < h.objs.size) : ∀ (k i : Nat) (s : Shared) (T : Addr) (acc : List Value) (c ep : Nat), n - i = k → i ≤ n → St i s.heap → s.heap.get? S = some (lstO [.ref T] c) →
    s.heap.get? T = some (lstO acc ep) → T ∉ wr → T ≠ S → Rows s.heap S wr bs zs i n → (acc ++ flatF zs i k).length ≤ sizeLine →
    (∀ h' tk T' ep', (∀ b o, b ∉ wr → b ≠ S → s.heap.get? b = some o → h'.get? b = some o) → h'.get? T' = some (lstO (acc ++ flatF zs i k) ep') → (k = 0 → T' = T) → (k ≠ 0 → ∀ b ∈ wr, b < T') → R (.ok (.ret (.ref T'))) { s with heap := h', toks := tk }) →
    codeAny (model prog w) A (.builtin "sum.loop" ⟨[.ref I, .ref S, rawInt 2, rawInt 0], []⟩) R s
  | 0, i, s, T, acc, c, ep, hk, hi, st, h1, h2, h3, h4, h5, h6, h7 => by
    have e : i = n := by omega
    subst e
    refine codeAny_builtin F.entry_sum_loop ?_
    rw [Around.under_plainId F.plain_sum_loop _]
    refine wpAny_bind (m := seqItems? (.ref S)) (wpAny_seqItems h1 rfl (wpAny_bind (m := tryCatch (pyNext (.ref I)) _) (wpAny_tryCatch (W.done s _ _ st fun h' tk k => wpAny_pure (h7 h' tk T ep (fun b o x _ e => k b o x e) ?_ (fun _ => rfl) fun z => absurd rfl z)))))
    show h'.get? T = some (lstO (acc ++ []) ep)
    rw [List.append_nil]
    exact k T _ h3 h2
  | k + 1, i, s, T, acc, c, ep, hk, hi, st, h1, h2, h3, h4, h5, h6, h7 => by
    have hlt : i < n := by omega
    have Sw : S ∉ wr := fun z => hS (W.sub _ z)
    obtain ⟨r1, r2, e0, r3⟩ := h5 i (Nat.le_refl _) hlt
    have z1 : acc.length + (zs i).length ≤ sizeLine := by
      unfold flatF at h6
      rw [List.length_append, List.length_append] at h6
      omega
    refine codeAny_builtin F.entry_sum_loop ?_
    rw [Around.under_plainId F.plain_sum_loop _]
    refine wpAny_bind (m := seqItems? (.ref S)) (wpAny_seqItems h1 rfl (wpAny_bind (m := tryCatch (pyNext (.ref I)) _) (wpAny_tryCatch (W.item i s _ _ hlt st fun v h' tk hP st' k' => ?_))))
    have ev := hv i v hP
    subst ev
    have S1 := k' S _ Sw h1
    have T1 := k' T _ h3 h2
    have B1 := k' _ _ r2 r3
    have ea : (acc.toArray ++ (zs i).toArray) = (acc ++ zs i).toArray := by simp
    show wpAny _ A.in1 ((holding [Value.ref (bs i)] (binaryOp .Add (.ref T) (.ref (bs i)))).attempt >>= _) _ _ _
    refine wpAny_bind (wpAny_attempt (wpAny_holding (PySem.P.add_list T1 B1 ?_ (by rw [List.size_toArray, List.size_toArray]; exact z1))))
    rw [ea]
    have S2 := Heap.get?_push_of_some (o := lstO (acc ++ zs i) 0) S1
    show wpAny _ A.in1 (updateSeq S (fun _ => #[.ref h'.objs.size]) >>= _) _ _ _
    refine wpAny_bind (wpAny_updateSeq S2 rfl ?_)
    have S3 := Heap.get?_update_self (Obj.mapSeq fun _ => #[Value.ref h'.objs.size]) S2 rfl
    refine wpAny_bind (wpAny_letGo (wpAny_bind (wpAny_updateSeq S3 rfl (wpAny_pure ⟨plainId_quiet F.plain_sum_loop _, ?_⟩))))
    have old : ∀ b o, b ≠ S → h'.get? b = some o → (((h'.push (lstO (acc ++ zs i) 0)).update S (Obj.mapSeq fun _ => #[Value.ref h'.objs.size])).update S (Obj.mapSeq fun _ => #[Value.ref h'.objs.size])).get? b = some o := fun b o hb e =>
      (Heap.get?_update_other _ _ (Ne.symm hb)).trans ((Heap.get?_update_other _ _ (Ne.symm hb)).trans (Heap.get?_push_of_some _ e))
    have TS : h'.objs.size ≠ S := fun e => Nat.lt_irrefl _ (by have := Heap.lt_size S1; rw [← e] at this; exact this)
    refine sum_rows W (zs := zs) hv hS hI k (i + 1) _ h'.objs.size (acc ++ zs i) _ 0 (by omega) hlt (W.frame _ _ _ st' fun b hb o e => old b o (fun z => hS (by rw [← z]; exact hb)) e) (Heap.get?_update_self _ S3 rfl)
      ((Heap.get?_update_other _ _ (Ne.symm TS)).trans ((Heap.get?_update_other _ _ (Ne.symm TS)).trans (Heap.get?_push_size _ rfl))) (fun z => ?_) TS (fun j j1 j2 => ?_) ?_ fun h2' tk2 T' ep' q1 q2 q3 q4 => ?_
    · exact Nat.lt_irrefl _ (hI _ _ st' _ z)
    · obtain ⟨a1, a2, e, a3⟩ := h5 j (by omega) j2
      exact ⟨a1, a2, e, old _ _ a1 (k' _ _ a2 a3)⟩
    · rw [List.append_assoc]
      exact h6
    · refine h7 h2' tk2 T' ep' (fun b o x y e => q1 b o x y (old b o y (k' b o x e))) (by rw [List.append_assoc] at q2; exact q2) (fun z => absurd z (Nat.succ_ne_zero k)) fun _ b hb => ?_
      cases k with
      | zero => rw [q3 rfl]; exact hI _ _ st' b hb
      | succ k => exact q4 (Nat.succ_ne_zero k) b hb
end
section
variable {prog : Program} {w : World} {A : Around} {E : Value → Shared → Prop} {s : Shared} {l b : Addr} {vs : List Value}
theorem sum_lists (hh : A.handled = none) (hl : s.heap.IsList l vs.toArray) {ep : Nat} (hb : s.heap.get? b = some (lstO [] ep)) {bs : Nat → Addr} {zs : Nat → List Value} (hv : ∀ i v, vs[i]? = some v → v = Value.ref (bs i)) (hz : ∀ j, j < vs.length → ∃ e, s.heap.get? (bs j) = some (lstO (zs j) e)) (hf : (flatF zs 0 vs.length).length ≤ sizeLine) {Q : Value → Shared → Prop}
    (h : ∀ h' tk T e, (∀ c o, s.heap.get? c = some o → h'.get? c = some o) → h'.get? T = some (lstO (flatF zs 0 vs.length) e) → (vs = [] → T = b) → (vs ≠ [] → s.heap.objs.size ≤ T) → Q (Value.ref T) { s with heap := h', toks := tk }) : wpAny (model prog w) A (call (.builtin "sum") [Value.ref l, Value.ref b]) Q E s := by
  refine call_function_tree F.kind_sum F.plain_sum F.entry_sum (args_sum2 _ _) ?_
  unfold Builtin.«sum»
  simp only [List.length_cons, List.length_nil]
  rw [if_neg (by decide)]
  have nel : l ≠ s.heap.objs.size := by
    obtain ⟨_, e, _⟩ := hl
    exact Nat.ne_of_lt (Heap.lt_size e)
  refine wpAny_bind (wpAny_of_eq (show Builtin.Builtins.bindParams "sum" ["start"] 0 ⟨[.ref b], []⟩ = pure [some (.ref b)] from rfl) (wpAny_bind (wpAny_pyIter_list hl ?_)))
  refine wpAny_bind (wpAny_pure ?_)
  simp only [List.forIn_cons, List.forIn_nil]
  have B1 := Heap.get?_push_of_some (o := ({ cls := .type "list_iterator", data := .fields #[.ref l, .int 0 0] } : Obj)) hb
  have ty : ∀ s' : Shared, s'.heap.get? b = some (lstO [] ep) → s'.TypeIs (.ref b) "list" := fun s' e => (show s'.heap.IsList b #[] from ⟨_, e, rfl, _, rfl⟩).typeIs
  refine wpAny_bind (wpAny_bind (wpAny_bind (wpAny_isInstance (T := "list") (b := false) (ty _ B1) sub_list_str ?_)))
  simp only [Bool.false_eq_true, if_false]
  refine wpAny_pure (wpAny_bind (wpAny_bind (wpAny_isInstance (T := "list") (b := false) (ty _ B1) sub_list_bytes ?_)))
  simp only [Bool.false_eq_true, if_false]
  refine wpAny_pure (wpAny_bind (wpAny_bind (wpAny_isInstance (T := "list") (b := false) (ty _ B1) sub_list_barr ?_)))
  simp only [Bool.false_eq_true, if_false]
  refine wpAny_pure (wpAny_pure ?_)
  refine wpAny_bind (wpAny_newObj_type ?_)
  have W := Walks.list (prog := prog) (w := w) (A := A.in1) hh s.heap.objs.size l nel vs.toArray
  have old : ∀ c o, s.heap.get? c = some o → ((s.heap.push ({ cls := .type "list_iterator", data := .fields #[.ref l, .int 0 0] } : Obj)).push (lstO [Value.ref b] 0)).get? c = some o := fun c o e => Heap.get?_push_of_some _ (Heap.get?_push_of_some _ e)
  have iI : ((s.heap.push ({ cls := .type "list_iterator", data := .fields #[.ref l, .int 0 0] } : Obj)).push (lstO [Value.ref b] 0)).get? s.heap.objs.size = some { cls := .type "list_iterator", data := .fields #[.ref l, .int 0 0] } := Heap.get?_push_of_some _ (Heap.get?_push_size _ rfl)
  have szI : (s.heap.push ({ cls := .type "list_iterator", data := .fields #[.ref l, .int 0 0] } : Obj)).objs.size = s.heap.objs.size + 1 := by rw [Heap.size_push]
  have lt : ∀ {c : Addr} {o : Obj}, s.heap.get? c = some o → c < s.heap.objs.size := fun e => Heap.lt_size e
  have nl : l < s.heap.objs.size := by
    obtain ⟨_, e, _⟩ := hl
    exact lt e
  refine wpAny_pure ⟨plainId_quiet F.plain_sum_loop _, sum_rows W (bs := bs) (zs := zs) (fun i v h => hv i v (by simpa using h)) (S := (s.heap.push ({ cls := .type "list_iterator", data := .fields #[.ref l, .int 0 0] } : Obj)).objs.size) (fun z => ?_) (fun i h st c hc => ?_) vs.length 0 _ b [] 0 ep (by simp) (Nat.zero_le _) ⟨⟨_, iI, rfl, rfl⟩, ?_⟩ (Heap.get?_push_size _ rfl) (old _ _ hb) (fun z => ?_) ?_ (fun j _ hj => ?_) (by rw [List.nil_append]; exact hf) fun h' tk T' e q1 q2 q3 q4 => ?_⟩
  · rw [szI] at z
    simp only [List.mem_cons, List.not_mem_nil, or_false] at z
    rcases z with z | z
    · exact absurd z (Nat.succ_ne_self _)
    · rw [← z] at nl
      exact Nat.not_lt.mpr (Nat.le_succ _) nl
  · rw [List.mem_singleton.mp hc]
    obtain ⟨_, e, _⟩ := st.1
    exact Heap.lt_size e
  · exact (hl.push _).push _
  · exact Nat.ne_of_lt (lt hb) (List.mem_singleton.mp z)
  · rw [szI]
    exact Nat.ne_of_lt (Nat.lt_succ_of_lt (lt hb))
  · obtain ⟨e, he⟩ := hz j (by simpa using hj)
    exact ⟨by rw [szI]; exact Nat.ne_of_lt (Nat.lt_succ_of_lt (lt he)), fun z => Nat.ne_of_lt (lt he) (List.mem_singleton.mp z), e, old _ _ he⟩
  · have k : ∀ c o, s.heap.get? c = some o → h'.get? c = some o := fun c o e => q1 c o (fun z => Nat.ne_of_lt (lt e) (List.mem_singleton.mp z)) (by rw [szI]; exact Nat.ne_of_lt (Nat.lt_succ_of_lt (lt e))) (old c o e)
    rw [List.nil_append] at q2
    refine h h' tk T' e k q2 (fun z => q3 (by rw [z]; rfl)) fun z => ?_
    exact Nat.le_of_lt (q4 (fun y => z (List.eq_nil_of_length_eq_zero y)) _ List.mem_cons_self)
end
/-! as a rule -/
def rSumL (K : PySem.W.Frag) : List V → Hp → VK → Prop := fun vs H Q => ∃ (a b : Addr) (xs : List V) (bs : Nat → Addr) (zs : Nat → List V), vs = [.ref a, .ref b] ∧ SqL K H a xs ∧ H b = some (.lst []) ∧ (∀ i x, xs[i]? = some x → x = .ref (bs i) ∧ H (bs i) = some (.lst (zs i))) ∧ ((List.range xs.length).flatMap zs).length ≤ sizeLine ∧
  (xs = [] → Q (.ref b) H) ∧ (∀ p, H p = none → Q (.ref p) (upd H p (.lst ((List.range xs.length).flatMap zs))))
theorem flatF_eq (zs : Nat → List Value) : ∀ (k i : Nat), flatF zs i k = (List.range' i k).flatMap zs
  | 0, i => rfl
  | k + 1, i => by
    rw [flatF, flatF_eq zs k (i + 1), List.range'_succ, List.flatMap_cons]
theorem vals_flat {zs : Nat → List V} {ys : Nat → List Value} : ∀ (l : List Nat), (∀ i ∈ l, Vals (zs i) (ys i)) → Vals (l.flatMap zs) (l.flatMap ys)
  | [], _ => .nil
  | i :: l, h => by
    rw [List.flatMap_cons, List.flatMap_cons]
    exact (h i List.mem_cons_self).append (vals_flat l fun j hj => h j (List.mem_cons_of_mem _ hj))
theorem cr_sumL {X : Cx} (hc : X.calm = true) : CallR X (.builtin "sum") (rSumL X.K) := by
  intro pins s σ H vs us Q I r h
  obtain ⟨a, b, xs, bs, zs, rfl, hs, hb, hx, hz, q0, q1⟩ := h
  obtain ⟨u1, u2, rfl, r1, r2⟩ := r.two
  cases r1
  cases r2
  obtain ⟨its, rv, hl, _⟩ := I.list hs
  obtain ⟨zb, ib, nb, rb, hlb, eb⟩ := I.lstM hb
  cases rb
  have each : ∀ i, ∃ ys, i < xs.length → Vals (zs i) ys ∧ ∃ e, s.heap.get? (bs i) = some (lstO ys e) := fun i => by
    by_cases q : i < xs.length
    · obtain ⟨_, h2⟩ := hx i _ (List.getElem?_eq_getElem q)
      obtain ⟨_, ys, n, r3, _, e⟩ := I.lstM h2
      exact ⟨ys, fun _ => ⟨r3, n, e⟩⟩
    · exact ⟨[], fun z => absurd z q⟩
  obtain ⟨ys, hy⟩ : ∃ ys : Nat → List Value, ∀ i, i < xs.length → Vals (zs i) (ys i) ∧ ∃ e, s.heap.get? (bs i) = some (lstO (ys i) e) := ⟨fun i => Classical.choose (each i), fun i => Classical.choose_spec (each i)⟩
  have len := rv.length
  have fl : flatF ys 0 its.length = (List.range xs.length).flatMap ys := by rw [flatF_eq, ← len, List.range_eq_range']
  have vf : Vals ((List.range xs.length).flatMap zs) ((List.range xs.length).flatMap ys) := vals_flat _ fun i hi => (hy i (List.mem_range.mp hi)).1
  refine sum_lists (I.ok.hd hc) hl.isList eb (bs := bs) (zs := ys) (fun i v hv => ?_) (fun j hj => (hy j (by omega)).2) (by rw [fl, ← vf.length]; exact hz) fun h' tk T e k hT z1 z2 => ?_
  · have hi : i < xs.length := by rw [len]; exact (List.getElem?_eq_some_iff.mp hv).1
    obtain ⟨h1, _⟩ := hx i _ (List.getElem?_eq_getElem hi)
    obtain ⟨v2, hv2, rv2⟩ := rv.get (List.getElem?_eq_getElem hi)
    rw [hv] at hv2
    cases hv2
    rw [h1] at rv2
    exact rv2
  · rw [fl] at hT
    by_cases en : xs = []
    · have ei : its = [] := List.eq_nil_of_length_eq_zero (by rw [← len, en]; rfl)
      rw [z1 ei]
      exact ⟨.ref b, H, I.kept k, rfl, q0 en⟩
    · have ei : its ≠ [] := fun z => en (List.eq_nil_of_length_eq_zero (by rw [len, z]; rfl))
      exact ⟨.ref T, upd H T (.lst ((List.range xs.length).flatMap zs)), I.laid (t' := tk) k (z2 ei) ⟨hz, _, e, vf, hT⟩, rfl, q1 T (I.hok.fresh (z2 ei))⟩
end Dl
/-! sums of lists; clear; slices of a list at a pointer set anew -/
namespace Dl
open PySem L2 PySem.Spec PyProof.Rows
/-! ### sum(rows, []) -/
def rowsL : List D → Option (List (List D))
  | [] => some []
  | .lst ds :: r => match rowsL r with
    | some l => some (ds :: l)
    | none => none
  | _ => none
def dSumL (d e : D) : M D := match d, e with
  | .lst ds, .lst [] => match rowsL ds with
    | some l => guard (szOk l.flatten.length) (M.pure (.lst l.flatten))
    | none => M.bad
  | _, _ => M.bad
theorem rowsL_map : ∀ l : List (List D), rowsL (l.map D.lst) = some l
  | [] => rfl
  | a :: l => by rw [List.map_cons, rowsL, rowsL_map l]
theorem sum_rowsL {l : List (List D)} (h : szOk l.flatten.length = true) : dSumL (.lst (l.map D.lst)) (.lst []) = M.pure (.lst l.flatten) := by
  unfold dSumL
  simp only [rowsL_map, h]
  rfl
theorem rows_of {K : PySem.W.Frag} {G : Gh} {H : Hp} : ∀ {xs : List V} {ds : List D} {l : List (List D)}, Reps K G H xs ds → rowsL ds = some l → ∃ (bs : Nat → Addr) (zs : Nat → List V), (∀ i x, xs[i]? = some x → x = .ref (bs i) ∧ H (bs i) = some (.lst (zs i))) ∧ ∀ (k : Nat), (∀ i, i < xs.length → True) → Reps K G H ((List.range xs.length).flatMap zs) l.flatten
  | _, _, l, .nil, e => by
    cases e
    exact ⟨fun _ => 0, fun _ => [], fun i x h => by simp at h, fun _ _ => .nil⟩
  | _, _, l, .cons (v := v) (d := d) (vs := vs) (ds := ds) r t, e => by
    cases r with
    | @lst a ys es h z m rs =>
      unfold rowsL at e
      cases q : rowsL ds with
      | none => rw [q] at e; cases e
      | some l2 =>
        rw [q] at e
        cases e
        obtain ⟨bs, zs, h1, h2⟩ := rows_of t q
        refine ⟨fun i => match i with | 0 => a | i + 1 => bs i, fun i => match i with | 0 => ys | i + 1 => zs i, fun i x hx => ?_, fun k _ => ?_⟩
        · match i, hx with
          | 0, hx =>
            cases hx
            exact ⟨rfl, h⟩
          | i + 1, hx => exact h1 i x hx
        · have e2 : (List.range (V.ref a :: vs).length).flatMap (fun i => match i with | 0 => ys | i + 1 => zs i) = ys ++ (List.range vs.length).flatMap zs := by
            rw [List.length_cons, List.range_succ_eq_map, List.flatMap_cons, List.flatMap_map]
          rw [e2, List.flatten_cons]
          exact rs.append (h2 k fun _ _ => trivial)
    | _ => cases e
theorem calld_sumL {K : PySem.W.Frag} {mg : Str → Option Value} : CallD K mg (rSumL K) (ar2 dSumL) := by
  intro W G0 H0 G H σ ρ S xs ds Q si r h
  cases r with
  | nil => exact h.elim
  | cons r1 t =>
    cases t with
    | nil => exact h.elim
    | cons r2 t =>
      cases t with
      | cons _ _ => exact h.elim
      | nil =>
        cases r1 with
        | lst ha za ma ra =>
          cases r2 with
          | lst hb zb mb rb =>
            cases rb with
            | cons _ _ => exact h.elim
            | nil =>
              rename_i a vs es b
              have h : okG K mg W (RD K) G0 H0 G H σ ρ Q ((match rowsL es with
                | some l => guard (szOk l.flatten.length) (M.pure (.lst l.flatten))
                | none => M.bad) S) := h
              cases q : rowsL es with
              | none => rw [q] at h; exact h.elim
              | some l =>
                rw [q] at h
                obtain ⟨z, h⟩ := okG.guard h
                obtain ⟨bs, zs, h1, h2⟩ := rows_of ra q
                have rr := h2 0 fun _ _ => trivial
                have hz : ((List.range vs.length).flatMap zs).length ≤ sizeLine := by rw [rr.length]; exact sz_of z
                refine ⟨a, b, vs, bs, zs, rfl, SqL.of ha, hb, h1, hz, fun e => ?_, fun p hp => okG.new h si hp (rep_new si.wf hp hz rr)⟩
                subst e
                cases ra
                cases q
                exact okG.here h si (.lst hb zb mb .nil)
          | _ => exact h.elim
        | _ => exact h.elim
/-! ### xs.clear() -/
end Dl
/-! a list that was built by a comprehension gets a pointer -/
namespace Dl
open PySem L2
def boxOwn (ds : List D) : M D := fun S => .ok (.ptr S.cells.length) { S with cells := S.cells ++ [.lst ds] }
@[simp] theorem ev_boxOwn {ds : List D} {S : MS} : boxOwn ds S = .ok (.ptr S.cells.length) { S with cells := S.cells ++ [.lst ds] } := rfl
end Dl
/-! D65: zip of a tuple and a list (either first). -/
namespace Dl
open PySem PySem.Spec PyProof.Rows L2
end Dl
/-! D66: is not True, is not False -/
namespace Dl
open PySem L2
def dNotB (b : Bool) : D → M D
  | .bl c => M.pure (.bl (!decide (c = b)))
  | _ => M.bad
@[simp] theorem notb_bl {b c : Bool} : dNotB b (.bl c) = M.pure (.bl (!(c == b))) := by cases b <;> cases c <;> rfl
end Dl
/-! D67: str of lists and tuples -/
namespace Dl
open PySem L2 PySem.Spec PyProof.Rows
end Dl
/-! D68: in, for data of any depth -/
namespace Dl
open PySem L2 PySem.Spec PyProof.Rows
end Dl
/-! D69: comparing what stands at pointers -/
namespace Dl
open PySem L2
end Dl
/-! D70: what got pointers since a mark is frozen for good -/
namespace Dl
open PySem L2
/-- how many pointers there are -/
def markM : M Nat := fun S => .ok S.cells.length S
@[simp] theorem ev_mark {S : MS} : markM S = .ok S.cells.length S := rfl
end Dl
/-! D71: xs.extend(ys) at a pointer -/
namespace Dl
open PySem L2
end Dl
/-! dict(d) -/
namespace Dl
open PySem L2
end Dl
/-! try .. except X: without a name -/
namespace Dl
open PySem L2
end Dl
/-! xs[i] = v, xs a list of one's own -/
namespace Dl
open PySem L2
end Dl
/-! enumerate(t), t a tuple -/
namespace PySem
open Sem (wp)
open AutoSeq1 (wpAny_loadPart')
end PySem
/-! loops over enumerate(t), t a tuple -/
namespace PySem
end PySem
namespace L2
open PySem PySem.Spec PyProof.Rows
end L2
namespace Dl
open PySem L2
end Dl
/-! a, b, c = a tuple or a list -/
namespace Dl
open PySem L2
end Dl
/-! D72: for x, y in items that are lists or tuples -/
namespace Dl
open PySem L2
def un2X {α : Type} (f : D → D → M α) : D → M α
  | .tup ds => on2 f ds
  | .lst ds => on2 f ds
  | _ => M.bad
@[simp] theorem ev_un2Xt {α : Type} {f : D → D → M α} {a b : D} : un2X f (.tup [a, b]) = f a b := rfl
@[simp] theorem ev_un2Xl {α : Type} {f : D → D → M α} {a b : D} : un2X f (.lst [a, b]) = f a b := rfl
end Dl
namespace Lw
open PySem L2 Dl
def f_edeclared (a_rows : D) (a_plan : D) : M D := finM (ifM (tst (bin dGetK (M.pure a_plan) (M.pure (D.str "is_union")))) (outM (retM (kcallM (ar5 f_union) (fun ds zs => permG [.pos 0, .kw 0, .kw 1, .kw 2, .kw 3] ds [] zs) [(M.pure a_rows)] [(bin dGetK (M.pure a_plan) (M.pure (D.str "convention"))), (bin dGetK (M.pure a_plan) (M.pure (D.str "pack"))), (bin dGetK (M.pure a_plan) (M.pure (D.str "align"))), (bin dGetK (M.pure a_plan) (M.pure (D.str "ends")))]))) (retM (kcallM (ar5 f_struct) (fun ds zs => permG [.pos 0, .kw 0, .kw 1, .kw 2, .kw 3] ds [] zs) [(M.pure a_rows)] [(bin dGetK (M.pure a_plan) (M.pure (D.str "convention"))), (bin dGetK (M.pure a_plan) (M.pure (D.str "pack"))), (bin dGetK (M.pure a_plan) (M.pure (D.str "align"))), (bin dGetK (M.pure a_plan) (M.pure (D.str "ends")))])))
def f_etried (a_members : D) (a_plan : D) : M D := finM (M.bind (M.pure D.non) fun v_found1 => (thenM (tryA ["BadOption", "BadMember", "BadKind", "BadBits", "BadName"] [("BadOption", "name", (fun v_e4 => (M.bind (tupM [(M.pure (D.str "option")), (M.pure v_e4)]) fun v_found5 => (M.pure (.nx v_found5))))), ("BadMember", "place", (fun v_e6 => (M.bind (tupM [(M.pure (D.str "member")), (M.pure v_e6)]) fun v_found7 => (M.pure (.nx v_found7))))), ("BadKind", "kind", (fun v_e8 => (M.bind (tupM [(M.pure (D.str "kind")), (M.pure v_e8)]) fun v_found9 => (M.pure (.nx v_found9))))), ("BadBits", "place", (fun v_e10 => (M.bind (tupM [(M.pure (D.str "bits")), (M.pure v_e10)]) fun v_found11 => (M.pure (.nx v_found11))))), ("BadName", "name", (fun v_e12 => (M.bind (tupM [(M.pure (D.str "name")), (M.pure v_e12)]) fun v_found13 => (M.pure (.nx v_found13)))))] (M.bind (tupM [(M.pure (D.str "made")), (callM (ar2 f_edeclared) [(M.pure a_members), (M.pure a_plan)])]) fun v_found3 => (M.pure (.nx v_found3)))) (fun (v_c2 : D) => (retM (M.pure v_c2)))))
end Lw
/-! D83: len of a dict. -/
namespace Dl
open PySem L2 PyProof.Rows
def dLenK : D → M D := fun d S => match dicAt S d with
  | some kvs => .ok (.int kvs.length) S
  | none => .bad
def rLenK : List V → Hp → VK → Prop := fun xs H Q => ∃ a kvs, xs = [.ref a] ∧ H a = some (.dK kvs) ∧ Q (.int kvs.length) H
theorem call_lenK {X : Cx} : CallR X (.builtin "len") rLenK := by
  intro pins s σ H xs us Q I r h
  obtain ⟨a, kvs, rfl, hH, q⟩ := h
  obtain ⟨u, rfl, rx⟩ := vals1 r
  obtain rfl : u = Value.ref a := rx
  exact d_len I (.inl hH) fun t s' I' => ⟨.int kvs.length, H, I', ⟨t, rfl⟩, q⟩
theorem calld_lenK {K : PySem.W.Frag} {mg : Str → Option Value} : CallD K mg rLenK (ar1 dLenK) := by
  intro W G0 H0 G H σ ρ S xs ds Q si r h
  cases r with
  | nil => exact h.elim
  | cons r1 t =>
    cases t with
    | cons _ _ => exact h.elim
    | nil =>
      rename_i v d
      have h : okG K mg W (RD K) G0 H0 G H σ ρ Q (dLenK d S) := h
      unfold dLenK at h
      cases q1 : dicAt S d with
      | none => simp only [q1] at h; exact h.elim
      | some kvs =>
        simp only [q1] at h
        obtain ⟨a, ks, ev, hH, hz, t⟩ := dic_of si.wf r1 q1
        subst ev
        refine ⟨a, ks, rfl, hH, ?_⟩
        rw [t.len]
        exact okG.here h si (.int _)
end Dl
/-! xs[i] += e, a list at a pointer, a place from 0 on -/
namespace Dl
open PySem L2
end Dl
/-! xs[-2::-1]: all but the last, backwards -/
namespace Dl
open PySem L2
theorem Reps.last {K : PySem.W.Frag} {G : Gh} {H : Hp} : ∀ {vs : List V} {ds : List D}, Reps K G H vs ds → Reps K G H vs.dropLast ds.dropLast
  | _, _, .nil => .nil
  | _, _, .cons r .nil => .nil
  | _, _, .cons r (.cons r' t) => .cons r (Reps.last (.cons r' t))
end Dl
/-! defs with defaults, called with all that they take -/
namespace Dl
open PySem L2
end Dl
/-! len of an instance whose class has its own `__len__` -/
namespace Dl
open PySem L2
end Dl
/-! D88: d[i], name, name = three things. -/
namespace Dl
open PySem L2
section
variable {X : Cx} {C L : Type} {k : Ct C L} {ρ : List Slot} {mo mi mv : M D} {st : Stmt} {rest : List Stmt}
theorem sd_dputNN (j l : Nat) {mr : D → D → M (Fl C L)} (w : Wk ρ k.x) (hps : PS X st (tAsg (tG X.K X.mg k.W (RD X.K) ρ mv) (gTup X.K 3 (gCons (gSub (tG X.K X.mg k.W (RD X.K) ρ mo) (tG X.K X.mg k.W (RD X.K) ρ mi) rSetD) (gCons (gName j) (gCons (gName l) gNil)))))) (hr : ∀ b c, SD X k ((ρ.set j (.val b)).set l (.val c)) rest (mr b c)) :
    SD X k ρ (st :: rest) (mv.bind (un3 fun v v2 v3 => mo.bind fun o => mi.bind fun i => (setK o i v).bind fun _ => mr v2 v3)) := by
  let u : TS := fun D σ H => ∃ d e, tS X.K X.mg k ((ρ.set j (.val d)).set l (.val e)) (mr d e) D σ H
  have hu : PSs X rest u := ⟨fun pins s σ H D I ⟨d, e, q⟩ => (hr d e).run pins s σ H D I q⟩
  refine PSs.imp (pss_cons hps hu) fun D σ H ⟨G0, H0, G, S, si, h⟩ => ⟨G0, H0, G, S, si, okS.bind h w fun G1 H1 S1 v d s1 r1 h1 => ?_⟩
  cases d with
  | tup ds =>
    match ds, h1, r1 with
    | [a, b, c], h1, r1 =>
      cases r1 with
      | tup hs z t =>
        cases t with
        | cons ra t =>
          cases t with
          | cons rb t =>
            cases t with
            | cons rc t =>
              cases t with
              | nil =>
                refine ⟨_, _, rfl, hs, rfl, _, _, rfl, put_one w s1 ra h1 fun G4 H4 S4 s4 l4 h4 => ⟨_, _, rfl, _, _, rfl, ⟨rfl, b, c, G0, H0, G4, S4, (s4.set j (rb.lr l4)).set l (rc.lr l4), h4⟩⟩⟩
    | [], h1, _ => exact h1.elim
    | [_], h1, _ => exact h1.elim
    | [_, _], h1, _ => exact h1.elim
    | _ :: _ :: _ :: _ :: _, h1, _ => exact h1.elim
  | _ => exact h1.elim
end
end Dl
/-! a test that only looks at what stands at a pointer -/
namespace Dl
open PySem L2
def borT (d : D) (f : D → M Bool) : M Bool := fun S => match f (viewD S 64 d) S.outs with
  | .ok b S2 => .ok b { S with st := S2.st }
  | _ => .bad
section
variable {X : Cx} {W : WX} {ρ : List Slot} {e : Expr}
theorem et_borT (i : Nat) {d : D} {f : D → M Bool} (h : ∀ d', ET X W (ρ.set i (.val d')) e (f d')) (hρ : ρ[i]? = some (.val d) := by rfl) : ET X W ρ e (borT d f) :=
  let u : TT := fun σ H Q => ∃ d', tG X.K X.mg W RB (ρ.set i (.val d')) (f d') σ H Q
  have hu : PT X e u := ⟨fun pins s σ H Q I ⟨d', q⟩ => (h d').run pins s σ H Q I q⟩
  PT.imp hu fun σ H Q ⟨G0, H0, G, S, si, h⟩ => by
    obtain ⟨v, e, r⟩ := si.env i _ hρ
    have hi : i < ρ.length := (List.getElem?_eq_some_iff.mp hρ).1
    have s2 : SI X.K X.mg G0 H0 G.all H σ ρ S.outs := si.mono .all si.wf.all
    have s3 := s2.set (v := v) i (Rep.view si.wf 64 v d r)
    have e1 : σ.set i (some v) = σ := by
      apply List.ext_getElem?
      intro j
      by_cases q : i = j
      · subst q
        rw [List.getElem?_set_self (by rw [si.len]; exact hi), e]
      · rw [List.getElem?_set_ne q]
    rw [e1] at s3
    refine ⟨viewD S 64 d, G0, H0, G.all, S.outs, s3, ?_⟩
    unfold borT at h
    cases qg : f (viewD S 64 d) S.outs with
    | err _ _ => rw [qg] at h; exact h.elim
    | bad => rw [qg] at h; exact h.elim
    | ok b S2 =>
      rw [qg] at h
      intro b' G2 H2 s4 fr rb
      have wf := s4.wf
      let G3 : Gh := { G with O := G2.O }
      have fr3 : FR G H G3 H2 := by
        refine ⟨List.prefix_rfl, rfl, rfl, rfl, fun b o hb hc => ?_, fun b hb => .inl hb, fun b hb => fr.onew b hb, fun b hb => fr.oold b hb, fr.there⟩
        exact fr.keep b o hb (hc.imp (fun hc z => hc (z.elim (fun y => .inl ⟨y.1, fun q => y.2 (.inr q)⟩) .inr)) id)
      have keepC : ∀ (i : Nat) (a : Addr) (o : HO), G.φ[i]? = some a → H a = some o → H2 a = some o := fun i a o hi ha => fr.keep a o ha (.inl fun z => by
        have m := List.mem_of_getElem? hi
        rcases z with z | z | z
        · exact z.2 (.inl m)
        · exact si.wf.na (by rw [← show a = G.sa from z]; exact m)
        · exact si.wf.nb (by rw [← show a = G.sb from z]; exact m))
      have wf3 : Wf X.K X.mg G3 H2 { S with st := S2.st } := by
        refine ⟨si.wf.len, si.wf.nd, fun i c a h1 h2 => ?_, fun b hb => ?_, ?_, ?_, si.wf.sab, si.wf.na, si.wf.nb, wf.zs, si.wf.hmg, fun i c a h1 h2 hn => si.wf.nz i c a h1 h2 hn, fun b hb => ?_, fun b hb => ?_⟩
        · have cr := si.wf.cell i c a h1 h2
          cases c with
          | lst ds => obtain ⟨xs, e, z, t⟩ := cr; exact ⟨xs, keepC i a _ h2 e, z, t.mono fr3⟩
          | dic kvs => obtain ⟨xs, e, z, t⟩ := cr; exact ⟨xs, keepC i a _ h2 e, z, t.mono fr3⟩
          | ins c fs => obtain ⟨C, dx, gs, m, e, t⟩ := cr; exact ⟨C, dx, gs, m, keepC i a _ h2 e, t.mono fr3⟩
          | out => trivial
        · rcases hb with hb | hb
          · obtain ⟨o, e⟩ := si.wf.live b (.inl hb)
            exact fr.there b o e
          · exact wf.live b (.inr hb)
        · have := wf.ha
          rw [fr.sa, fr.sb] at this
          exact this
        · have := wf.hb
          rw [fr.sb] at this
          exact this
        · obtain ⟨o, e⟩ := si.wf.zl b hb
          exact fr.there b o e
        · rcases fr.onew b hb with y | y
          · exact si.wf.zo b y
          · refine ⟨fun z => ?_, fun z => ?_⟩
            · obtain ⟨o, e⟩ := si.wf.phi z
              rw [y] at e; cases e
            · obtain ⟨o, e⟩ := si.wf.zl b z
              rw [y] at e; cases e
      exact h b' G3 H2 (si.mono fr3 wf3) fr3 rb
end
end Dl
namespace Lw
open PySem L2 Dl
def f_eplainB (a_is_union : D) : M D := finM (retM (boxD (dispM ["is_union", "convention", "pack", "align", "ends"] [(M.pure a_is_union), (M.pure (D.str "sysv")), (M.pure D.non), (M.pure D.non), (M.pure (D.str "little"))])))
def f_erow_names : Nat → D → M D
  | 0, _ => M.bad
  | n + 1, a_row => finM (M.bind (M.pure a_row) (un3 fun v_key1 v_kind2 v_bits3 => (ifM (tst (una dNotN (M.pure v_key1))) (outM (retM (frz (lstM [(M.pure v_key1)])))) (retM (ifM (tst (una (dIsX tabC [.dict] []) (M.pure v_kind2))) (callM (ar2 dSumL) [(frz (mapX (M.bind (bin dGetK (M.pure v_kind2) (M.pure (D.str "rows"))) itemsS) (unT (.nm 4) (on1 fun v_one4 => (callM (ar1 (f_erow_names n)) [(M.pure v_one4)]))))), (frz (lstM []))]) (frz (lstM [])))))))
mutual
def f_enamed_plan : Nat → D → D → M D
  | 0, _, _ => M.bad
  | n + 1, a_stream, a_deep => finM (M.bind (callM (ar1 f_eplainB) [(bin dEq (callM (ar2 f_draw) [(M.pure a_stream), (M.pure (D.int 3))]) (M.pure (D.int 0)))]) fun v_found1 => (M.bind (callM (ar3 (f_enamed_rows n)) [(M.pure a_stream), (M.pure a_deep), (M.pure (D.bl false))]) fun v_v2 => M.bind (M.pure v_found1) fun v_o3 => M.bind (M.pure (D.str "rows")) fun v_i4 => M.bind (setK v_o3 v_i4 v_v2) fun _ => (retM (M.pure v_found1))))
def f_enamed_rows : Nat → D → D → D → M D
  | 0, _, _, _ => M.bad
  | n + 1, a_stream, a_deep, a_is_free => finM (M.bind (lstM []) fun v_found1 => (M.bind (frz (lstM [])) fun v_seen2 => (M.bind (M.bind (callM (ar2 f_draw) [(M.pure a_stream), (bin dItem (frz (lstM [(M.pure (D.int 3)), (M.pure (D.int 4)), (M.pure (D.int 6))])) (M.pure a_deep))]) rng1) fun v_ds16 => thenM (forM (fun (v_c3 : List D × D) v_k4 => (M.bind (argsM [(callM (ar2 f_pick) [(M.pure a_stream), (frz (lstM [(M.pure (D.str "a")), (M.pure (D.str "b")), (M.pure (D.str "c")), (M.pure (D.str "d")), (M.pure (D.str "e")), (M.pure (D.str "f")), (M.pure (D.str "A")), (M.pure (D.str "_a")), (M.pure (D.str "a1"))]))]), (callM (ar2 f_draw) [(M.pure a_stream), (M.pure (D.int 6))])]) (on2 fun v_key5 v_way6 => (thenM (ifM (andT (tst (bin dLt (M.pure v_way6) (M.pure (D.int 2)))) (tst (bin dGt (M.pure a_deep) (M.pure (D.int 0))))) (M.bind (tupM [(M.pure D.non), (callM (ar2 (f_enamed_plan n)) [(M.pure a_stream), (bin dSub (M.pure a_deep) (M.pure (D.int 1)))]), (M.pure D.non)]) fun v_row8 => (M.pure (.nx v_row8))) (ifM (andT (tst (bin dEq (M.pure v_way6) (M.pure (D.int 2)))) (tst (bin dGt (M.pure a_deep) (M.pure (D.int 0))))) (M.bind (tupM [(M.pure v_key5), (callM (ar2 (f_enamed_plan n)) [(M.pure a_stream), (bin dSub (M.pure a_deep) (M.pure (D.int 1)))]), (M.pure D.non)]) fun v_row9 => (M.pure (.nx v_row9))) (M.bind (ifM (tst (bin dEq (M.pure v_way6) (M.pure (D.int 3)))) (tupM [(M.pure D.non), (tupM [(M.pure (D.str "int")), (M.pure (D.int 1)), (M.pure (D.bl true))]), (M.pure (D.int 2))]) (tupM [(M.pure v_key5), (tupM [(M.pure (D.str "int")), (M.pure (D.int 1)), (M.pure (D.bl true))]), (M.pure D.non)])) fun v_row10 => (M.pure (.nx v_row10))))) (fun (v_c7 : D) => (M.bind (callM (ar1 (f_erow_names 12)) [(M.pure v_c7)]) fun v_more11 => (thenM (ifM (orT (tst (M.pure a_is_free)) (tst (bin dEq (callM (ar1 dLenK) [(frzD (M.bind (frz (mapX (M.bind (bin dAdd (M.pure v_c3.2) (M.pure v_more11)) itemsS) (unT (.nm 10) (on1 fun v_one12 => (tupM [(M.pure v_one12), (M.pure (D.int 0))]))))) dictP))]) (bin dAdd (callM (ar1 dLen) [(M.pure v_c3.2)]) (callM (ar1 dLen) [(M.pure v_more11)]))))) (M.bind (M.pure v_c7) fun v_d14 => gd (szLt (List.length v_c3.1)) (M.bind (bin dAdd (M.pure v_c3.2) (M.pure v_more11)) fun v_seen15 => (M.pure (.nx ((v_c3.1 ++ [v_d14]), v_seen15))))) (M.pure (.nx (v_c3.1, v_c3.2)))) (fun (v_c13 : List D × D) => (M.pure (.nx (v_c13.1, v_c13.2))))))))))) v_ds16 (v_found1, v_seen2)) (fun (v_c3 : List D × D) => (retM (M.pure (D.lst v_c3.1)))))))
end
mutual
def f_ebuilt : Nat → D → M D
  | 0, _ => M.bad
  | n + 1, a_plan => finM (ifM (notT (tst (una (dIsX tabC [.dict] []) (M.pure a_plan)))) (outM (retM (ifM (tst (bin dEq (bin dItem (M.pure a_plan) (M.pure (D.int 0))) (M.pure (D.str "int")))) (M.pure a_plan) (tupM [(M.pure (D.str "array")), (callM (ar1 (f_ebuilt n)) [(bin dItem (M.pure a_plan) (M.pure (D.int 1)))]), (bin dItem (M.pure a_plan) (M.pure (D.int 2)))])))) (thenM (ifM (tst (bin (dInK true) (M.pure (D.str "layout")) (M.pure a_plan))) (M.bind (callM (ar2 f_edeclared) [(callM (ar1 (f_emembers n)) [(M.pure a_plan)]), (M.pure a_plan)]) fun v_v2 => M.bind (M.pure a_plan) fun v_o3 => M.bind (M.pure (D.str "layout")) fun v_i4 => M.bind (setK v_o3 v_i4 v_v2) fun _ => (M.pure (.nx a_plan))) (M.pure (.nx a_plan))) (fun (v_c1 : D) => (retM (bin dGetK (M.pure v_c1) (M.pure (D.str "layout")))))))
def f_emembers : Nat → D → M D
  | 0, _ => M.bad
  | n + 1, a_plan => finM (M.bind (lstM []) fun v_found1 => (M.bind (M.bind (bin dGetK (M.pure a_plan) (M.pure (D.str "rows"))) itemsS) fun v_ds5 => thenM (forM (fun (v_c2 : List D) v_row3 => (M.bind (bin dAdd (tupM [(bin dItem (M.pure v_row3) (M.pure (D.int 0))), (callM (ar1 (f_ebuilt n)) [(bin dItem (M.pure v_row3) (M.pure (D.int 1)))])]) (ifM (tst (una dNotN (bin dItem (M.pure v_row3) (M.pure (D.int 2))))) (tupM [(bin dItem (M.pure v_row3) (M.pure (D.int 2)))]) (tupM []))) fun v_d4 => gd (szLt (List.length v_c2)) (M.pure (.nx (v_c2 ++ [v_d4]))))) v_ds5 v_found1) (fun (v_c2 : List D) => (retM (M.pure (D.lst v_c2))))))
end
end Lw
namespace Lw
open PySem L2 Dl
abbrev turn : Unit → D → M (Fl Unit Unit) := (fun (_ : Unit) v_turn2 => (M.bind (callM (ar1 f_eplainB) [(bin dEq (callM (ar2 f_draw) [(M.pure D.strm), (M.pure (D.int 3))]) (M.pure (D.int 0)))]) fun v_plan3 => (M.bind (tupM [(callM (ar3 (f_enamed_rows 12)) [(M.pure D.strm), (M.pure (D.int 2)), (bin dGt (callM (ar2 f_draw) [(M.pure D.strm), (M.pure (D.int 4))]) (M.pure (D.int 0)))]), (boxM (lstM [])), (M.pure D.non)]) (un3 fun v_v18 v_names4 v_due5 => M.bind (M.pure v_plan3) fun v_o19 => M.bind (M.pure (D.str "rows")) fun v_i20 => M.bind (setK v_o19 v_i20 v_v18) fun _ => (M.bind (M.bind (bin dGetK (M.pure v_plan3) (M.pure (D.str "rows"))) itemsS) fun v_ds17 => thenM (forM (fun (v_c6 : D × D) v_row7 => (M.bind (M.bind (callM (ar1 (f_erow_names 12)) [(M.pure v_row7)]) itemsS) fun v_ds12 => thenM (forM (fun (v_c8 : D × D) v_key9 => (M.bind (ifM (borT v_c8.1 (fun v_names11 => (andT (tst (una dIsN (M.pure v_c8.2))) (tst (bin (dIn false) (M.pure v_key9) (M.pure v_names11)))))) (M.pure v_key9) (M.pure v_c8.2)) fun v_due10 => (M.bind (appM (M.pure v_c8.1) (M.pure v_key9)) fun _ => (M.pure (.nx (v_c8.1, v_due10)))))) v_ds12 (v_c6.1, v_c6.2)) (fun (v_c8 : D × D) => (M.pure (.nx (v_c8.1, v_c8.2)))))) v_ds17 (v_names4, v_due5)) (fun (v_c6 : D × D) => (M.bind (callM (ar2 f_etried) [(callM (ar1 (f_emembers 12)) [(M.pure v_plan3)]), (M.pure v_plan3)]) (un2 fun v_word13 v_found14 => (ifM (tst (una dNotN (M.pure v_c6.2))) (outM (ifM (tst (bin dNe (tupM [(M.pure v_word13), (M.pure v_found14)]) (tupM [(M.pure (D.str "name")), (M.pure v_c6.2)]))) (outM (retM (M.pure (D.bl false)))) (M.pure (.cnt ())))) (M.bind (frzAll v_c6.1) fun v_names15 => (ifM (orT (tst (bin dNe (M.pure v_word13) (M.pure (D.str "made")))) (tst (bin dNe (frz (mapX (M.bind (M.pure v_names15) itemsS) (unT (.nm 7) (on1 fun v_key16 => (bin dLt (methM "Layout" "octet_at" (ar2 f_Layout_octet_at) (M.pure v_found14) [(tupM [(M.pure v_key16)])]) (M.pure (D.int 0))))))) (bin dMul (frz (lstM [(M.pure (D.bl false))])) (callM (ar1 dLen) [(M.pure v_names15)]))))) (retM (M.pure (D.bl false))) (M.pure (.nx ())))))))))))))
abbrev rest : M (Fl Unit Empty) := (retM (M.pure (D.bl true)))
def m_law : M (Fl Unit Empty) := (M.bind (M.bind (M.pure (D.int 10)) rng1) fun v_ds21 => thenM (forM turn v_ds21 ()) (fun (_ : Unit) => rest))
end Lw
namespace Lw
open PySem L2 Dl
def top (i : Nat) : Stmt := PySem.Challenge.pw_fieldberth_k07_names_refused.main.body.getD i (.Pass ⟨0, 0, 0, 0⟩)
abbrev tgtC : List Str := ["Shape"]
structure Bi (mg : Str → Option Value) : Prop where
  b_all : mg "all" = none
  b_bool : mg "bool" = none
  b_dict : mg "dict" = none
  b_enumerate : mg "enumerate" = none
  b_int : mg "int" = none
  b_isinstance : mg "isinstance" = none
  b_len : mg "len" = none
  b_list : mg "list" = none
  b_max : mg "max" = none
  b_min : mg "min" = none
  b_range : mg "range" = none
  b_str : mg "str" = none
  b_sum : mg "sum" = none
  b_tuple : mg "tuple" = none
  b_zip : mg "zip" = none
section
variable {P : Program} {w : World} {K : PySem.W.Frag} {base : Heap} {mg : Str → Option Value}
abbrev s_eplainB : Stmt := top 62
theorem sc_eplainB : FnScope ["_law_is_union"] ["_law_is_union"] (defScope s_eplainB) := ⟨rfl, rfl, rfl, by decide +kernel, rfl, by decide +kernel, by decide +kernel⟩
theorem wk_eplainB {f : Addr} {fd : FuncData} (F : Fun K "_law_plain" "_law_plain" s_eplainB f fd) (hm : mg "_law_plain" = some (.ref f)) (hk : PySem.W.keepIn K (.ref f) = true) (hb : Binds K fd ["_law_is_union"] [])  : FI P w K mg base "_law_plain" ["_law_is_union"] 1 (ar1 f_eplainB) := by
  exact ⟨f, fd, hm, hk, hb, fn_of_D F sc_eplainB fun ds hl cdv A outer s H E hr tk po => match ds, hl with
    | [a_is_union], _ => ⟨_, rfl, show SD _ _ [.val a_is_union] _ _ from (sd_ret (wk_any _) (ed_boxD (end_disp (edi_cons (ed_var 0) (edi_cons ed_str (edi_cons ed_non (edi_cons ed_non (edi_cons ed_str edi_nil))))))))⟩⟩
abbrev s_is_word_of : Stmt := top 27
theorem sc_is_word_of : FnScope ["thing", "some"] ["thing", "some"] (defScope s_is_word_of) := ⟨rfl, rfl, rfl, by decide +kernel, rfl, by decide +kernel, by decide +kernel⟩
theorem wk_is_word_of {f : Addr} {fd : FuncData} (F : Fun K "is_word_of" "is_word_of" s_is_word_of f fd) (hm : mg "is_word_of" = some (.ref f)) (hk : PySem.W.keepIn K (.ref f) = true) (hb : Binds K fd ["thing", "some"] []) (TF : TabF K mg tgtC tabC) (B : Bi mg) : FI P w K mg base "is_word_of" ["thing", "some"] 1 (ar2 f_is_word_of) := by
  exact ⟨f, fd, hm, hk, hb, fn_of_D F sc_is_word_of fun ds hl cdv A outer s H E hr tk po => match ds, hl with
    | [a_thing, a_some], _ => ⟨_, rfl, show SD _ _ [.val a_thing, .val a_some] _ _ from (sd_ret (wk_any _) (ed_and (ed_isiX TF ⟨B.b_str, by decide +kernel, by rfl, by decide, by decide, by decide⟩ B.b_isinstance (ed_var 0)) (ed_one (ed_in (ed_var 0) (ed_var 1)))))⟩⟩
abbrev s_is_integer : Stmt := top 12
theorem sc_is_integer : FnScope ["thing"] ["thing"] (defScope s_is_integer) := ⟨rfl, rfl, rfl, by decide +kernel, rfl, by decide +kernel, by decide +kernel⟩
theorem wk_is_integer {f : Addr} {fd : FuncData} (F : Fun K "is_integer" "is_integer" s_is_integer f fd) (hm : mg "is_integer" = some (.ref f)) (hk : PySem.W.keepIn K (.ref f) = true) (hb : Binds K fd ["thing"] []) (TF : TabF K mg tgtC tabC) (B : Bi mg) : FI P w K mg base "is_integer" ["thing"] 1 (ar1 f_is_integer) := by
  exact ⟨f, fd, hm, hk, hb, fn_of_D F sc_is_integer fun ds hl cdv A outer s H E hr tk po => match ds, hl with
    | [a_thing], _ => ⟨_, rfl, show SD _ _ [.val a_thing] _ _ from (sd_ret (wk_any _) (ed_and (ed_isiX TF ⟨B.b_int, by decide +kernel, by rfl, by decide, by decide, by decide⟩ B.b_isinstance (ed_var 0)) (ed_one (ed_not (ed_isiX TF ⟨B.b_bool, by decide +kernel, by rfl, by decide, by decide, by decide⟩ B.b_isinstance (ed_var 0))))))⟩⟩
abbrev s_is_number_of : Stmt := top 14
theorem sc_is_number_of : FnScope ["thing", "some"] ["thing", "some"] (defScope s_is_number_of) := ⟨rfl, rfl, rfl, by decide +kernel, rfl, by decide +kernel, by decide +kernel⟩
theorem wk_is_number_of {f : Addr} {fd : FuncData} (F : Fun K "is_number_of" "is_number_of" s_is_number_of f fd) (hm : mg "is_number_of" = some (.ref f)) (hk : PySem.W.keepIn K (.ref f) = true) (hb : Binds K fd ["thing", "some"] []) (I_is_integer : FI P w K mg base "is_integer" ["thing"] 1 (ar1 f_is_integer)) : FI P w K mg base "is_number_of" ["thing", "some"] 2 (ar2 f_is_number_of) := by
  exact ⟨f, fd, hm, hk, hb, fn_of_D F sc_is_number_of fun ds hl cdv A outer s H E hr tk po => match ds, hl with
    | [a_thing, a_some], _ => ⟨_, rfl, show SD _ _ [.val a_thing, .val a_some] _ _ from (sd_ret (wk_any _) (ed_and (ed_callF I_is_integer tk (hr.mono (by decide)) (ea_cons (ed_var 0) ea_nil)) (ed_one (ed_in (ed_var 0) (ed_var 1)))))⟩⟩
abbrev s_checked_options : Stmt := top 28
theorem sc_checked_options : FnScope ["convention", "pack", "align", "ends"] ["convention", "pack", "align", "ends"] (defScope s_checked_options) := ⟨rfl, rfl, rfl, by decide +kernel, rfl, by decide +kernel, by decide +kernel⟩
theorem wk_checked_options {f : Addr} {fd : FuncData} (F : Fun K "checked_options" "checked_options" s_checked_options f fd) (hm : mg "checked_options" = some (.ref f)) (hk : PySem.W.keepIn K (.ref f) = true) (hb : Binds K fd ["convention", "pack", "align", "ends"] []) (co_CONVENTIONS : CO K mg "CONVENTIONS" c_CONVENTIONS) (I_is_word_of : FI P w K mg base "is_word_of" ["thing", "some"] 1 (ar2 f_is_word_of)) (E_BadOption : EI P w K mg base "BadOption" "name") (co_PACKS : CO K mg "PACKS" c_PACKS) (I_is_number_of : FI P w K mg base "is_number_of" ["thing", "some"] 2 (ar2 f_is_number_of)) (co_ALIGNS : CO K mg "ALIGNS" c_ALIGNS) (co_ENDS : CO K mg "ENDS" c_ENDS) : FI P w K mg base "checked_options" ["convention", "pack", "align", "ends"] 3 (ar4 f_checked_options) := by
  exact ⟨f, fd, hm, hk, hb, fn_of_D F sc_checked_options fun ds hl cdv A outer s H E hr tk po => match ds, hl with
    | [a_convention, a_pack, a_align, a_ends], _ => ⟨_, rfl, show SD _ _ [.val a_convention, .val a_pack, .val a_align, .val a_ends] _ _ from (sd_ifR (wk_any _) (et_not (et_val (ed_callF I_is_word_of tk (hr.mono (by decide)) (ea_cons (ed_var 0) (ea_cons (ed_con co_CONVENTIONS) ea_nil))))) (sd_raiseF (wk_any _) E_BadOption tk (hr.mono (by decide)) ed_str) (sd_ifR (wk_any _) (et_w (ew_and (et_notN (ed_var 1)) (ew_and1 (et_not (et_val (ed_callF I_is_number_of tk (hr.mono (by decide)) (ea_cons (ed_var 1) (ea_cons (ed_con co_PACKS) ea_nil)))))))) (sd_raiseF (wk_any _) E_BadOption tk (hr.mono (by decide)) ed_str) (sd_ifR (wk_any _) (et_w (ew_and (et_notN (ed_var 2)) (ew_and1 (et_not (et_val (ed_callF I_is_number_of tk (hr.mono (by decide)) (ea_cons (ed_var 2) (ea_cons (ed_con co_ALIGNS) ea_nil)))))))) (sd_raiseF (wk_any _) E_BadOption tk (hr.mono (by decide)) ed_str) (sd_ifR (wk_any _) (et_not (et_val (ed_callF I_is_word_of tk (hr.mono (by decide)) (ea_cons (ed_var 3) (ea_cons (ed_con co_ENDS) ea_nil))))) (sd_raiseF (wk_any _) E_BadOption tk (hr.mono (by decide)) ed_str) (sd_ret (wk_any _) (ed_tup (ea_cons (ed_var 0) (ea_cons (ed_var 1) (ea_cons (ed_var 2) (ea_cons (ed_var 3) ea_nil))))))))))⟩⟩
abbrev s_is_row : Stmt := top 13
theorem sc_is_row : FnScope ["thing"] ["thing"] (defScope s_is_row) := ⟨rfl, rfl, rfl, by decide +kernel, rfl, by decide +kernel, by decide +kernel⟩
theorem wk_is_row {f : Addr} {fd : FuncData} (F : Fun K "is_row" "is_row" s_is_row f fd) (hm : mg "is_row" = some (.ref f)) (hk : PySem.W.keepIn K (.ref f) = true) (hb : Binds K fd ["thing"] []) (TF : TabF K mg tgtC tabC) (B : Bi mg) : FI P w K mg base "is_row" ["thing"] 1 (ar1 f_is_row) := by
  exact ⟨f, fd, hm, hk, hb, fn_of_D F sc_is_row fun ds hl cdv A outer s H E hr tk po => match ds, hl with
    | [a_thing], _ => ⟨_, rfl, show SD _ _ [.val a_thing] _ _ from (sd_ret (wk_any _) (ed_isiTX TF (.cons ⟨B.b_list, by decide +kernel, by rfl, by decide, by decide, by decide⟩ (by rfl) (.cons ⟨B.b_tuple, by decide +kernel, by rfl, by decide, by decide, by decide⟩ (by rfl) .nil)) B.b_isinstance (ed_var 0)))⟩⟩
abbrev s_is_integer_kind : Stmt := top 15
theorem sc_is_integer_kind : FnScope ["kind"] ["kind"] (defScope s_is_integer_kind) := ⟨rfl, rfl, rfl, by decide +kernel, rfl, by decide +kernel, by decide +kernel⟩
theorem wk_is_integer_kind {f : Addr} {fd : FuncData} (F : Fun K "is_integer_kind" "is_integer_kind" s_is_integer_kind f fd) (hm : mg "is_integer_kind" = some (.ref f)) (hk : PySem.W.keepIn K (.ref f) = true) (hb : Binds K fd ["kind"] []) (I_is_row : FI P w K mg base "is_row" ["thing"] 1 (ar1 f_is_row)) (B : Bi mg) (TF : TabF K mg tgtC tabC) (co_SIZES : CO K mg "SIZES" c_SIZES) (I_is_number_of : FI P w K mg base "is_number_of" ["thing", "some"] 2 (ar2 f_is_number_of)) : FI P w K mg base "is_integer_kind" ["kind"] 3 (ar1 f_is_integer_kind) := by
  exact ⟨f, fd, hm, hk, hb, fn_of_D F sc_is_integer_kind fun ds hl cdv A outer s H E hr tk po => match ds, hl with
    | [a_kind], _ => ⟨_, rfl, show SD _ _ [.val a_kind] _ _ from (sd_ifR (wk_any _) (et_w (ew_or (et_not (et_val (ed_callF I_is_row tk (hr.mono (by decide)) (ea_cons (ed_var 0) ea_nil)))) (ew_or (et_ne hr (ed_callB call_len calld_len B.b_len PySem.boot_len (ea_cons (ed_var 0) ea_nil)) ed_int) (ew_or (et_not (et_val (ed_isiX TF ⟨B.b_str, by decide +kernel, by rfl, by decide, by decide, by decide⟩ B.b_isinstance (ed_item (kpos := ⟨0, 0, 0, 0⟩) (ed_var 0) ed_int)))) (ew_or1 (et_ne hr (ed_item (kpos := ⟨0, 0, 0, 0⟩) (ed_var 0) ed_int) ed_str)))))) (sd_ret (wk_any _) ed_bl) (sd_ret (wk_any _) (ed_and (ed_callF I_is_number_of tk (hr.mono (by decide)) (ea_cons (ed_item (kpos := ⟨0, 0, 0, 0⟩) (ed_var 0) ed_int) (ea_cons (ed_con co_SIZES) ea_nil))) (ed_one (ed_isiX TF ⟨B.b_bool, by decide +kernel, by rfl, by decide, by decide, by decide⟩ B.b_isinstance (ed_item (kpos := ⟨0, 0, 0, 0⟩) (ed_var 0) ed_int))))))⟩⟩
abbrev s_is_array_kind : Stmt := top 16
theorem sc_is_array_kind : FnScope ["kind"] ["kind"] (defScope s_is_array_kind) := ⟨rfl, rfl, rfl, by decide +kernel, rfl, by decide +kernel, by decide +kernel⟩
theorem wk_is_array_kind {f : Addr} {fd : FuncData} (F : Fun K "is_array_kind" "is_array_kind" s_is_array_kind f fd) (hm : mg "is_array_kind" = some (.ref f)) (hk : PySem.W.keepIn K (.ref f) = true) (hb : Binds K fd ["kind"] []) (I_is_row : FI P w K mg base "is_row" ["thing"] 1 (ar1 f_is_row)) (B : Bi mg) (TF : TabF K mg tgtC tabC) (I_is_integer : FI P w K mg base "is_integer" ["thing"] 1 (ar1 f_is_integer)) : FI P w K mg base "is_array_kind" ["kind"] 2 (ar1 f_is_array_kind) := by
  exact ⟨f, fd, hm, hk, hb, fn_of_D F sc_is_array_kind fun ds hl cdv A outer s H E hr tk po => match ds, hl with
    | [a_kind], _ => ⟨_, rfl, show SD _ _ [.val a_kind] _ _ from (sd_ifR (wk_any _) (et_w (ew_or (et_not (et_val (ed_callF I_is_row tk (hr.mono (by decide)) (ea_cons (ed_var 0) ea_nil)))) (ew_or (et_ne hr (ed_callB call_len calld_len B.b_len PySem.boot_len (ea_cons (ed_var 0) ea_nil)) ed_int) (ew_or (et_not (et_val (ed_isiX TF ⟨B.b_str, by decide +kernel, by rfl, by decide, by decide, by decide⟩ B.b_isinstance (ed_item (kpos := ⟨0, 0, 0, 0⟩) (ed_var 0) ed_int)))) (ew_or1 (et_ne hr (ed_item (kpos := ⟨0, 0, 0, 0⟩) (ed_var 0) ed_int) ed_str)))))) (sd_ret (wk_any _) ed_bl) (sd_ret (wk_any _) (ed_and (ed_callF I_is_integer tk (hr.mono (by decide)) (ea_cons (ed_item (kpos := ⟨0, 0, 0, 0⟩) (ed_var 0) ed_int) ea_nil)) (ed_one (ed_ge (ed_item (kpos := ⟨0, 0, 0, 0⟩) (ed_var 0) ed_int) ed_int)))))⟩⟩
abbrev s_checked_kind : Stmt := top 17
theorem sc_checked_kind : FnScope ["kind"] ["kind"] (defScope s_checked_kind) := ⟨rfl, rfl, rfl, by decide +kernel, rfl, by decide +kernel, by decide +kernel⟩
theorem wk_checked_kind {f : Addr} {fd : FuncData} (F : Fun K "checked_kind" "checked_kind" s_checked_kind f fd) (hm : mg "checked_kind" = some (.ref f)) (hk : PySem.W.keepIn K (.ref f) = true) (hb : Binds K fd ["kind"] []) (TF : TabF K mg tgtC tabC) (tg_Shape : TgtF K mg "Shape") (B : Bi mg) (I_is_integer_kind : FI P w K mg base "is_integer_kind" ["kind"] 3 (ar1 f_is_integer_kind)) (I_is_array_kind : FI P w K mg base "is_array_kind" ["kind"] 2 (ar1 f_is_array_kind)) (E_BadKind : EI P w K mg base "BadKind" "kind") : ∀ n : Nat, FI P w K mg base "checked_kind" ["kind"] (4 + n) (ar1 (f_checked_kind n))
  | 0 => ⟨f, fd, hm, hk, hb, fn_of_D F sc_checked_kind fun ds hl cdv A outer s H E hr tk po => match ds, hl with
    | [_], _ => ⟨M.bad, rfl, sd_bad⟩⟩
  | n + 1 => by
    have ih_checked_kind := wk_checked_kind F hm hk hb TF tg_Shape B I_is_integer_kind I_is_array_kind E_BadKind n
    exact ⟨f, fd, hm, hk, hb, fn_of_D F sc_checked_kind fun ds hl cdv A outer s H E hr tk po => match ds, hl with
    | [a_kind], _ => ⟨_, rfl, show SD _ _ [.val a_kind] _ _ from (sd_ifR (wk_any _) (et_val (ed_isC TF tg_Shape B.b_isinstance (ed_var 0))) (sd_ret (wk_any _) (ed_var 0)) (sd_ifR (wk_any _) (et_val (ed_callF I_is_integer_kind tk (hr.mono (by show _ ≤ 4 + n; omega)) (ea_cons (ed_var 0) ea_nil))) (sd_ret (wk_any _) (ed_callTy call_tuple_of calld_tuple B.b_tuple (by decide +kernel) (ea_cons (ed_var 0) ea_nil))) (sd_ifR (wk_any _) (et_val (ed_callF I_is_array_kind tk (hr.mono (by show _ ≤ 4 + n; omega)) (ea_cons (ed_var 0) ea_nil))) (sd_ret (wk_any _) (ed_tup (ea_cons ed_str (ea_cons (ed_callF ih_checked_kind tk (hr.mono (by show _ ≤ 4 + n; omega)) (ea_cons (ed_item (kpos := ⟨0, 0, 0, 0⟩) (ed_var 0) ed_int) ea_nil)) (ea_cons (ed_item (kpos := ⟨0, 0, 0, 0⟩) (ed_var 0) ed_int) ea_nil))))) (sd_raiseF (wk_any _) E_BadKind tk (hr.mono (by show _ ≤ 4 + n; omega)) (ed_var 0)))))⟩⟩
abbrev s_is_name : Stmt := top 29
theorem sc_is_name : FnScope ["thing", "sign"] ["thing"] (defScope s_is_name) := ⟨rfl, rfl, rfl, by decide +kernel, rfl, by decide +kernel, by decide +kernel⟩
theorem wk_is_name {f : Addr} {fd : FuncData} (F : Fun K "is_name" "is_name" s_is_name f fd) (hm : mg "is_name" = some (.ref f)) (hk : PySem.W.keepIn K (.ref f) = true) (hb : Binds K fd ["thing"] []) (TF : TabF K mg tgtC tabC) (B : Bi mg) (co_DIGITS : CO K mg "DIGITS" c_DIGITS) (co_LETTERS : CO K mg "LETTERS" c_LETTERS) : FI P w K mg base "is_name" ["thing"] 1 (ar1 f_is_name) := by
  exact ⟨f, fd, hm, hk, hb, fn_of_D F sc_is_name fun ds hl cdv A outer s H E hr tk po => match ds, hl with
    | [a_thing], _ => ⟨_, rfl, show SD _ _ [.val a_thing, .any] _ _ from (sd_ifR (wk_any _) (et_w (ew_or (et_not (et_val (ed_isiX TF ⟨B.b_str, by decide +kernel, by rfl, by decide, by decide, by decide⟩ B.b_isinstance (ed_var 0)))) (ew_or (et_eq hr (ed_var 0) ed_str) (ew_or1 (et_in (ed_item (kpos := ⟨0, 0, 0, 0⟩) (ed_var 0) ed_int) (ed_con co_DIGITS)))))) (sd_ret (wk_any _) ed_bl) (sd_ret (wk_any _) (ed_callB (cr_all rfl) calld_all B.b_all (by decide +kernel) (ea_cons (ed_new (en_mapX (.nm 1) tk sc_is_name.nd (blkOk_by (N := ["thing", "sign"]) (sc := defScope s_is_name) (own := [("sign", 1)]) (by decide +kernel)) (id_any (ed_var 0)) (by decide) (fun _ _ _ _ _ _ => (pg_name (i := 1) sc_is_name.nd rfl (Or.inl rfl))) (fun _ _ _ _ _ _ W' tk' us => match us with | [] => ed_bad | [v_sign1] => (ed_or (ed_in (ed_var 1) (ed_con co_LETTERS)) (ed_one (ed_in (ed_var 1) (ed_con co_DIGITS)))) | _ :: _ :: _ => ed_bad))) ea_nil))))⟩⟩
abbrev s_checked_member : Stmt := top 30
theorem sc_checked_member : FnScope ["place", "member", "bits", "name", "kind"] ["place", "member"] (defScope s_checked_member) := ⟨rfl, rfl, rfl, by decide +kernel, rfl, by decide +kernel, by decide +kernel⟩
theorem wk_checked_member {f : Addr} {fd : FuncData} (F : Fun K "checked_member" "checked_member" s_checked_member f fd) (hm : mg "checked_member" = some (.ref f)) (hk : PySem.W.keepIn K (.ref f) = true) (hb : Binds K fd ["place", "member"] []) (I_is_row : FI P w K mg base "is_row" ["thing"] 1 (ar1 f_is_row)) (B : Bi mg) (I_is_name : FI P w K mg base "is_name" ["thing"] 1 (ar1 f_is_name)) (E_BadMember : EI P w K mg base "BadMember" "place") (I_checked_kind : ∀ n, FI P w K mg base "checked_kind" ["kind"] (4 + n) (ar1 (f_checked_kind n))) (TF : TabF K mg tgtC tabC) (tg_Shape : TgtF K mg "Shape") (I_is_integer_kind : FI P w K mg base "is_integer_kind" ["kind"] 3 (ar1 f_is_integer_kind)) (I_is_integer : FI P w K mg base "is_integer" ["thing"] 1 (ar1 f_is_integer)) (E_BadBits : EI P w K mg base "BadBits" "place") : FI P w K mg base "checked_member" ["place", "member"] 17 (ar2 f_checked_member) := by
  exact ⟨f, fd, hm, hk, hb, fn_of_D F sc_checked_member fun ds hl cdv A outer s H E hr tk po => match ds, hl with
    | [a_place, a_member], _ => ⟨_, rfl, show SD _ _ [.val a_place, .val a_member, .any, .any, .any] _ _ from (sd_ifR (wk_any _) (et_w (ew_or (et_not (et_val (ed_callF I_is_row tk (hr.mono (by decide)) (ea_cons (ed_var 1) ea_nil)))) (ew_or (et_notin (ed_callB call_len calld_len B.b_len PySem.boot_len (ea_cons (ed_var 1) ea_nil)) (ed_tup (ea_cons ed_int (ea_cons ed_int ea_nil)))) (ew_or1 (et_w (ew_and (et_notN (ed_item (kpos := ⟨0, 0, 0, 0⟩) (ed_var 1) ed_int)) (ew_and1 (et_not (et_val (ed_callF I_is_name tk (hr.mono (by decide)) (ea_cons (ed_item (kpos := ⟨0, 0, 0, 0⟩) (ed_var 1) ed_int) ea_nil))))))))))) (sd_raiseF (wk_any _) E_BadMember tk (hr.mono (by decide)) (ed_var 0)) (sd_par2 3 4 (wk_any _) (ps_par rfl sc_checked_member.nd rfl rfl (by decide) rfl rfl (ea_cons (ed_item (kpos := ⟨0, 0, 0, 0⟩) (ed_var 1) ed_int) (ea_cons (ed_callF (I_checked_kind 12) tk (hr.mono (by decide)) (ea_cons (ed_item (kpos := ⟨0, 0, 0, 0⟩) (ed_var 1) ed_int) ea_nil)) ea_nil)) (by rfl)) (fun v_name2 v_kind3 => (sd_ifR (wk_any _) (et_eq hr (ed_callB call_len calld_len B.b_len PySem.boot_len (ea_cons (ed_var 1) ea_nil)) ed_int) (sd_ifR (wk_any _) (et_w (ew_and (et_isN (ed_var 3)) (ew_and1 (et_not (et_val (ed_isC TF tg_Shape B.b_isinstance (ed_var 4))))))) (sd_raiseF (wk_any _) E_BadMember tk (hr.mono (by decide)) (ed_var 0)) (sd_ret (wk_any _) (ed_tup (ea_cons (ed_var 3) (ea_cons (ed_var 4) (ea_cons ed_non ea_nil)))))) (sd_ifR (wk_any _) (et_not (et_val (ed_callF I_is_integer_kind tk (hr.mono (by decide)) (ea_cons (ed_var 4) ea_nil)))) (sd_raiseF (wk_any _) E_BadMember tk (hr.mono (by decide)) (ed_var 0)) (sd_set 2 (wk_any _) sc_checked_member.nd (ed_item (kpos := ⟨0, 0, 0, 0⟩) (ed_var 1) ed_int) (fun v_bits6 => (sd_ifR (wk_any _) (et_w (ew_or (et_not (et_val (ed_callF I_is_integer tk (hr.mono (by decide)) (ea_cons (ed_var 2) ea_nil)))) (ew_or (et_not (et_chain op_le opd_cmp op_le opd_cmp ed_int (ed_var 2) (ed_mul ed_int (ed_item (kpos := ⟨0, 0, 0, 0⟩) (ed_var 4) ed_int)))) (ew_or1 (et_w (ew_and (et_eq hr (ed_var 2) ed_int) (ew_and1 (et_notN (ed_var 3))))))))) (sd_raiseF (wk_any _) E_BadBits tk (hr.mono (by decide)) (ed_var 0)) (sd_ret (wk_any _) (ed_tup (ea_cons (ed_var 3) (ea_cons (ed_var 4) (ea_cons (ed_var 2) ea_nil)))))))))))))⟩⟩
abbrev s_checked_members : Stmt := top 31
theorem sc_checked_members : FnScope ["members", "place", "member"] ["members"] (defScope s_checked_members) := ⟨rfl, rfl, rfl, by decide +kernel, rfl, by decide +kernel, by decide +kernel⟩
theorem wk_checked_members {f : Addr} {fd : FuncData} (F : Fun K "checked_members" "checked_members" s_checked_members f fd) (hm : mg "checked_members" = some (.ref f)) (hk : PySem.W.keepIn K (.ref f) = true) (hb : Binds K fd ["members"] []) (B : Bi mg) (I_checked_member : FI P w K mg base "checked_member" ["place", "member"] 17 (ar2 f_checked_member)) : FI P w K mg base "checked_members" ["members"] 18 (ar1 f_checked_members) := by
  exact ⟨f, fd, hm, hk, hb, fn_of_D F sc_checked_members fun ds hl cdv A outer s H E hr tk po => match ds, hl with
    | [a_members], _ => ⟨_, rfl, show SD _ _ [.val a_members, .any, .any] _ _ from (sd_ret (wk_any _) (ed_new (en_mapX (.tp [(.nm 1), (.nm 2)]) tk sc_checked_members.nd (blkOk_by (N := ["members", "place", "member"]) (sc := defScope s_checked_members) (own := [("place", 1), ("member", 2)]) (by decide +kernel)) (id_enum B.b_enumerate (ed_var 0)) (by decide) (fun _ _ _ _ _ _ => (pg_tup rfl (pgs_cons (pg_name (i := 1) sc_checked_members.nd rfl (Or.inl rfl)) (pgs_cons (pg_name (i := 2) sc_checked_members.nd rfl (Or.inl rfl)) pgs_nil)))) (fun _ _ _ _ _ _ W' tk' us => match us with | [] => ed_bad | [_] => ed_bad | [v_place1, v_member2] => (ed_callF I_checked_member tk' (hr.mono (by decide)) (ea_cons (ed_var 1) (ea_cons (ed_var 2) ea_nil))) | _ :: _ :: _ :: _ => ed_bad))))⟩⟩
abbrev s_names_of : Stmt := top 33
theorem sc_names_of : FnScope ["rows", "found", "name", "kind", "bits"] ["rows"] (defScope s_names_of) := ⟨rfl, rfl, rfl, by decide +kernel, rfl, by decide +kernel, by decide +kernel⟩
theorem wk_names_of {f : Addr} {fd : FuncData} (F : Fun K "names_of" "names_of" s_names_of f fd) (hm : mg "names_of" = some (.ref f)) (hk : PySem.W.keepIn K (.ref f) = true) (hb : Binds K fd ["rows"] []) (na_Layout_rows : NA K mg "Layout" "rows") : ∀ n : Nat, FI P w K mg base "names_of" ["rows"] (1 + n) (ar1 (f_names_of n))
  | 0 => ⟨f, fd, hm, hk, hb, fn_of_D F sc_names_of fun ds hl cdv A outer s H E hr tk po => match ds, hl with
    | [_], _ => ⟨M.bad, rfl, sd_bad⟩⟩
  | n + 1 => by
    have ih_names_of := wk_names_of F hm hk hb na_Layout_rows n
    exact ⟨f, fd, hm, hk, hb, fn_of_D F sc_names_of fun ds hl cdv A outer s H E hr tk po => match ds, hl with
    | [a_rows], _ => ⟨_, rfl, show SD _ _ [.val a_rows, .any, .any, .any, .any] _ _ from (sd_own 1 (wk_any _) sc_names_of.nd (en_lst ea_nil) (fun v_found1 => (sd_for3 2 3 4 (fun (v_c2 : List D) => [.val a_rows, .own v_c2, .any, .any, .any]) v_found1 (wk_any _) (.same (.same (.any (.any (.any .nil))))) po (id_any (ed_var 0)) (pg_tup3 rfl (pg_name (i := 2) sc_names_of.nd rfl (by first | exact Or.inl rfl | exact Or.inr rfl)) (pg_name (i := 3) sc_names_of.nd rfl (by first | exact Or.inl rfl | exact Or.inr rfl)) (pg_name (i := 4) sc_names_of.nd rfl (by first | exact Or.inl rfl | exact Or.inr rfl))) (fun v_c2 v_name3 v_kind4 v_bits5 => (sd_if (wk_any _) (et_notN (ed_var 2)) (sd_append 1 (wk_any _) (pe_bm PySem.F.plainAttrs_list PySem.F.slot_list_append PySem.F.type_list_append mt_append (pv 1) (pa_cons (ed_var 2) pa_nil)) (fun v_d6 => (sd_nil (c := (v_c2 ++ [v_d6])) (.same (.same (.any (.any (.any .nil)))))))) (sd_ifJ (fun (v_c7 : List D) => [.val a_rows, .own v_c7, .val v_name3, .val v_kind4, .val v_bits5]) (wk_any _) (et_isN (ed_var 4)) (sd_extend 1 (wk_any _) (pe_bm PySem.F.plainAttrs_list PySem.F.slot_list_extend PySem.F.type_list_extend mt_extend (pv 1) (pa_cons (ed_callF ih_names_of tk (hr.mono (by show _ ≤ 1 + n; omega)) (ea_cons (ed_fldF na_Layout_rows (ed_var 3)) ea_nil)) pa_nil)) (fun v_es9 => (sd_nil (c := (v_c2 ++ v_es9)) (.same (.same (.same (.same (.same .nil)))))))) (sd_nil (c := v_c2) (.same (.same (.same (.same (.same .nil)))))) (fun v_c7 => (sd_nil (c := v_c7) (.same (.same (.any (.any (.any .nil)))))))))) (fun v_c2 => (sd_frz 1 (sd_ret (wk_any _) (ed_var 1)))))))⟩⟩
abbrev s_checked_names : Stmt := top 32
theorem sc_checked_names : FnScope ["rows", "seen", "name"] ["rows"] (defScope s_checked_names) := ⟨rfl, rfl, rfl, by decide +kernel, rfl, by decide +kernel, by decide +kernel⟩
theorem wk_checked_names {f : Addr} {fd : FuncData} (F : Fun K "checked_names" "checked_names" s_checked_names f fd) (hm : mg "checked_names" = some (.ref f)) (hk : PySem.W.keepIn K (.ref f) = true) (hb : Binds K fd ["rows"] []) (I_names_of : ∀ n, FI P w K mg base "names_of" ["rows"] (1 + n) (ar1 (f_names_of n))) (E_BadName : EI P w K mg base "BadName" "name") : FI P w K mg base "checked_names" ["rows"] 14 (ar1 f_checked_names) := by
  exact ⟨f, fd, hm, hk, hb, fn_of_D F sc_checked_names fun ds hl cdv A outer s H E hr tk po => match ds, hl with
    | [a_rows], _ => ⟨_, rfl, show SD _ _ [.val a_rows, .any, .any] _ _ from (sd_own 1 (wk_any _) sc_checked_names.nd (en_lst ea_nil) (fun v_seen1 => (sd_for1 2 (fun (v_c2 : List D) => [.val a_rows, .own v_c2, .any]) v_seen1 (wk_any _) (.same (.same (.any .nil))) po (id_any (ed_callF (I_names_of 12) tk (hr.mono (by decide)) (ea_cons (ed_var 0) ea_nil))) (pg_name (i := 2) sc_checked_names.nd rfl (by first | exact Or.inl rfl | exact Or.inr rfl)) (fun v_c2 v_name3 => (sd_ifR (wk_any _) (et_inO 1 (ed_var 2)) (sd_raiseF (wk_any _) E_BadName tk (hr.mono (by decide)) (ed_var 2)) (sd_append 1 (wk_any _) (pe_bm PySem.F.plainAttrs_list PySem.F.slot_list_append PySem.F.type_list_append mt_append (pv 1) (pa_cons (ed_var 2) pa_nil)) (fun v_d5 => (sd_nil (c := (v_c2 ++ [v_d5])) (.same (.same (.any .nil)))))))) (fun v_c2 => (sd_frz 1 (sd_ret (wk_any _) (ed_var 1)))))))⟩⟩
abbrev s_up : Stmt := top 35
theorem sc_up : FnScope ["number", "step"] ["number", "step"] (defScope s_up) := ⟨rfl, rfl, rfl, by decide +kernel, rfl, by decide +kernel, by decide +kernel⟩
theorem wk_up {f : Addr} {fd : FuncData} (F : Fun K "up" "up" s_up f fd) (hm : mg "up" = some (.ref f)) (hk : PySem.W.keepIn K (.ref f) = true) (hb : Binds K fd ["number", "step"] [])  : FI P w K mg base "up" ["number", "step"] 1 (ar2 f_up) := by
  exact ⟨f, fd, hm, hk, hb, fn_of_D F sc_up fun ds hl cdv A outer s H E hr tk po => match ds, hl with
    | [a_number, a_step], _ => ⟨_, rfl, show SD _ _ [.val a_number, .val a_step] _ _ from (sd_ret (wk_any _) (ed_mul (ed_div (ed_sub (ed_add (ed_var 0) (ed_var 1)) ed_int) (ed_var 1)) (ed_var 1)))⟩⟩
abbrev s_Layout_init : Stmt := inClass (top 52) 0
theorem sc_Layout_init : FnScope ["self", "rows", "laid", "convention", "align", "ends", "positions", "taken", "least"] ["self", "rows", "laid", "convention", "align", "ends"] (defScope s_Layout_init) := ⟨rfl, rfl, rfl, by decide +kernel, rfl, by decide +kernel, by decide +kernel⟩
theorem wk_Layout_init {C f : Addr} {fd : FuncData} (F : Fun K "__init__" "Layout.__init__" s_Layout_init f fd) (hc : CI K mg "Layout" C) (hm : Mk K C f) (hb : Binds K fd ["self", "rows", "laid", "convention", "align", "ends"] []) (B : Bi mg) (na_Layout_step : NA K mg "Layout" "step") (I_up : FI P w K mg base "up" ["number", "step"] 1 (ar2 f_up)) (na_Layout_order : NA K mg "Layout" "order") (na_Layout_rule : NA K mg "Layout" "rule") (na_Layout_extent : NA K mg "Layout" "extent") (na_Layout_positions : NA K mg "Layout" "positions") (na_Layout_rows : NA K mg "Layout" "rows") : KI P w K mg base "Layout" ["self", "rows", "laid", "convention", "align", "ends"] 2 (ar6 f_Layout_init) := by
  exact ⟨C, f, fd, hc, hm, hb, fn_of_D F sc_Layout_init fun ds hl cdv A outer s H E hr tk po => match ds, hl with
    | [a_self, a_rows, a_laid, a_convention, a_align, a_ends], _ => ⟨_, rfl, show SD _ _ [.val a_self, .val a_rows, .val a_laid, .val a_convention, .val a_align, .val a_ends, .any, .any, .any] _ _ from (sd_unp3 6 7 8 (wk_any _) (ps_asg (ed_var 2) (pg_tup3 rfl (pg_name (i := 6) sc_Layout_init.nd rfl (by first | exact Or.inl rfl | exact Or.inr rfl)) (pg_name (i := 7) sc_Layout_init.nd rfl (by first | exact Or.inl rfl | exact Or.inr rfl)) (pg_name (i := 8) sc_Layout_init.nd rfl (by first | exact Or.inl rfl | exact Or.inr rfl)))) (fun v_positions1 v_taken2 v_least3 => (sd_fldF (wk_any _) na_Layout_rows (ed_var 0) (ed_var 1) (sd_fldF (wk_any _) na_Layout_positions (ed_var 0) (ed_var 6) (sd_fldF (wk_any _) na_Layout_step (ed_var 0) (ed_if (et_isN (ed_var 4)) (ed_var 8) (ed_callB (call_max2 rfl) calld_max B.b_max (by decide +kernel) (ea_cons (ed_var 8) (ea_cons (ed_var 4) ea_nil)))) (sd_fldF (wk_any _) na_Layout_extent (ed_var 0) (ed_callF I_up tk (hr.mono (by decide)) (ea_cons (ed_var 7) (ea_cons (ed_fldF na_Layout_step (ed_var 0)) ea_nil))) (sd_fldF (wk_any _) na_Layout_rule (ed_var 0) (ed_var 3) (sd_fldF (wk_any _) na_Layout_order (ed_var 0) (ed_var 5) (sd_nil (c := ()) (wk_any _))))))))))⟩⟩
abbrev s_Layout_size : Stmt := inClass (top 52) 1
theorem sc_Layout_size : FnScope ["self"] ["self"] (defScope s_Layout_size) := ⟨rfl, rfl, rfl, by decide +kernel, rfl, by decide +kernel, by decide +kernel⟩
theorem wk_Layout_size {C p f : Addr} {fd : FuncData} (F : Fun K "size" "Layout.size" s_Layout_size f fd) (hc : CI K mg "Layout" C) (hm : PropOf K C "size" p f) (hb : Binds K fd ["self"] []) (na_Layout_extent : NA K mg "Layout" "extent") : PRI P w K mg base "Layout" "size" "self" 1 (ar1 f_Layout_size) := by
  exact ⟨C, p, f, fd, hc, hm, hb, fn_of_D F sc_Layout_size fun ds hl cdv A outer s H E hr tk po => match ds, hl with
    | [a_self], _ => ⟨_, rfl, show SD _ _ [.val a_self] _ _ from (sd_ret (wk_any _) (ed_fldF na_Layout_extent (ed_var 0)))⟩⟩
abbrev s_size_of : Stmt := top 18
theorem sc_size_of : FnScope ["kind"] ["kind"] (defScope s_size_of) := ⟨rfl, rfl, rfl, by decide +kernel, rfl, by decide +kernel, by decide +kernel⟩
theorem wk_size_of {f : Addr} {fd : FuncData} (F : Fun K "size_of" "size_of" s_size_of f fd) (hm : mg "size_of" = some (.ref f)) (hk : PySem.W.keepIn K (.ref f) = true) (hb : Binds K fd ["kind"] []) (TF : TabF K mg tgtC tabC) (tg_Shape : TgtF K mg "Shape") (B : Bi mg) (I_Layout_size : PRI P w K mg base "Layout" "size" "self" 1 (ar1 f_Layout_size)) : ∀ n : Nat, FI P w K mg base "size_of" ["kind"] (3 + n) (ar1 (f_size_of n))
  | 0 => ⟨f, fd, hm, hk, hb, fn_of_D F sc_size_of fun ds hl cdv A outer s H E hr tk po => match ds, hl with
    | [_], _ => ⟨M.bad, rfl, sd_bad⟩⟩
  | n + 1 => by
    have ih_size_of := wk_size_of F hm hk hb TF tg_Shape B I_Layout_size n
    exact ⟨f, fd, hm, hk, hb, fn_of_D F sc_size_of fun ds hl cdv A outer s H E hr tk po => match ds, hl with
    | [a_kind], _ => ⟨_, rfl, show SD _ _ [.val a_kind] _ _ from (sd_ifR (wk_any _) (et_val (ed_isC TF tg_Shape B.b_isinstance (ed_var 0))) (sd_ret (wk_any _) (ed_prop I_Layout_size (hr.mono (by show _ ≤ 3 + n; omega)) (ed_var 0))) (sd_ret (wk_any _) (ed_if (et_eq hr (ed_item (kpos := ⟨0, 0, 0, 0⟩) (ed_var 0) ed_int) ed_str) (ed_item (kpos := ⟨0, 0, 0, 0⟩) (ed_var 0) ed_int) (ed_mul (ed_item (kpos := ⟨0, 0, 0, 0⟩) (ed_var 0) ed_int) (ed_callF ih_size_of tk (hr.mono (by show _ ≤ 3 + n; omega)) (ea_cons (ed_item (kpos := ⟨0, 0, 0, 0⟩) (ed_var 0) ed_int) ea_nil))))))⟩⟩
abbrev s_Layout_alignment : Stmt := inClass (top 52) 2
theorem sc_Layout_alignment : FnScope ["self"] ["self"] (defScope s_Layout_alignment) := ⟨rfl, rfl, rfl, by decide +kernel, rfl, by decide +kernel, by decide +kernel⟩
theorem wk_Layout_alignment {C p f : Addr} {fd : FuncData} (F : Fun K "alignment" "Layout.alignment" s_Layout_alignment f fd) (hc : CI K mg "Layout" C) (hm : PropOf K C "alignment" p f) (hb : Binds K fd ["self"] []) (na_Layout_step : NA K mg "Layout" "step") : PRI P w K mg base "Layout" "alignment" "self" 1 (ar1 f_Layout_alignment) := by
  exact ⟨C, p, f, fd, hc, hm, hb, fn_of_D F sc_Layout_alignment fun ds hl cdv A outer s H E hr tk po => match ds, hl with
    | [a_self], _ => ⟨_, rfl, show SD _ _ [.val a_self] _ _ from (sd_ret (wk_any _) (ed_fldF na_Layout_step (ed_var 0)))⟩⟩
abbrev s_alignment_of : Stmt := top 19
theorem sc_alignment_of : FnScope ["kind"] ["kind"] (defScope s_alignment_of) := ⟨rfl, rfl, rfl, by decide +kernel, rfl, by decide +kernel, by decide +kernel⟩
theorem wk_alignment_of {f : Addr} {fd : FuncData} (F : Fun K "alignment_of" "alignment_of" s_alignment_of f fd) (hm : mg "alignment_of" = some (.ref f)) (hk : PySem.W.keepIn K (.ref f) = true) (hb : Binds K fd ["kind"] []) (TF : TabF K mg tgtC tabC) (tg_Shape : TgtF K mg "Shape") (B : Bi mg) (I_Layout_alignment : PRI P w K mg base "Layout" "alignment" "self" 1 (ar1 f_Layout_alignment)) : ∀ n : Nat, FI P w K mg base "alignment_of" ["kind"] (3 + n) (ar1 (f_alignment_of n))
  | 0 => ⟨f, fd, hm, hk, hb, fn_of_D F sc_alignment_of fun ds hl cdv A outer s H E hr tk po => match ds, hl with
    | [_], _ => ⟨M.bad, rfl, sd_bad⟩⟩
  | n + 1 => by
    have ih_alignment_of := wk_alignment_of F hm hk hb TF tg_Shape B I_Layout_alignment n
    exact ⟨f, fd, hm, hk, hb, fn_of_D F sc_alignment_of fun ds hl cdv A outer s H E hr tk po => match ds, hl with
    | [a_kind], _ => ⟨_, rfl, show SD _ _ [.val a_kind] _ _ from (sd_ifR (wk_any _) (et_val (ed_isC TF tg_Shape B.b_isinstance (ed_var 0))) (sd_ret (wk_any _) (ed_prop I_Layout_alignment (hr.mono (by show _ ≤ 3 + n; omega)) (ed_var 0))) (sd_ret (wk_any _) (ed_if (et_eq hr (ed_item (kpos := ⟨0, 0, 0, 0⟩) (ed_var 0) ed_int) ed_str) (ed_item (kpos := ⟨0, 0, 0, 0⟩) (ed_var 0) ed_int) (ed_callF ih_alignment_of tk (hr.mono (by show _ ≤ 3 + n; omega)) (ea_cons (ed_item (kpos := ⟨0, 0, 0, 0⟩) (ed_var 0) ed_int) ea_nil)))))⟩⟩
abbrev s_step_of : Stmt := top 36
theorem sc_step_of : FnScope ["kind", "pack"] ["kind", "pack"] (defScope s_step_of) := ⟨rfl, rfl, rfl, by decide +kernel, rfl, by decide +kernel, by decide +kernel⟩
theorem wk_step_of {f : Addr} {fd : FuncData} (F : Fun K "step_of" "step_of" s_step_of f fd) (hm : mg "step_of" = some (.ref f)) (hk : PySem.W.keepIn K (.ref f) = true) (hb : Binds K fd ["kind", "pack"] []) (I_alignment_of : ∀ n, FI P w K mg base "alignment_of" ["kind"] (3 + n) (ar1 (f_alignment_of n))) (B : Bi mg) : FI P w K mg base "step_of" ["kind", "pack"] 16 (ar2 f_step_of) := by
  exact ⟨f, fd, hm, hk, hb, fn_of_D F sc_step_of fun ds hl cdv A outer s H E hr tk po => match ds, hl with
    | [a_kind, a_pack], _ => ⟨_, rfl, show SD _ _ [.val a_kind, .val a_pack] _ _ from (sd_ret (wk_any _) (ed_if (et_isN (ed_var 1)) (ed_callF (I_alignment_of 12) tk (hr.mono (by decide)) (ea_cons (ed_var 0) ea_nil)) (ed_callB (call_min2 rfl) calld_min B.b_min (by decide +kernel) (ea_cons (ed_callF (I_alignment_of 12) tk (hr.mono (by decide)) (ea_cons (ed_var 0) ea_nil)) (ea_cons (ed_var 1) ea_nil)))))⟩⟩
abbrev s_msvc_union : Stmt := top 39
theorem sc_msvc_union : FnScope ["rows", "pack", "taken", "least", "name", "kind", "bits"] ["rows", "pack"] (defScope s_msvc_union) := ⟨rfl, rfl, rfl, by decide +kernel, rfl, by decide +kernel, by decide +kernel⟩
theorem wk_msvc_union {f : Addr} {fd : FuncData} (F : Fun K "msvc_union" "msvc_union" s_msvc_union f fd) (hm : mg "msvc_union" = some (.ref f)) (hk : PySem.W.keepIn K (.ref f) = true) (hb : Binds K fd ["rows", "pack"] []) (I_size_of : ∀ n, FI P w K mg base "size_of" ["kind"] (3 + n) (ar1 (f_size_of n))) (B : Bi mg) (I_step_of : FI P w K mg base "step_of" ["kind", "pack"] 16 (ar2 f_step_of)) : FI P w K mg base "msvc_union" ["rows", "pack"] 17 (ar2 f_msvc_union) := by
  exact ⟨f, fd, hm, hk, hb, fn_of_D F sc_msvc_union fun ds hl cdv A outer s H E hr tk po => match ds, hl with
    | [a_rows, a_pack], _ => ⟨_, rfl, show SD _ _ [.val a_rows, .val a_pack, .any, .any, .any, .any, .any] _ _ from (sd_unp2 2 3 (wk_any _) (ps_asg (ed_tup (ea_cons ed_int (ea_cons ed_int ea_nil))) (pg_tup2 rfl (pg_name (i := 2) sc_msvc_union.nd rfl (by first | exact Or.inl rfl | exact Or.inr rfl)) (pg_name (i := 3) sc_msvc_union.nd rfl (by first | exact Or.inl rfl | exact Or.inr rfl)))) (fun v_taken1 v_least2 => (sd_for3 4 5 6 (fun (v_c3 : D × D) => [.val a_rows, .val a_pack, .val v_c3.1, .val v_c3.2, .any, .any, .any]) (v_taken1, v_least2) (wk_any _) (.same (.same (.same (.same (.any (.any (.any .nil))))))) po (id_any (ed_var 0)) (pg_tup3 rfl (pg_name (i := 4) sc_msvc_union.nd rfl (by first | exact Or.inl rfl | exact Or.inr rfl)) (pg_name (i := 5) sc_msvc_union.nd rfl (by first | exact Or.inl rfl | exact Or.inr rfl)) (pg_name (i := 6) sc_msvc_union.nd rfl (by first | exact Or.inl rfl | exact Or.inr rfl))) (fun v_c3 v_name4 v_kind5 v_bits6 => (sd_ifJ (fun (v_c7 : D × D) => [.val a_rows, .val a_pack, .val v_c7.1, .val v_c7.2, .val v_name4, .val v_kind5, .val v_bits6]) (wk_any _) (et_ne hr (ed_var 6) ed_int) (sd_par2 2 3 (wk_any _) (ps_par rfl sc_msvc_union.nd rfl rfl (by decide) rfl rfl (ea_cons (ed_callB (call_max2 rfl) calld_max B.b_max (by decide +kernel) (ea_cons (ed_var 2) (ea_cons (ed_callF (I_size_of 12) tk (hr.mono (by decide)) (ea_cons (ed_var 5) ea_nil)) ea_nil))) (ea_cons (ed_callB (call_max2 rfl) calld_max B.b_max (by decide +kernel) (ea_cons (ed_var 3) (ea_cons (ed_callF I_step_of tk (hr.mono (by decide)) (ea_cons (ed_var 5) (ea_cons (ed_var 1) ea_nil))) ea_nil))) ea_nil)) (by rfl)) (fun v_taken8 v_least9 => (sd_nil (c := (v_taken8, v_least9)) (.same (.same (.same (.same (.same (.same (.same .nil)))))))))) (sd_nil (c := (v_c3.1, v_c3.2)) (.same (.same (.same (.same (.same (.same (.same .nil)))))))) (fun v_c7 => (sd_nil (c := (v_c7.1, v_c7.2)) (.same (.same (.same (.same (.any (.any (.any .nil))))))))))) (fun v_c3 => (sd_ret (wk_any _) (ed_tup (ea_cons (ed_mul (ed_new (en_lst (ea_cons ed_int ea_nil))) (ed_callB call_len calld_len B.b_len PySem.boot_len (ea_cons (ed_var 0) ea_nil))) (ea_cons (ed_var 2) (ea_cons (ed_var 3) ea_nil)))))))))⟩⟩
abbrev s_msvc_structure : Stmt := top 38
theorem sc_msvc_structure : FnScope ["rows", "pack", "at", "least", "positions", "unit", "used", "name", "kind", "bits", "step", "size"] ["rows", "pack"] (defScope s_msvc_structure) := ⟨rfl, rfl, rfl, by decide +kernel, rfl, by decide +kernel, by decide +kernel⟩
theorem wk_msvc_structure {f : Addr} {fd : FuncData} (F : Fun K "msvc_structure" "msvc_structure" s_msvc_structure f fd) (hm : mg "msvc_structure" = some (.ref f)) (hk : PySem.W.keepIn K (.ref f) = true) (hb : Binds K fd ["rows", "pack"] []) (I_step_of : FI P w K mg base "step_of" ["kind", "pack"] 16 (ar2 f_step_of)) (I_size_of : ∀ n, FI P w K mg base "size_of" ["kind"] (3 + n) (ar1 (f_size_of n))) (I_up : FI P w K mg base "up" ["number", "step"] 1 (ar2 f_up)) (B : Bi mg) : FI P w K mg base "msvc_structure" ["rows", "pack"] 17 (ar2 f_msvc_structure) := by
  exact ⟨f, fd, hm, hk, hb, fn_of_D F sc_msvc_structure fun ds hl cdv A outer s H E hr tk po => match ds, hl with
    | [a_rows, a_pack], _ => ⟨_, rfl, show SD _ _ [.val a_rows, .val a_pack, .any, .any, .any, .any, .any, .any, .any, .any, .any, .any] _ _ from (sd_par_vvo 2 3 4 (wk_any _) (ps_par3 rfl sc_msvc_structure.nd rfl rfl rfl (by decide) (by decide) (by decide) rfl rfl rfl (em_v ed_int (em_v ed_int (em_o (en_lst ea_nil) em_nil))) (by rfl)) (fun v_at1 v_least2 v_positions3 => sd_at [.val a_rows, .val a_pack, .val v_at1, .val v_least2, .own v_positions3, .any, .any, .any, .any, .any, .any, .any] (sd_unp2 5 6 (wk_any _) (ps_asg (ed_tup (ea_cons ed_int (ea_cons ed_int ea_nil))) (pg_tup2 rfl (pg_name (i := 5) sc_msvc_structure.nd rfl (by first | exact Or.inl rfl | exact Or.inr rfl)) (pg_name (i := 6) sc_msvc_structure.nd rfl (by first | exact Or.inl rfl | exact Or.inr rfl)))) (fun v_unit4 v_used5 => (sd_for3 7 8 9 (fun (v_c6 : D × D × List D × D × D) => [.val a_rows, .val a_pack, .val v_c6.1, .val v_c6.2.1, .own v_c6.2.2.1, .val v_c6.2.2.2.1, .val v_c6.2.2.2.2, .any, .any, .any, .any, .any]) (v_at1, v_least2, v_positions3, v_unit4, v_used5) (wk_any _) (.same (.same (.same (.same (.same (.same (.same (.any (.any (.any (.any (.any .nil)))))))))))) po (id_any (ed_var 0)) (pg_tup3 rfl (pg_name (i := 7) sc_msvc_structure.nd rfl (by first | exact Or.inl rfl | exact Or.inr rfl)) (pg_name (i := 8) sc_msvc_structure.nd rfl (by first | exact Or.inl rfl | exact Or.inr rfl)) (pg_name (i := 9) sc_msvc_structure.nd rfl (by first | exact Or.inl rfl | exact Or.inr rfl))) (fun v_c6 v_name7 v_kind8 v_bits9 => (sd_par2 10 11 (wk_any _) (ps_par rfl sc_msvc_structure.nd rfl rfl (by decide) rfl rfl (ea_cons (ed_callF I_step_of tk (hr.mono (by decide)) (ea_cons (ed_var 8) (ea_cons (ed_var 1) ea_nil))) (ea_cons (ed_callF (I_size_of 12) tk (hr.mono (by decide)) (ea_cons (ed_var 8) ea_nil)) ea_nil)) (by rfl)) (fun v_step10 v_size11 => (sd_ifJ (fun (v_c12 : D × List D × D × D) => [.val a_rows, .val a_pack, .val v_c12.1, .val v_c6.2.1, .own v_c12.2.1, .val v_c12.2.2.1, .val v_c12.2.2.2, .val v_name7, .val v_kind8, .val v_bits9, .val v_step10, .val v_size11]) (wk_any _) (et_isN (ed_var 9)) (sd_set 2 (wk_any _) sc_msvc_structure.nd (ed_callF I_up tk (hr.mono (by decide)) (ea_cons (ed_var 2) (ea_cons (ed_var 10) ea_nil))) (fun v_at13 => (sd_append 4 (wk_any _) (pe_bm PySem.F.plainAttrs_list PySem.F.slot_list_append PySem.F.type_list_append mt_append (pv 4) (pa_cons (ed_mul ed_int (ed_var 2)) pa_nil)) (fun v_d14 => (sd_par2 2 5 (wk_any _) (ps_par rfl sc_msvc_structure.nd rfl rfl (by decide) rfl rfl (ea_cons (ed_add (ed_var 2) (ed_var 11)) (ea_cons ed_int ea_nil)) (by rfl)) (fun v_at15 v_unit16 => (sd_nil (c := (v_at15, (v_c6.2.2.1 ++ [v_d14]), v_unit16, v_c6.2.2.2.2)) (.same (.same (.same (.same (.same (.same (.same (.same (.same (.same (.same (.same .nil))))))))))))))))))) (sd_if (wk_any _) (et_eq hr (ed_var 9) ed_int) (sd_append 4 (wk_any _) (pe_bm PySem.F.plainAttrs_list PySem.F.slot_list_append PySem.F.type_list_append mt_append (pv 4) (pa_cons (ed_mul ed_int (ed_var 2)) pa_nil)) (fun v_d17 => (sd_set 5 (wk_any _) sc_msvc_structure.nd ed_int (fun v_unit18 => (sd_nil (c := (v_c6.1, (v_c6.2.2.1 ++ [v_d17]), v_unit18, v_c6.2.2.2.2)) (.same (.same (.same (.same (.same (.same (.same (.same (.same (.same (.same (.same .nil))))))))))))))))) (sd_ifJ (fun (v_c19 : D × D × D) => [.val a_rows, .val a_pack, .val v_c19.1, .val v_c6.2.1, .own v_c6.2.2.1, .val v_c19.2.1, .val v_c19.2.2, .val v_name7, .val v_kind8, .val v_bits9, .val v_step10, .val v_size11]) (wk_any _) (et_w (ew_or (et_ne hr (ed_var 5) (ed_var 11)) (ew_or1 (et_gt (ed_add (ed_var 6) (ed_var 9)) (ed_mul ed_int (ed_var 11)))))) (sd_par3 2 5 6 (wk_any _) (ps_par3 rfl sc_msvc_structure.nd rfl rfl rfl (by decide) (by decide) (by decide) rfl rfl rfl (ea_cons (ed_add (ed_callF I_up tk (hr.mono (by decide)) (ea_cons (ed_var 2) (ea_cons (ed_var 10) ea_nil))) (ed_var 11)) (ea_cons (ed_var 11) (ea_cons ed_int ea_nil))) (by rfl)) (fun v_at20 v_unit21 v_used22 => (sd_nil (c := (v_at20, v_unit21, v_used22)) (.same (.same (.same (.same (.same (.same (.same (.same (.same (.same (.same (.same .nil))))))))))))))) (sd_nil (c := (v_c6.1, v_c6.2.2.2.1, v_c6.2.2.2.2)) (.same (.same (.same (.same (.same (.same (.same (.same (.same (.same (.same (.same .nil))))))))))))) (fun v_c19 => (sd_append 4 (wk_any _) (pe_bm PySem.F.plainAttrs_list PySem.F.slot_list_append PySem.F.type_list_append mt_append (pv 4) (pa_cons (ed_add (ed_mul ed_int (ed_sub (ed_var 2) (ed_var 11))) (ed_var 6)) pa_nil)) (fun v_d23 => (sd_augAdd 6 (wk_any _) (ps_aug sc_msvc_structure.nd rfl (Or.inl rfl) (ed_var 9) ip_add) (fun v_used24 => (sd_nil (c := (v_c19.1, (v_c6.2.2.1 ++ [v_d23]), v_c19.2.1, v_used24)) (.same (.same (.same (.same (.same (.same (.same (.same (.same (.same (.same (.same .nil)))))))))))))))))))) (fun v_c12 => (sd_set 3 (wk_any _) sc_msvc_structure.nd (ed_if (et_ne hr (ed_var 9) ed_int) (ed_callB (call_max2 rfl) calld_max B.b_max (by decide +kernel) (ea_cons (ed_var 3) (ea_cons (ed_var 10) ea_nil))) (ed_var 3)) (fun v_least26 => (sd_nil (c := (v_c12.1, v_least26, v_c12.2.1, v_c12.2.2.1, v_c12.2.2.2)) (.same (.same (.same (.same (.same (.same (.same (.any (.any (.any (.any (.any .nil)))))))))))))))))))) (fun v_c6 => (sd_frz 4 (sd_ret (wk_any _) (ed_tup (ea_cons (ed_var 4) (ea_cons (ed_var 2) (ea_cons (ed_var 3) ea_nil))))))))))))⟩⟩
abbrev s_counts : Stmt := top 48
theorem sc_counts : FnScope ["name", "bits"] ["name", "bits"] (defScope s_counts) := ⟨rfl, rfl, rfl, by decide +kernel, rfl, by decide +kernel, by decide +kernel⟩
theorem wk_counts {f : Addr} {fd : FuncData} (F : Fun K "counts" "counts" s_counts f fd) (hm : mg "counts" = some (.ref f)) (hk : PySem.W.keepIn K (.ref f) = true) (hb : Binds K fd ["name", "bits"] [])  : FI P w K mg base "counts" ["name", "bits"] 1 (ar2 f_counts) := by
  exact ⟨f, fd, hm, hk, hb, fn_of_D F sc_counts fun ds hl cdv A outer s H E hr tk po => match ds, hl with
    | [a_name, a_bits], _ => ⟨_, rfl, show SD _ _ [.val a_name, .val a_bits] _ _ from (sd_ret (wk_any _) (ed_or (ed_isN (ed_var 1)) (ed_one (ed_notN (ed_var 0)))))⟩⟩
abbrev s_sysv_union : Stmt := top 50
theorem sc_sysv_union : FnScope ["rows", "pack", "taken", "least", "name", "kind", "bits"] ["rows", "pack"] (defScope s_sysv_union) := ⟨rfl, rfl, rfl, by decide +kernel, rfl, by decide +kernel, by decide +kernel⟩
theorem wk_sysv_union {f : Addr} {fd : FuncData} (F : Fun K "sysv_union" "sysv_union" s_sysv_union f fd) (hm : mg "sysv_union" = some (.ref f)) (hk : PySem.W.keepIn K (.ref f) = true) (hb : Binds K fd ["rows", "pack"] []) (I_size_of : ∀ n, FI P w K mg base "size_of" ["kind"] (3 + n) (ar1 (f_size_of n))) (I_up : FI P w K mg base "up" ["number", "step"] 1 (ar2 f_up)) (B : Bi mg) (I_counts : FI P w K mg base "counts" ["name", "bits"] 1 (ar2 f_counts)) (I_step_of : FI P w K mg base "step_of" ["kind", "pack"] 16 (ar2 f_step_of)) : FI P w K mg base "sysv_union" ["rows", "pack"] 17 (ar2 f_sysv_union) := by
  exact ⟨f, fd, hm, hk, hb, fn_of_D F sc_sysv_union fun ds hl cdv A outer s H E hr tk po => match ds, hl with
    | [a_rows, a_pack], _ => ⟨_, rfl, show SD _ _ [.val a_rows, .val a_pack, .any, .any, .any, .any, .any] _ _ from (sd_unp2 2 3 (wk_any _) (ps_asg (ed_tup (ea_cons ed_int (ea_cons ed_int ea_nil))) (pg_tup2 rfl (pg_name (i := 2) sc_sysv_union.nd rfl (by first | exact Or.inl rfl | exact Or.inr rfl)) (pg_name (i := 3) sc_sysv_union.nd rfl (by first | exact Or.inl rfl | exact Or.inr rfl)))) (fun v_taken1 v_least2 => (sd_for3 4 5 6 (fun (v_c3 : D × D) => [.val a_rows, .val a_pack, .val v_c3.1, .val v_c3.2, .any, .any, .any]) (v_taken1, v_least2) (wk_any _) (.same (.same (.same (.same (.any (.any (.any .nil))))))) po (id_any (ed_var 0)) (pg_tup3 rfl (pg_name (i := 4) sc_sysv_union.nd rfl (by first | exact Or.inl rfl | exact Or.inr rfl)) (pg_name (i := 5) sc_sysv_union.nd rfl (by first | exact Or.inl rfl | exact Or.inr rfl)) (pg_name (i := 6) sc_sysv_union.nd rfl (by first | exact Or.inl rfl | exact Or.inr rfl))) (fun v_c3 v_name4 v_kind5 v_bits6 => (sd_set 2 (wk_any _) sc_sysv_union.nd (ed_callB (call_max2 rfl) calld_max B.b_max (by decide +kernel) (ea_cons (ed_var 2) (ea_cons (ed_if (et_isN (ed_var 6)) (ed_callF (I_size_of 12) tk (hr.mono (by decide)) (ea_cons (ed_var 5) ea_nil)) (ed_div (ed_callF I_up tk (hr.mono (by decide)) (ea_cons (ed_var 6) (ea_cons ed_int ea_nil))) ed_int)) ea_nil))) (fun v_taken7 => (sd_set 3 (wk_any _) sc_sysv_union.nd (ed_if (et_val (ed_callF I_counts tk (hr.mono (by decide)) (ea_cons (ed_var 4) (ea_cons (ed_var 6) ea_nil)))) (ed_callB (call_max2 rfl) calld_max B.b_max (by decide +kernel) (ea_cons (ed_var 3) (ea_cons (ed_callF I_step_of tk (hr.mono (by decide)) (ea_cons (ed_var 5) (ea_cons (ed_var 1) ea_nil))) ea_nil))) (ed_var 3)) (fun v_least8 => (sd_nil (c := (v_taken7, v_least8)) (.same (.same (.same (.same (.any (.any (.any .nil))))))))))))) (fun v_c3 => (sd_ret (wk_any _) (ed_tup (ea_cons (ed_mul (ed_new (en_lst (ea_cons ed_int ea_nil))) (ed_callB call_len calld_len B.b_len PySem.boot_len (ea_cons (ed_var 0) ea_nil))) (ea_cons (ed_var 2) (ea_cons (ed_var 3) ea_nil)))))))))⟩⟩
abbrev s_is_moved : Stmt := top 47
theorem sc_is_moved : FnScope ["position", "kind", "bits", "pack", "unit"] ["position", "kind", "bits", "pack"] (defScope s_is_moved) := ⟨rfl, rfl, rfl, by decide +kernel, rfl, by decide +kernel, by decide +kernel⟩
theorem wk_is_moved {f : Addr} {fd : FuncData} (F : Fun K "is_moved" "is_moved" s_is_moved f fd) (hm : mg "is_moved" = some (.ref f)) (hk : PySem.W.keepIn K (.ref f) = true) (hb : Binds K fd ["position", "kind", "bits", "pack"] []) (I_size_of : ∀ n, FI P w K mg base "size_of" ["kind"] (3 + n) (ar1 (f_size_of n))) : FI P w K mg base "is_moved" ["position", "kind", "bits", "pack"] 16 (ar4 f_is_moved) := by
  exact ⟨f, fd, hm, hk, hb, fn_of_D F sc_is_moved fun ds hl cdv A outer s H E hr tk po => match ds, hl with
    | [a_position, a_kind, a_bits, a_pack], _ => ⟨_, rfl, show SD _ _ [.val a_position, .val a_kind, .val a_bits, .val a_pack, .any] _ _ from (sd_set 4 (wk_any _) sc_is_moved.nd (ed_mul ed_int (ed_callF (I_size_of 12) tk (hr.mono (by decide)) (ea_cons (ed_var 1) ea_nil))) (fun v_unit1 => (sd_ret (wk_any _) (ed_or (ed_eq hr (ed_var 2) ed_int) (ed_one (ed_and (ed_isN (ed_var 3)) (ed_one (ed_ne hr (ed_div (ed_var 0) (ed_var 4)) (ed_div (ed_sub (ed_add (ed_var 0) (ed_var 2)) ed_int) (ed_var 4))))))))))⟩⟩
abbrev s_sysv_structure : Stmt := top 49
theorem sc_sysv_structure : FnScope ["rows", "pack", "at", "least", "positions", "name", "kind", "bits", "step"] ["rows", "pack"] (defScope s_sysv_structure) := ⟨rfl, rfl, rfl, by decide +kernel, rfl, by decide +kernel, by decide +kernel⟩
theorem wk_sysv_structure {f : Addr} {fd : FuncData} (F : Fun K "sysv_structure" "sysv_structure" s_sysv_structure f fd) (hm : mg "sysv_structure" = some (.ref f)) (hk : PySem.W.keepIn K (.ref f) = true) (hb : Binds K fd ["rows", "pack"] []) (I_step_of : FI P w K mg base "step_of" ["kind", "pack"] 16 (ar2 f_step_of)) (I_is_moved : FI P w K mg base "is_moved" ["position", "kind", "bits", "pack"] 16 (ar4 f_is_moved)) (I_up : FI P w K mg base "up" ["number", "step"] 1 (ar2 f_up)) (I_size_of : ∀ n, FI P w K mg base "size_of" ["kind"] (3 + n) (ar1 (f_size_of n))) (I_counts : FI P w K mg base "counts" ["name", "bits"] 1 (ar2 f_counts)) (B : Bi mg) : FI P w K mg base "sysv_structure" ["rows", "pack"] 17 (ar2 f_sysv_structure) := by
  exact ⟨f, fd, hm, hk, hb, fn_of_D F sc_sysv_structure fun ds hl cdv A outer s H E hr tk po => match ds, hl with
    | [a_rows, a_pack], _ => ⟨_, rfl, show SD _ _ [.val a_rows, .val a_pack, .any, .any, .any, .any, .any, .any, .any] _ _ from (sd_par_vvo 2 3 4 (wk_any _) (ps_par3 rfl sc_sysv_structure.nd rfl rfl rfl (by decide) (by decide) (by decide) rfl rfl rfl (em_v ed_int (em_v ed_int (em_o (en_lst ea_nil) em_nil))) (by rfl)) (fun v_at1 v_least2 v_positions3 => sd_at [.val a_rows, .val a_pack, .val v_at1, .val v_least2, .own v_positions3, .any, .any, .any, .any] (sd_for3 5 6 7 (fun (v_c4 : D × D × List D) => [.val a_rows, .val a_pack, .val v_c4.1, .val v_c4.2.1, .own v_c4.2.2, .any, .any, .any, .any]) (v_at1, v_least2, v_positions3) (wk_any _) (.same (.same (.same (.same (.same (.any (.any (.any (.any .nil))))))))) po (id_any (ed_var 0)) (pg_tup3 rfl (pg_name (i := 5) sc_sysv_structure.nd rfl (by first | exact Or.inl rfl | exact Or.inr rfl)) (pg_name (i := 6) sc_sysv_structure.nd rfl (by first | exact Or.inl rfl | exact Or.inr rfl)) (pg_name (i := 7) sc_sysv_structure.nd rfl (by first | exact Or.inl rfl | exact Or.inr rfl))) (fun v_c4 v_name5 v_kind6 v_bits7 => (sd_set 8 (wk_any _) sc_sysv_structure.nd (ed_callF I_step_of tk (hr.mono (by decide)) (ea_cons (ed_var 6) (ea_cons (ed_var 1) ea_nil))) (fun v_step8 => (sd_ifJ (fun (v_c9 : D) => [.val a_rows, .val a_pack, .val v_c9, .val v_c4.2.1, .own v_c4.2.2, .val v_name5, .val v_kind6, .val v_bits7, .val v_step8]) (wk_any _) (et_w (ew_or (et_isN (ed_var 7)) (ew_or1 (et_val (ed_callF I_is_moved tk (hr.mono (by decide)) (ea_cons (ed_var 2) (ea_cons (ed_var 6) (ea_cons (ed_var 7) (ea_cons (ed_var 1) ea_nil))))))))) (sd_set 2 (wk_any _) sc_sysv_structure.nd (ed_callF I_up tk (hr.mono (by decide)) (ea_cons (ed_var 2) (ea_cons (ed_mul ed_int (ed_var 8)) ea_nil))) (fun v_at10 => (sd_nil (c := v_at10) (.same (.same (.same (.same (.same (.same (.same (.same (.same .nil)))))))))))) (sd_nil (c := v_c4.1) (.same (.same (.same (.same (.same (.same (.same (.same (.same .nil)))))))))) (fun v_c9 => (sd_append 4 (wk_any _) (pe_bm PySem.F.plainAttrs_list PySem.F.slot_list_append PySem.F.type_list_append mt_append (pv 4) (pa_cons (ed_var 2) pa_nil)) (fun v_d11 => (sd_augAdd 2 (wk_any _) (ps_aug sc_sysv_structure.nd rfl (Or.inl rfl) (ed_if (et_isN (ed_var 7)) (ed_mul ed_int (ed_callF (I_size_of 12) tk (hr.mono (by decide)) (ea_cons (ed_var 6) ea_nil))) (ed_var 7)) ip_add) (fun v_at12 => (sd_set 3 (wk_any _) sc_sysv_structure.nd (ed_if (et_val (ed_callF I_counts tk (hr.mono (by decide)) (ea_cons (ed_var 5) (ea_cons (ed_var 7) ea_nil)))) (ed_callB (call_max2 rfl) calld_max B.b_max (by decide +kernel) (ea_cons (ed_var 3) (ea_cons (ed_var 8) ea_nil))) (ed_var 3)) (fun v_least14 => (sd_nil (c := (v_at12, v_least14, (v_c4.2.2 ++ [v_d11]))) (.same (.same (.same (.same (.same (.any (.any (.any (.any .nil))))))))))))))))))))) (fun v_c4 => (sd_frz 4 (sd_ret (wk_any _) (ed_tup (ea_cons (ed_var 4) (ea_cons (ed_div (ed_callF I_up tk (hr.mono (by decide)) (ea_cons (ed_var 2) (ea_cons ed_int ea_nil))) ed_int) (ea_cons (ed_var 3) ea_nil))))))))))⟩⟩
abbrev s_layout_of : Stmt := top 53
theorem sc_layout_of : FnScope ["members", "convention", "pack", "align", "ends", "is_union", "rows", "laid"] ["members", "convention", "pack", "align", "ends", "is_union"] (defScope s_layout_of) := ⟨rfl, rfl, rfl, by decide +kernel, rfl, by decide +kernel, by decide +kernel⟩
theorem wk_layout_of {f : Addr} {fd : FuncData} (F : Fun K "layout_of" "layout_of" s_layout_of f fd) (hm : mg "layout_of" = some (.ref f)) (hk : PySem.W.keepIn K (.ref f) = true) (hb : Binds K fd ["members", "convention", "pack", "align", "ends", "is_union"] []) (I_checked_options : FI P w K mg base "checked_options" ["convention", "pack", "align", "ends"] 3 (ar4 f_checked_options)) (I_checked_members : FI P w K mg base "checked_members" ["members"] 18 (ar1 f_checked_members)) (I_checked_names : FI P w K mg base "checked_names" ["rows"] 14 (ar1 f_checked_names)) (I_msvc_union : FI P w K mg base "msvc_union" ["rows", "pack"] 17 (ar2 f_msvc_union)) (I_msvc_structure : FI P w K mg base "msvc_structure" ["rows", "pack"] 17 (ar2 f_msvc_structure)) (I_sysv_union : FI P w K mg base "sysv_union" ["rows", "pack"] 17 (ar2 f_sysv_union)) (I_sysv_structure : FI P w K mg base "sysv_structure" ["rows", "pack"] 17 (ar2 f_sysv_structure)) (I_Layout_init : KI P w K mg base "Layout" ["self", "rows", "laid", "convention", "align", "ends"] 2 (ar6 f_Layout_init)) : FI P w K mg base "layout_of" ["members", "convention", "pack", "align", "ends", "is_union"] 19 (ar6 f_layout_of) := by
  exact ⟨f, fd, hm, hk, hb, fn_of_D F sc_layout_of fun ds hl cdv A outer s H E hr tk po => match ds, hl with
    | [a_members, a_convention, a_pack, a_align, a_ends, a_is_union], _ => ⟨_, rfl, show SD _ _ [.val a_members, .val a_convention, .val a_pack, .val a_align, .val a_ends, .val a_is_union, .any, .any] _ _ from (sd_expr (wk_any _) (ed_callF I_checked_options tk (hr.mono (by decide)) (ea_cons (ed_var 1) (ea_cons (ed_var 2) (ea_cons (ed_var 3) (ea_cons (ed_var 4) ea_nil))))) (sd_set 6 (wk_any _) sc_layout_of.nd (ed_callF I_checked_members tk (hr.mono (by decide)) (ea_cons (ed_var 0) ea_nil)) (fun v_rows1 => (sd_expr (wk_any _) (ed_callF I_checked_names tk (hr.mono (by decide)) (ea_cons (ed_var 6) ea_nil)) (sd_ifJ (fun (v_c2 : D) => [.val a_members, .val a_convention, .val a_pack, .val a_align, .val a_ends, .val a_is_union, .val v_rows1, .val v_c2]) (wk_any _) (et_eq hr (ed_var 1) ed_str) (sd_set 7 (wk_any _) sc_layout_of.nd (ed_if (et_val (ed_var 5)) (ed_callF I_msvc_union tk (hr.mono (by decide)) (ea_cons (ed_var 6) (ea_cons (ed_var 2) ea_nil))) (ed_callF I_msvc_structure tk (hr.mono (by decide)) (ea_cons (ed_var 6) (ea_cons (ed_var 2) ea_nil)))) (fun v_laid3 => (sd_nil (c := v_laid3) (.same (.same (.same (.same (.same (.same (.same (.same .nil))))))))))) (sd_set 7 (wk_any _) sc_layout_of.nd (ed_if (et_val (ed_var 5)) (ed_callF I_sysv_union tk (hr.mono (by decide)) (ea_cons (ed_var 6) (ea_cons (ed_var 2) ea_nil))) (ed_callF I_sysv_structure tk (hr.mono (by decide)) (ea_cons (ed_var 6) (ea_cons (ed_var 2) ea_nil)))) (fun v_laid4 => (sd_nil (c := v_laid4) (.same (.same (.same (.same (.same (.same (.same (.same .nil))))))))))) (fun v_c2 => (sd_ret (wk_any _) (ed_frzP (ed_makeF I_Layout_init tk (hr.mono (by decide)) (ea_cons (ed_var 6) (ea_cons (ed_var 7) (ea_cons (ed_var 1) (ea_cons (ed_var 3) (ea_cons (ed_var 4) ea_nil))))))))))))))⟩⟩
abbrev s_struct : Stmt := top 54
theorem sc_struct : FnScope ["members", "convention", "pack", "align", "ends"] ["members", "convention", "pack", "align", "ends"] (defScope s_struct) := ⟨rfl, rfl, rfl, by decide +kernel, rfl, by decide +kernel, by decide +kernel⟩
theorem wk_struct {f : Addr} {fd : FuncData} {kws : List (Str × V)} (F : FunD K "struct" "struct" (defArgs s_struct) (defBody s_struct) (defScope s_struct) [] kws f fd) (I_layout_of : FI P w K mg base "layout_of" ["members", "convention", "pack", "align", "ends", "is_union"] 19 (ar6 f_layout_of)) : FnOk P w K mg base (L2.CX P w) 20 f fd ["members", "convention", "pack", "align", "ends"] (spD K mg 5 (ar5 f_struct)) := by
  exact fn_of_DD F sc_struct fun ds hl cdv A outer s H E hr tk po => match ds, hl with
    | [a_members, a_convention, a_pack, a_align, a_ends], _ => ⟨_, rfl, show SD _ _ [.val a_members, .val a_convention, .val a_pack, .val a_align, .val a_ends] _ _ from (sd_ret (wk_any _) (ed_callF I_layout_of tk (hr.mono (by decide)) (ea_cons (ed_var 0) (ea_cons (ed_var 1) (ea_cons (ed_var 2) (ea_cons (ed_var 3) (ea_cons (ed_var 4) (ea_cons ed_bl ea_nil))))))))⟩
abbrev s_union : Stmt := top 55
theorem sc_union : FnScope ["members", "convention", "pack", "align", "ends"] ["members", "convention", "pack", "align", "ends"] (defScope s_union) := ⟨rfl, rfl, rfl, by decide +kernel, rfl, by decide +kernel, by decide +kernel⟩
theorem wk_union {f : Addr} {fd : FuncData} {kws : List (Str × V)} (F : FunD K "union" "union" (defArgs s_union) (defBody s_union) (defScope s_union) [] kws f fd) (I_layout_of : FI P w K mg base "layout_of" ["members", "convention", "pack", "align", "ends", "is_union"] 19 (ar6 f_layout_of)) : FnOk P w K mg base (L2.CX P w) 20 f fd ["members", "convention", "pack", "align", "ends"] (spD K mg 5 (ar5 f_union)) := by
  exact fn_of_DD F sc_union fun ds hl cdv A outer s H E hr tk po => match ds, hl with
    | [a_members, a_convention, a_pack, a_align, a_ends], _ => ⟨_, rfl, show SD _ _ [.val a_members, .val a_convention, .val a_pack, .val a_align, .val a_ends] _ _ from (sd_ret (wk_any _) (ed_callF I_layout_of tk (hr.mono (by decide)) (ea_cons (ed_var 0) (ea_cons (ed_var 1) (ea_cons (ed_var 2) (ea_cons (ed_var 3) (ea_cons (ed_var 4) (ea_cons ed_bl ea_nil))))))))⟩
abbrev s_edeclared : Stmt := top 60
theorem sc_edeclared : FnScope ["_law_rows", "_law_plan"] ["_law_rows", "_law_plan"] (defScope s_edeclared) := ⟨rfl, rfl, rfl, by decide +kernel, rfl, by decide +kernel, by decide +kernel⟩
theorem wk_edeclared {f : Addr} {fd : FuncData} (F : Fun K "_law_declared" "_law_declared" s_edeclared f fd) (hm : mg "_law_declared" = some (.ref f)) (hk : PySem.W.keepIn K (.ref f) = true) (hb : Binds K fd ["_law_rows", "_law_plan"] []) (K_union_1_convention_pack_align_ends : FKI P w K mg base "union" ["members", "convention", "pack", "align", "ends"] 20 (ar5 f_union) 1 ["convention", "pack", "align", "ends"] (fun ds zs => permG [.pos 0, .kw 0, .kw 1, .kw 2, .kw 3] ds [] zs)) (K_struct_1_convention_pack_align_ends : FKI P w K mg base "struct" ["members", "convention", "pack", "align", "ends"] 20 (ar5 f_struct) 1 ["convention", "pack", "align", "ends"] (fun ds zs => permG [.pos 0, .kw 0, .kw 1, .kw 2, .kw 3] ds [] zs)) : FI P w K mg base "_law_declared" ["_law_rows", "_law_plan"] 21 (ar2 f_edeclared) := by
  exact ⟨f, fd, hm, hk, hb, fn_of_D F sc_edeclared fun ds hl cdv A outer s H E hr tk po => match ds, hl with
    | [a_rows, a_plan], _ => ⟨_, rfl, show SD _ _ [.val a_rows, .val a_plan] _ _ from (sd_ifR (wk_any _) (et_val (ed_dget hr (ed_var 1) ed_str (fun _ _ => rfl))) (sd_ret (wk_any _) (ed_callK K_union_1_convention_pack_align_ends tk (hr.mono (by decide)) (ea_cons (ed_var 0) ea_nil) (ek_cons (ed_dget hr (ed_var 1) ed_str (fun _ _ => rfl)) (ek_cons (ed_dget hr (ed_var 1) ed_str (fun _ _ => rfl)) (ek_cons (ed_dget hr (ed_var 1) ed_str (fun _ _ => rfl)) (ek_cons (ed_dget hr (ed_var 1) ed_str (fun _ _ => rfl)) ek_nil)))))) (sd_ret (wk_any _) (ed_callK K_struct_1_convention_pack_align_ends tk (hr.mono (by decide)) (ea_cons (ed_var 0) ea_nil) (ek_cons (ed_dget hr (ed_var 1) ed_str (fun _ _ => rfl)) (ek_cons (ed_dget hr (ed_var 1) ed_str (fun _ _ => rfl)) (ek_cons (ed_dget hr (ed_var 1) ed_str (fun _ _ => rfl)) (ek_cons (ed_dget hr (ed_var 1) ed_str (fun _ _ => rfl)) ek_nil)))))))⟩⟩
abbrev s_etried : Stmt := top 61
theorem sc_etried : FnScope ["_law_members_here", "_law_plan", "_law_found", "e"] ["_law_members_here", "_law_plan"] (defScope s_etried) := ⟨rfl, rfl, rfl, by decide +kernel, rfl, by decide +kernel, by decide +kernel⟩
theorem wk_etried {f : Addr} {fd : FuncData} (F : Fun K "_law_tried" "_law_tried" s_etried f fd) (hm : mg "_law_tried" = some (.ref f)) (hk : PySem.W.keepIn K (.ref f) = true) (hb : Binds K fd ["_law_members_here", "_law_plan"] []) (I_edeclared : FI P w K mg base "_law_declared" ["_law_rows", "_law_plan"] 21 (ar2 f_edeclared)) (X_BadOption : EX K mg "BadOption" "name") (N_BadName_BadOption : NX K mg "BadName" "BadOption") (N_BadBits_BadOption : NX K mg "BadBits" "BadOption") (N_BadKind_BadOption : NX K mg "BadKind" "BadOption") (N_BadMember_BadOption : NX K mg "BadMember" "BadOption") (X_BadMember : EX K mg "BadMember" "place") (N_BadName_BadMember : NX K mg "BadName" "BadMember") (N_BadBits_BadMember : NX K mg "BadBits" "BadMember") (N_BadKind_BadMember : NX K mg "BadKind" "BadMember") (N_BadOption_BadMember : NX K mg "BadOption" "BadMember") (X_BadKind : EX K mg "BadKind" "kind") (N_BadName_BadKind : NX K mg "BadName" "BadKind") (N_BadBits_BadKind : NX K mg "BadBits" "BadKind") (N_BadMember_BadKind : NX K mg "BadMember" "BadKind") (N_BadOption_BadKind : NX K mg "BadOption" "BadKind") (X_BadBits : EX K mg "BadBits" "place") (N_BadName_BadBits : NX K mg "BadName" "BadBits") (N_BadKind_BadBits : NX K mg "BadKind" "BadBits") (N_BadMember_BadBits : NX K mg "BadMember" "BadBits") (N_BadOption_BadBits : NX K mg "BadOption" "BadBits") (X_BadName : EX K mg "BadName" "name") (N_BadBits_BadName : NX K mg "BadBits" "BadName") (N_BadKind_BadName : NX K mg "BadKind" "BadName") (N_BadMember_BadName : NX K mg "BadMember" "BadName") (N_BadOption_BadName : NX K mg "BadOption" "BadName") : FI P w K mg base "_law_tried" ["_law_members_here", "_law_plan"] 22 (ar2 f_etried) := by
  obtain ⟨CA_BadOption, hm_BadOption, te_BadOption, xf_BadOption, nf_BadOption⟩ := X_BadOption
  obtain ⟨CA_BadMember, hm_BadMember, te_BadMember, xf_BadMember, nf_BadMember⟩ := X_BadMember
  obtain ⟨CA_BadKind, hm_BadKind, te_BadKind, xf_BadKind, nf_BadKind⟩ := X_BadKind
  obtain ⟨CA_BadBits, hm_BadBits, te_BadBits, xf_BadBits, nf_BadBits⟩ := X_BadBits
  obtain ⟨CA_BadName, hm_BadName, te_BadName, xf_BadName, nf_BadName⟩ := X_BadName
  exact ⟨f, fd, hm, hk, hb, fn_of_D F sc_etried fun ds hl cdv A outer s H E hr tk po => match ds, hl with
    | [a_members_here, a_plan], _ => ⟨_, rfl, show SD _ _ [.val a_members_here, .val a_plan, .any, .any] _ _ from (sd_set 2 (wk_any _) sc_etried.nd ed_non (fun v_found1 => (sd_tryA (fun (v_c2 : D) => [.val a_members_here, .val a_plan, .val v_c2, .any]) [.val a_members_here, .val a_plan, .val v_found1, .any] (all := ["BadOption", "BadMember", "BadKind", "BadBits", "BadName"]) (wk_any _) (wk_any _) tk sc_etried.nd (fun W1 pn1 xe1 tk1 po1 => (sd_set 2 (.same (.same (.same (.any .nil)))) sc_etried.nd (ed_tup (ea_cons ed_str (ea_cons (ed_callF I_edeclared tk1 (hr.mono (by decide)) (ea_cons (ed_var 0) (ea_cons (ed_var 1) ea_nil))) ea_nil))) (fun v_found3 => (sd_nil (c := v_found3) (.same (.same (.same (.any .nil)))))))) (ClA.cons (i := 3) (f := "name") hm_BadOption te_BadOption (hn_same (hn_ne N_BadMember_BadOption hm_BadOption (hn_ne N_BadKind_BadOption hm_BadOption (hn_ne N_BadBits_BadOption hm_BadOption (hn_ne N_BadName_BadOption hm_BadOption hn_nil))))) (fun a1 d1 oe1 v_e4 pn1 hz hv => (sd_set 2 (wk_any _) sc_etried.nd (ed_tup (ea_cons ed_str (ea_cons (ed_xf (i := 3) xf_BadOption nf_BadOption hz hv rfl) ea_nil))) (fun v_found5 => (sd_nil (c := v_found5) (.same (.same (.same (.any .nil)))))))) (fun _ => rfl) (fun l => l.elim) (ClA.cons (i := 3) (f := "place") hm_BadMember te_BadMember (hn_ne N_BadOption_BadMember hm_BadMember (hn_same (hn_ne N_BadKind_BadMember hm_BadMember (hn_ne N_BadBits_BadMember hm_BadMember (hn_ne N_BadName_BadMember hm_BadMember hn_nil))))) (fun a1 d1 oe1 v_e6 pn1 hz hv => (sd_set 2 (wk_any _) sc_etried.nd (ed_tup (ea_cons ed_str (ea_cons (ed_xf (i := 3) xf_BadMember nf_BadMember hz hv rfl) ea_nil))) (fun v_found7 => (sd_nil (c := v_found7) (.same (.same (.same (.any .nil)))))))) (fun _ => rfl) (fun l => l.elim) (ClA.cons (i := 3) (f := "kind") hm_BadKind te_BadKind (hn_ne N_BadOption_BadKind hm_BadKind (hn_ne N_BadMember_BadKind hm_BadKind (hn_same (hn_ne N_BadBits_BadKind hm_BadKind (hn_ne N_BadName_BadKind hm_BadKind hn_nil))))) (fun a1 d1 oe1 v_e8 pn1 hz hv => (sd_set 2 (wk_any _) sc_etried.nd (ed_tup (ea_cons ed_str (ea_cons (ed_xf (i := 3) xf_BadKind nf_BadKind hz hv rfl) ea_nil))) (fun v_found9 => (sd_nil (c := v_found9) (.same (.same (.same (.any .nil)))))))) (fun _ => rfl) (fun l => l.elim) (ClA.cons (i := 3) (f := "place") hm_BadBits te_BadBits (hn_ne N_BadOption_BadBits hm_BadBits (hn_ne N_BadMember_BadBits hm_BadBits (hn_ne N_BadKind_BadBits hm_BadBits (hn_same (hn_ne N_BadName_BadBits hm_BadBits hn_nil))))) (fun a1 d1 oe1 v_e10 pn1 hz hv => (sd_set 2 (wk_any _) sc_etried.nd (ed_tup (ea_cons ed_str (ea_cons (ed_xf (i := 3) xf_BadBits nf_BadBits hz hv rfl) ea_nil))) (fun v_found11 => (sd_nil (c := v_found11) (.same (.same (.same (.any .nil)))))))) (fun _ => rfl) (fun l => l.elim) (ClA.cons (i := 3) (f := "name") hm_BadName te_BadName (hn_ne N_BadOption_BadName hm_BadName (hn_ne N_BadMember_BadName hm_BadName (hn_ne N_BadKind_BadName hm_BadName (hn_ne N_BadBits_BadName hm_BadName (hn_same hn_nil))))) (fun a1 d1 oe1 v_e12 pn1 hz hv => (sd_set 2 (wk_any _) sc_etried.nd (ed_tup (ea_cons ed_str (ea_cons (ed_xf (i := 3) xf_BadName nf_BadName hz hv rfl) ea_nil))) (fun v_found13 => (sd_nil (c := v_found13) (.same (.same (.same (.any .nil)))))))) (fun _ => rfl) (fun l => l.elim) ClA.nil))))) (fun v_c2 => (sd_ret (wk_any _) (ed_var 2))))))⟩⟩
abbrev s_erow_names : Stmt := top 65
theorem sc_erow_names : FnScope ["_law_row", "_law_key", "_law_kind", "_law_bits", "_law_one"] ["_law_row"] (defScope s_erow_names) := ⟨rfl, rfl, rfl, by decide +kernel, rfl, by decide +kernel, by decide +kernel⟩
theorem wk_erow_names {f : Addr} {fd : FuncData} (F : Fun K "_law_row_names" "_law_row_names" s_erow_names f fd) (hm : mg "_law_row_names" = some (.ref f)) (hk : PySem.W.keepIn K (.ref f) = true) (hb : Binds K fd ["_law_row"] []) (TF : TabF K mg tgtC tabC) (B : Bi mg) : ∀ n : Nat, FI P w K mg base "_law_row_names" ["_law_row"] (1 + n) (ar1 (f_erow_names n))
  | 0 => ⟨f, fd, hm, hk, hb, fn_of_D F sc_erow_names fun ds hl cdv A outer s H E hr tk po => match ds, hl with
    | [_], _ => ⟨M.bad, rfl, sd_bad⟩⟩
  | n + 1 => by
    have ih_erow_names := wk_erow_names F hm hk hb TF B n
    exact ⟨f, fd, hm, hk, hb, fn_of_D F sc_erow_names fun ds hl cdv A outer s H E hr tk po => match ds, hl with
    | [a_row], _ => ⟨_, rfl, show SD _ _ [.val a_row, .any, .any, .any, .any] _ _ from (sd_unp3 1 2 3 (wk_any _) (ps_asg (ed_var 0) (pg_tup3 rfl (pg_name (i := 1) sc_erow_names.nd rfl (by first | exact Or.inl rfl | exact Or.inr rfl)) (pg_name (i := 2) sc_erow_names.nd rfl (by first | exact Or.inl rfl | exact Or.inr rfl)) (pg_name (i := 3) sc_erow_names.nd rfl (by first | exact Or.inl rfl | exact Or.inr rfl)))) (fun v_key1 v_kind2 v_bits3 => (sd_ifR (wk_any _) (et_notN (ed_var 1)) (sd_ret (wk_any _) (ed_new (en_lst (ea_cons (ed_var 1) ea_nil)))) (sd_ret (wk_any _) (ed_if (et_val (ed_isiX TF ⟨B.b_dict, by decide +kernel, by rfl, by decide, by decide, by decide⟩ B.b_isinstance (ed_var 2))) (ed_callB (cr_sumL rfl) calld_sumL B.b_sum (by decide +kernel) (ea_cons (ed_new (en_mapX (.nm 4) tk sc_erow_names.nd (blkOk_by (N := ["_law_row", "_law_key", "_law_kind", "_law_bits", "_law_one"]) (sc := defScope s_erow_names) (own := [("_law_one", 4)]) (by decide +kernel)) (id_any (ed_dget hr (ed_var 2) ed_str (fun _ _ => rfl))) (by decide) (fun _ _ _ _ _ _ => (pg_name (i := 4) sc_erow_names.nd rfl (Or.inl rfl))) (fun _ _ _ _ _ _ W' tk' us => match us with | [] => ed_bad | [v_one4] => (ed_callF ih_erow_names tk' (hr.mono (by show _ ≤ 1 + n; omega)) (ea_cons (ed_var 4) ea_nil)) | _ :: _ :: _ => ed_bad))) (ea_cons (ed_new (en_lst ea_nil)) ea_nil))) (ed_new (en_lst ea_nil)))))))⟩⟩
abbrev s_pick : Stmt := top 58
theorem sc_pick : FnScope ["_law_stream", "_law_some"] ["_law_stream", "_law_some"] (defScope s_pick) := ⟨rfl, rfl, rfl, by decide +kernel, rfl, by decide +kernel, by decide +kernel⟩
theorem wk_pick {f : Addr} {fd : FuncData} (F : Fun K "_law_pick" "_law_pick" s_pick f fd) (hm : mg "_law_pick" = some (.ref f)) (hk : PySem.W.keepIn K (.ref f) = true) (hb : Binds K fd ["_law_stream", "_law_some"] []) (B : Bi mg) (I_draw : FI P w K mg base "_law_draw" ["_law_stream", "_law_count"] 1 (ar2 f_draw)) : FI P w K mg base "_law_pick" ["_law_stream", "_law_some"] 2 (ar2 f_pick) := by
  exact ⟨f, fd, hm, hk, hb, fn_of_D F sc_pick fun ds hl cdv A outer s H E hr tk po => match ds, hl with
    | [a_stream, a_some], _ => ⟨_, rfl, show SD _ _ [.val a_stream, .val a_some] _ _ from (sd_ret (wk_any _) (ed_item (kpos := ⟨0, 0, 0, 0⟩) (ed_var 1) (ed_callF I_draw tk (hr.mono (by decide)) (ea_cons (ed_var 0) (ea_cons (ed_callB call_len calld_len B.b_len PySem.boot_len (ea_cons (ed_var 1) ea_nil)) ea_nil)))))⟩⟩
abbrev s_enamed_plan : Stmt := top 64
theorem sc_enamed_plan : FnScope ["_law_stream", "_law_deep", "_law_found"] ["_law_stream", "_law_deep"] (defScope s_enamed_plan) := ⟨rfl, rfl, rfl, by decide +kernel, rfl, by decide +kernel, by decide +kernel⟩
abbrev s_enamed_rows : Stmt := top 63
theorem sc_enamed_rows : FnScope ["_law_stream", "_law_deep", "_law_is_free", "_law_k", "_law_found", "_law_seen", "_law_more", "_law_key", "_law_way", "_law_row", "_law_one"] ["_law_stream", "_law_deep", "_law_is_free"] (defScope s_enamed_rows) := ⟨rfl, rfl, rfl, by decide +kernel, rfl, by decide +kernel, by decide +kernel⟩
theorem wk_enamed_plan {fQenamed_plan : Addr} {fdQenamed_plan : FuncData} (FQenamed_plan : Fun K "_law_named_plan" "_law_named_plan" s_enamed_plan fQenamed_plan fdQenamed_plan) (hmQenamed_plan : mg "_law_named_plan" = some (.ref fQenamed_plan)) (hkQenamed_plan : PySem.W.keepIn K (.ref fQenamed_plan) = true) (hbQenamed_plan : Binds K fdQenamed_plan ["_law_stream", "_law_deep"] []) {fQenamed_rows : Addr} {fdQenamed_rows : FuncData} (FQenamed_rows : Fun K "_law_named_rows" "_law_named_rows" s_enamed_rows fQenamed_rows fdQenamed_rows) (hmQenamed_rows : mg "_law_named_rows" = some (.ref fQenamed_rows)) (hkQenamed_rows : PySem.W.keepIn K (.ref fQenamed_rows) = true) (hbQenamed_rows : Binds K fdQenamed_rows ["_law_stream", "_law_deep", "_law_is_free"] []) (I_draw : FI P w K mg base "_law_draw" ["_law_stream", "_law_count"] 1 (ar2 f_draw)) (I_eplainB : FI P w K mg base "_law_plain" ["_law_is_union"] 1 (ar1 f_eplainB)) (B : Bi mg) (I_pick : FI P w K mg base "_law_pick" ["_law_stream", "_law_some"] 2 (ar2 f_pick)) (I_erow_names : ∀ n, FI P w K mg base "_law_row_names" ["_law_row"] (1 + n) (ar1 (f_erow_names n))) : ∀ n : Nat, FI P w K mg base "_law_named_plan" ["_law_stream", "_law_deep"] (14 + n) (ar2 (f_enamed_plan n)) ∧ FI P w K mg base "_law_named_rows" ["_law_stream", "_law_deep", "_law_is_free"] (14 + n) (ar3 (f_enamed_rows n))
  | 0 => ⟨⟨fQenamed_plan, fdQenamed_plan, hmQenamed_plan, hkQenamed_plan, hbQenamed_plan, fn_of_D FQenamed_plan sc_enamed_plan fun ds hl cdv A outer s H E hr tk po => match ds, hl with
    | [_, _], _ => ⟨M.bad, rfl, sd_bad⟩⟩,
    ⟨fQenamed_rows, fdQenamed_rows, hmQenamed_rows, hkQenamed_rows, hbQenamed_rows, fn_of_D FQenamed_rows sc_enamed_rows fun ds hl cdv A outer s H E hr tk po => match ds, hl with
    | [_, _, _], _ => ⟨M.bad, rfl, sd_bad⟩⟩⟩
  | n + 1 => by
    obtain ⟨ih_enamed_plan, ih_enamed_rows⟩ := wk_enamed_plan FQenamed_plan hmQenamed_plan hkQenamed_plan hbQenamed_plan FQenamed_rows hmQenamed_rows hkQenamed_rows hbQenamed_rows I_draw I_eplainB B I_pick I_erow_names n
    exact ⟨⟨fQenamed_plan, fdQenamed_plan, hmQenamed_plan, hkQenamed_plan, hbQenamed_plan, fn_of_D FQenamed_plan sc_enamed_plan fun ds hl cdv A outer s H E hr tk po => match ds, hl with
    | [a_stream, a_deep], _ => ⟨_, rfl, show SD _ _ [.val a_stream, .val a_deep, .any] _ _ from (sd_set 2 (wk_any _) sc_enamed_plan.nd (ed_callF I_eplainB tk (hr.mono (by show _ ≤ 14 + n; omega)) (ea_cons (ed_eq hr (ed_callF I_draw tk (hr.mono (by show _ ≤ 14 + n; omega)) (ea_cons (ed_var 0) (ea_cons ed_int ea_nil))) ed_int) ea_nil)) (fun v_found1 => (sd_dput (wk_any _) hr (ed_callF ih_enamed_rows tk (hr.mono (by show _ ≤ 14 + n; omega)) (ea_cons (ed_var 0) (ea_cons (ed_var 1) (ea_cons ed_bl ea_nil)))) (ed_var 2) ed_str (sd_ret (wk_any _) (ed_var 2)))))⟩⟩,
    ⟨fQenamed_rows, fdQenamed_rows, hmQenamed_rows, hkQenamed_rows, hbQenamed_rows, fn_of_D FQenamed_rows sc_enamed_rows fun ds hl cdv A outer s H E hr tk po => match ds, hl with
    | [a_stream, a_deep, a_is_free], _ => ⟨_, rfl, show SD _ _ [.val a_stream, .val a_deep, .val a_is_free, .any, .any, .any, .any, .any, .any, .any, .any] _ _ from (sd_par_ov 4 5 (wk_any _) (ps_par rfl sc_enamed_rows.nd rfl rfl (by decide) rfl rfl (em_o (en_lst ea_nil) (em_v (ed_new (en_lst ea_nil)) em_nil)) (by rfl)) (fun v_found1 v_seen2 => sd_at [.val a_stream, .val a_deep, .val a_is_free, .any, .own v_found1, .val v_seen2, .any, .any, .any, .any, .any] (sd_for1 3 (fun (v_c3 : List D × D) => [.val a_stream, .val a_deep, .val a_is_free, .any, .own v_c3.1, .val v_c3.2, .any, .any, .any, .any, .any]) (v_found1, v_seen2) (wk_any _) (.same (.same (.same (.any (.same (.same (.any (.any (.any (.any (.any .nil))))))))))) po (id_rng1 B.b_range (ed_callF I_draw tk (hr.mono (by show _ ≤ 14 + n; omega)) (ea_cons (ed_var 0) (ea_cons (ed_item (kpos := ⟨0, 0, 0, 0⟩) (ed_new (en_lst (ea_cons ed_int (ea_cons ed_int (ea_cons ed_int ea_nil))))) (ed_var 1)) ea_nil)))) (pg_name (i := 3) sc_enamed_rows.nd rfl (by first | exact Or.inl rfl | exact Or.inr rfl)) (fun v_c3 v_k4 => (sd_par2 7 8 (wk_any _) (ps_par rfl sc_enamed_rows.nd rfl rfl (by decide) rfl rfl (ea_cons (ed_callF I_pick tk (hr.mono (by show _ ≤ 14 + n; omega)) (ea_cons (ed_var 0) (ea_cons (ed_new (en_lst (ea_cons ed_str (ea_cons ed_str (ea_cons ed_str (ea_cons ed_str (ea_cons ed_str (ea_cons ed_str (ea_cons ed_str (ea_cons ed_str (ea_cons ed_str ea_nil))))))))))) ea_nil))) (ea_cons (ed_callF I_draw tk (hr.mono (by show _ ≤ 14 + n; omega)) (ea_cons (ed_var 0) (ea_cons ed_int ea_nil))) ea_nil)) (by rfl)) (fun v_key5 v_way6 => (sd_ifJ (fun (v_c7 : D) => [.val a_stream, .val a_deep, .val a_is_free, .val v_k4, .own v_c3.1, .val v_c3.2, .any, .val v_key5, .val v_way6, .val v_c7, .any]) (wk_any _) (et_w (ew_and (et_lt (ed_var 8) ed_int) (ew_and1 (et_gt (ed_var 1) ed_int)))) (sd_set 9 (wk_any _) sc_enamed_rows.nd (ed_tup (ea_cons ed_non (ea_cons (ed_callF ih_enamed_plan tk (hr.mono (by show _ ≤ 14 + n; omega)) (ea_cons (ed_var 0) (ea_cons (ed_sub (ed_var 1) ed_int) ea_nil))) (ea_cons ed_non ea_nil)))) (fun v_row8 => (sd_nil (c := v_row8) (.same (.same (.same (.same (.same (.same (.any (.same (.same (.same (.any .nil)))))))))))))) (sd_if (wk_any _) (et_w (ew_and (et_eq hr (ed_var 8) ed_int) (ew_and1 (et_gt (ed_var 1) ed_int)))) (sd_set 9 (wk_any _) sc_enamed_rows.nd (ed_tup (ea_cons (ed_var 7) (ea_cons (ed_callF ih_enamed_plan tk (hr.mono (by show _ ≤ 14 + n; omega)) (ea_cons (ed_var 0) (ea_cons (ed_sub (ed_var 1) ed_int) ea_nil))) (ea_cons ed_non ea_nil)))) (fun v_row9 => (sd_nil (c := v_row9) (.same (.same (.same (.same (.same (.same (.any (.same (.same (.same (.any .nil)))))))))))))) (sd_set 9 (wk_any _) sc_enamed_rows.nd (ed_if (et_eq hr (ed_var 8) ed_int) (ed_tup (ea_cons ed_non (ea_cons (ed_tup (ea_cons ed_str (ea_cons ed_int (ea_cons ed_bl ea_nil)))) (ea_cons ed_int ea_nil)))) (ed_tup (ea_cons (ed_var 7) (ea_cons (ed_tup (ea_cons ed_str (ea_cons ed_int (ea_cons ed_bl ea_nil)))) (ea_cons ed_non ea_nil))))) (fun v_row10 => (sd_nil (c := v_row10) (.same (.same (.same (.same (.same (.same (.any (.same (.same (.same (.any .nil))))))))))))))) (fun v_c7 => (sd_set 6 (wk_any _) sc_enamed_rows.nd (ed_callF (I_erow_names 12) tk (hr.mono (by show _ ≤ 14 + n; omega)) (ea_cons (ed_var 9) ea_nil)) (fun v_more11 => (sd_ifJ (fun (v_c13 : List D × D) => [.val a_stream, .val a_deep, .val a_is_free, .val v_k4, .own v_c13.1, .val v_c13.2, .val v_more11, .val v_key5, .val v_way6, .val v_c7, .any]) (wk_any _) (et_w (ew_or (et_val (ed_var 2)) (ew_or1 (et_eq hr (ed_callB call_lenK calld_lenK B.b_len PySem.boot_len (ea_cons (ed_newD (end_dictP B.b_dict (ed_new (en_mapX (.nm 10) tk sc_enamed_rows.nd (blkOk_by (N := ["_law_stream", "_law_deep", "_law_is_free", "_law_k", "_law_found", "_law_seen", "_law_more", "_law_key", "_law_way", "_law_row", "_law_one"]) (sc := defScope s_enamed_rows) (own := [("_law_one", 10)]) (by decide +kernel)) (id_any (ed_add (ed_var 5) (ed_var 6))) (by decide) (fun _ _ _ _ _ _ => (pg_name (i := 10) sc_enamed_rows.nd rfl (Or.inl rfl))) (fun _ _ _ _ _ _ W' tk' us => match us with | [] => ed_bad | [v_one12] => (ed_tup (ea_cons (ed_var 10) (ea_cons ed_int ea_nil))) | _ :: _ :: _ => ed_bad))))) ea_nil)) (ed_add (ed_callB call_len calld_len B.b_len PySem.boot_len (ea_cons (ed_var 5) ea_nil)) (ed_callB call_len calld_len B.b_len PySem.boot_len (ea_cons (ed_var 6) ea_nil))))))) (sd_append 4 (wk_any _) (pe_bm PySem.F.plainAttrs_list PySem.F.slot_list_append PySem.F.type_list_append mt_append (pv 4) (pa_cons (ed_var 9) pa_nil)) (fun v_d14 => (sd_set 5 (wk_any _) sc_enamed_rows.nd (ed_add (ed_var 5) (ed_var 6)) (fun v_seen15 => (sd_nil (c := ((v_c3.1 ++ [v_d14]), v_seen15)) (.same (.same (.same (.same (.same (.same (.same (.same (.same (.same (.any .nil)))))))))))))))) (sd_nil (c := (v_c3.1, v_c3.2)) (.same (.same (.same (.same (.same (.same (.same (.same (.same (.same (.any .nil)))))))))))) (fun v_c13 => (sd_nil (c := (v_c13.1, v_c13.2)) (.same (.same (.same (.any (.same (.same (.any (.any (.any (.any (.any .nil))))))))))))))))))))) (fun v_c3 => (sd_frz 4 (sd_ret (wk_any _) (ed_var 4)))))))⟩⟩⟩
abbrev s_ebuilt : Stmt := top 59
theorem sc_ebuilt : FnScope ["_law_plan"] ["_law_plan"] (defScope s_ebuilt) := ⟨rfl, rfl, rfl, by decide +kernel, rfl, by decide +kernel, by decide +kernel⟩
abbrev s_emembers : Stmt := top 66
theorem sc_emembers : FnScope ["_law_plan", "_law_found", "_law_row"] ["_law_plan"] (defScope s_emembers) := ⟨rfl, rfl, rfl, by decide +kernel, rfl, by decide +kernel, by decide +kernel⟩
theorem wk_ebuilt {fQebuilt : Addr} {fdQebuilt : FuncData} (FQebuilt : Fun K "_law_built" "_law_built" s_ebuilt fQebuilt fdQebuilt) (hmQebuilt : mg "_law_built" = some (.ref fQebuilt)) (hkQebuilt : PySem.W.keepIn K (.ref fQebuilt) = true) (hbQebuilt : Binds K fdQebuilt ["_law_plan"] []) {fQemembers : Addr} {fdQemembers : FuncData} (FQemembers : Fun K "_law_members" "_law_members" s_emembers fQemembers fdQemembers) (hmQemembers : mg "_law_members" = some (.ref fQemembers)) (hkQemembers : PySem.W.keepIn K (.ref fQemembers) = true) (hbQemembers : Binds K fdQemembers ["_law_plan"] []) (TF : TabF K mg tgtC tabC) (B : Bi mg) (I_edeclared : FI P w K mg base "_law_declared" ["_law_rows", "_law_plan"] 21 (ar2 f_edeclared)) : ∀ n : Nat, FI P w K mg base "_law_built" ["_law_plan"] (22 + n) (ar1 (f_ebuilt n)) ∧ FI P w K mg base "_law_members" ["_law_plan"] (22 + n) (ar1 (f_emembers n))
  | 0 => ⟨⟨fQebuilt, fdQebuilt, hmQebuilt, hkQebuilt, hbQebuilt, fn_of_D FQebuilt sc_ebuilt fun ds hl cdv A outer s H E hr tk po => match ds, hl with
    | [_], _ => ⟨M.bad, rfl, sd_bad⟩⟩,
    ⟨fQemembers, fdQemembers, hmQemembers, hkQemembers, hbQemembers, fn_of_D FQemembers sc_emembers fun ds hl cdv A outer s H E hr tk po => match ds, hl with
    | [_], _ => ⟨M.bad, rfl, sd_bad⟩⟩⟩
  | n + 1 => by
    obtain ⟨ih_ebuilt, ih_emembers⟩ := wk_ebuilt FQebuilt hmQebuilt hkQebuilt hbQebuilt FQemembers hmQemembers hkQemembers hbQemembers TF B I_edeclared n
    exact ⟨⟨fQebuilt, fdQebuilt, hmQebuilt, hkQebuilt, hbQebuilt, fn_of_D FQebuilt sc_ebuilt fun ds hl cdv A outer s H E hr tk po => match ds, hl with
    | [a_plan], _ => ⟨_, rfl, show SD _ _ [.val a_plan] _ _ from (sd_ifR (wk_any _) (et_not (et_val (ed_isiX TF ⟨B.b_dict, by decide +kernel, by rfl, by decide, by decide, by decide⟩ B.b_isinstance (ed_var 0)))) (sd_ret (wk_any _) (ed_if (et_eq hr (ed_item (kpos := ⟨0, 0, 0, 0⟩) (ed_var 0) ed_int) ed_str) (ed_var 0) (ed_tup (ea_cons ed_str (ea_cons (ed_callF ih_ebuilt tk (hr.mono (by show _ ≤ 22 + n; omega)) (ea_cons (ed_item (kpos := ⟨0, 0, 0, 0⟩) (ed_var 0) ed_int) ea_nil)) (ea_cons (ed_item (kpos := ⟨0, 0, 0, 0⟩) (ed_var 0) ed_int) ea_nil)))))) (sd_ifJ (fun (v_c1 : D) => [.val v_c1]) (wk_any _) (et_dnotin hr ed_str (ed_var 0)) (sd_dput (wk_any _) hr (ed_callF I_edeclared tk (hr.mono (by show _ ≤ 22 + n; omega)) (ea_cons (ed_callF ih_emembers tk (hr.mono (by show _ ≤ 22 + n; omega)) (ea_cons (ed_var 0) ea_nil)) (ea_cons (ed_var 0) ea_nil))) (ed_var 0) ed_str (sd_nil (c := a_plan) (.same .nil))) (sd_nil (c := a_plan) (.same .nil)) (fun v_c1 => (sd_ret (wk_any _) (ed_dget hr (ed_var 0) ed_str (fun _ _ => rfl))))))⟩⟩,
    ⟨fQemembers, fdQemembers, hmQemembers, hkQemembers, hbQemembers, fn_of_D FQemembers sc_emembers fun ds hl cdv A outer s H E hr tk po => match ds, hl with
    | [a_plan], _ => ⟨_, rfl, show SD _ _ [.val a_plan, .any, .any] _ _ from (sd_own 1 (wk_any _) sc_emembers.nd (en_lst ea_nil) (fun v_found1 => (sd_for1 2 (fun (v_c2 : List D) => [.val a_plan, .own v_c2, .any]) v_found1 (wk_any _) (.same (.same (.any .nil))) po (id_any (ed_dget hr (ed_var 0) ed_str (fun _ _ => rfl))) (pg_name (i := 2) sc_emembers.nd rfl (by first | exact Or.inl rfl | exact Or.inr rfl)) (fun v_c2 v_row3 => (sd_append 1 (wk_any _) (pe_bm PySem.F.plainAttrs_list PySem.F.slot_list_append PySem.F.type_list_append mt_append (pv 1) (pa_cons (ed_add (ed_tup (ea_cons (ed_item (kpos := ⟨0, 0, 0, 0⟩) (ed_var 2) ed_int) (ea_cons (ed_callF ih_ebuilt tk (hr.mono (by show _ ≤ 22 + n; omega)) (ea_cons (ed_item (kpos := ⟨0, 0, 0, 0⟩) (ed_var 2) ed_int) ea_nil)) ea_nil))) (ed_if (et_notN (ed_item (kpos := ⟨0, 0, 0, 0⟩) (ed_var 2) ed_int)) (ed_tup (ea_cons (ed_item (kpos := ⟨0, 0, 0, 0⟩) (ed_var 2) ed_int) ea_nil)) (ed_tup ea_nil))) pa_nil)) (fun v_d4 => (sd_nil (c := (v_c2 ++ [v_d4])) (.same (.same (.any .nil))))))) (fun v_c2 => (sd_frz 1 (sd_ret (wk_any _) (ed_var 1)))))))⟩⟩⟩
abbrev s_Layout_ends : Stmt := inClass (top 52) 4
theorem sc_Layout_ends : FnScope ["self"] ["self"] (defScope s_Layout_ends) := ⟨rfl, rfl, rfl, by decide +kernel, rfl, by decide +kernel, by decide +kernel⟩
theorem wk_Layout_ends {C p f : Addr} {fd : FuncData} (F : Fun K "ends" "Layout.ends" s_Layout_ends f fd) (hc : CI K mg "Layout" C) (hm : PropOf K C "ends" p f) (hb : Binds K fd ["self"] []) (na_Layout_order : NA K mg "Layout" "order") : PRI P w K mg base "Layout" "ends" "self" 1 (ar1 f_Layout_ends) := by
  exact ⟨C, p, f, fd, hc, hm, hb, fn_of_D F sc_Layout_ends fun ds hl cdv A outer s H E hr tk po => match ds, hl with
    | [a_self], _ => ⟨_, rfl, show SD _ _ [.val a_self] _ _ from (sd_ret (wk_any _) (ed_fldF na_Layout_order (ed_var 0)))⟩⟩
abbrev s_row_named : Stmt := top 41
theorem sc_row_named : FnScope ["layout", "name", "position", "own", "kind", "bits", "inner"] ["layout", "name"] (defScope s_row_named) := ⟨rfl, rfl, rfl, by decide +kernel, rfl, by decide +kernel, by decide +kernel⟩
theorem wk_row_named {f : Addr} {fd : FuncData} (F : Fun K "row_named" "row_named" s_row_named f fd) (hm : mg "row_named" = some (.ref f)) (hk : PySem.W.keepIn K (.ref f) = true) (hb : Binds K fd ["layout", "name"] []) (na_Layout_rows : NA K mg "Layout" "rows") (na_Layout_positions : NA K mg "Layout" "positions") (B : Bi mg) (I_Layout_ends : PRI P w K mg base "Layout" "ends" "self" 1 (ar1 f_Layout_ends)) : ∀ n : Nat, FI P w K mg base "row_named" ["layout", "name"] (3 + n) (ar2 (f_row_named n))
  | 0 => ⟨f, fd, hm, hk, hb, fn_of_D F sc_row_named fun ds hl cdv A outer s H E hr tk po => match ds, hl with
    | [_, _], _ => ⟨M.bad, rfl, sd_bad⟩⟩
  | n + 1 => by
    have ih_row_named := wk_row_named F hm hk hb na_Layout_rows na_Layout_positions B I_Layout_ends n
    exact ⟨f, fd, hm, hk, hb, fn_of_D F sc_row_named fun ds hl cdv A outer s H E hr tk po => match ds, hl with
    | [a_layout, a_name], _ => ⟨_, rfl, show SD _ _ [.val a_layout, .val a_name, .any, .any, .any, .any, .any] _ _ from (sd_forT (.tp [(.tp [(.nm 3), (.nm 4), (.nm 5)]), (.nm 2)]) (fun (_ : Unit) => [.val a_layout, .val a_name, .any, .any, .any, .any, .any]) () (wk_any _) (.same (.same (.any (.any (.any (.any (.any .nil))))))) po (id_zip B.b_zip (ea_cons (ed_fldF na_Layout_rows (ed_var 0)) (ea_cons (ed_fldF na_Layout_positions (ed_var 0)) ea_nil))) (pg_tup rfl (pgs_cons (pg_tup rfl (pgs_cons (pg_name (i := 3) sc_row_named.nd rfl (by first | exact Or.inl rfl | exact Or.inr rfl)) (pgs_cons (pg_name (i := 4) sc_row_named.nd rfl (by first | exact Or.inl rfl | exact Or.inr rfl)) (pgs_cons (pg_name (i := 5) sc_row_named.nd rfl (by first | exact Or.inl rfl | exact Or.inr rfl)) pgs_nil)))) (pgs_cons (pg_name (i := 2) sc_row_named.nd rfl (by first | exact Or.inl rfl | exact Or.inr rfl)) pgs_nil))) (fun _ us => match us with | [] => sd_bad | [_] => sd_bad | [_, _] => sd_bad | [_, _, _] => sd_bad | [v_own2, v_kind3, v_bits4, v_position5] => (sd_at [.val a_layout, .val a_name, .val v_position5, .val v_own2, .val v_kind3, .val v_bits4, .any] (sd_ifR (wk_any _) (et_eq hr (ed_var 3) (ed_var 1)) (sd_ret (wk_any _) (ed_tup (ea_cons (ed_var 4) (ea_cons (ed_var 5) (ea_cons (ed_var 2) (ea_cons (ed_prop I_Layout_ends (hr.mono (by show _ ≤ 3 + n; omega)) (ed_var 0)) ea_nil)))))) (sd_ifJ (fun (_ : Unit) => [.val a_layout, .val a_name, .val v_position5, .val v_own2, .val v_kind3, .val v_bits4, .any]) (wk_any _) (et_w (ew_and (et_isN (ed_var 3)) (ew_and1 (et_isN (ed_var 5))))) (sd_set 6 (wk_any _) sc_row_named.nd (ed_callF ih_row_named tk (hr.mono (by show _ ≤ 3 + n; omega)) (ea_cons (ed_var 4) (ea_cons (ed_var 1) ea_nil))) (fun v_inner7 => (sd_if (wk_any _) (et_notN (ed_var 6)) (sd_ret (wk_any _) (ed_tup (ea_cons (ed_item (kpos := ⟨0, 0, 0, 0⟩) (ed_var 6) ed_int) (ea_cons (ed_item (kpos := ⟨0, 0, 0, 0⟩) (ed_var 6) ed_int) (ea_cons (ed_add (ed_var 2) (ed_item (kpos := ⟨0, 0, 0, 0⟩) (ed_var 6) ed_int)) (ea_cons (ed_item (kpos := ⟨0, 0, 0, 0⟩) (ed_var 6) ed_int) ea_nil)))))) (sd_nil (c := ()) (.same (.same (.same (.same (.same (.same (.any .nil))))))))))) (sd_nil (c := ()) (.same (.same (.same (.same (.same (.same (.any .nil)))))))) (fun _ => (sd_nil (c := ()) (.same (.same (.any (.any (.any (.any (.any .nil)))))))))))) | _ :: _ :: _ :: _ :: _ :: _ => sd_bad) (fun _ => (sd_ret (wk_any _) ed_non)))⟩⟩
abbrev s_step_from : Stmt := top 42
theorem sc_step_from : FnScope ["spot", "step", "kind", "position", "ends", "row", "inner", "bits", "ahead", "own"] ["spot", "step"] (defScope s_step_from) := ⟨rfl, rfl, rfl, by decide +kernel, rfl, by decide +kernel, by decide +kernel⟩
theorem wk_step_from {f : Addr} {fd : FuncData} (F : Fun K "step_from" "step_from" s_step_from f fd) (hm : mg "step_from" = some (.ref f)) (hk : PySem.W.keepIn K (.ref f) = true) (hb : Binds K fd ["spot", "step"] []) (TF : TabF K mg tgtC tabC) (tg_Shape : TgtF K mg "Shape") (B : Bi mg) (I_row_named : ∀ n, FI P w K mg base "row_named" ["layout", "name"] (3 + n) (ar2 (f_row_named n))) (I_is_integer : FI P w K mg base "is_integer" ["thing"] 1 (ar1 f_is_integer)) (I_size_of : ∀ n, FI P w K mg base "size_of" ["kind"] (3 + n) (ar1 (f_size_of n))) : FI P w K mg base "step_from" ["spot", "step"] 16 (ar2 f_step_from) := by
  exact ⟨f, fd, hm, hk, hb, fn_of_D F sc_step_from fun ds hl cdv A outer s H E hr tk po => match ds, hl with
    | [a_spot, a_step], _ => ⟨_, rfl, show SD _ _ [.val a_spot, .val a_step, .any, .any, .any, .any, .any, .any, .any, .any] _ _ from (sd_unp3 2 3 4 (wk_any _) (ps_asg (ed_var 0) (pg_tup3 rfl (pg_name (i := 2) sc_step_from.nd rfl (by first | exact Or.inl rfl | exact Or.inr rfl)) (pg_name (i := 3) sc_step_from.nd rfl (by first | exact Or.inl rfl | exact Or.inr rfl)) (pg_name (i := 4) sc_step_from.nd rfl (by first | exact Or.inl rfl | exact Or.inr rfl)))) (fun v_kind1 v_position2 v_ends3 => (sd_ifR (wk_any _) (et_val (ed_isC TF tg_Shape B.b_isinstance (ed_var 2))) (sd_set 5 (wk_any _) sc_step_from.nd (ed_if (et_val (ed_isiX TF ⟨B.b_str, by decide +kernel, by rfl, by decide, by decide, by decide⟩ B.b_isinstance (ed_var 1))) (ed_callF (I_row_named 12) tk (hr.mono (by decide)) (ea_cons (ed_var 2) (ea_cons (ed_var 1) ea_nil))) ed_non) (fun v_row4 => (sd_ifR (wk_any _) (et_isN (ed_var 5)) (sd_ret (wk_any _) ed_non) (sd_unpT (.tp [(.nm 6), (.nm 7), (.nm 8), (.nm 9)]) (wk_any _) (ps_asg (ed_var 5) (pg_tup rfl (pgs_cons (pg_name (i := 6) sc_step_from.nd rfl (by first | exact Or.inl rfl | exact Or.inr rfl)) (pgs_cons (pg_name (i := 7) sc_step_from.nd rfl (by first | exact Or.inl rfl | exact Or.inr rfl)) (pgs_cons (pg_name (i := 8) sc_step_from.nd rfl (by first | exact Or.inl rfl | exact Or.inr rfl)) (pgs_cons (pg_name (i := 9) sc_step_from.nd rfl (by first | exact Or.inl rfl | exact Or.inr rfl)) pgs_nil)))))) (fun us => match us with | [] => sd_bad | [_] => sd_bad | [_, _] => sd_bad | [_, _, _] => sd_bad | [v_inner5, v_bits6, v_ahead7, v_own8] => (sd_at [.val a_spot, .val a_step, .val v_kind1, .val v_position2, .val v_ends3, .val v_row4, .val v_inner5, .val v_bits6, .val v_ahead7, .val v_own8] (sd_ret (wk_any _) (ed_tup (ea_cons (ed_if (et_isN (ed_var 7)) (ed_var 6) (ed_tup (ea_cons ed_str (ea_cons (ed_item (kpos := ⟨0, 0, 0, 0⟩) (ed_var 6) ed_int) (ea_cons (ed_item (kpos := ⟨0, 0, 0, 0⟩) (ed_var 6) ed_int) (ea_cons (ed_var 7) ea_nil)))))) (ea_cons (ed_add (ed_var 3) (ed_var 8)) (ea_cons (ed_var 9) ea_nil)))))) | _ :: _ :: _ :: _ :: _ :: _ => sd_bad))))) (sd_ifR (wk_any _) (et_w (ew_or (et_ne hr (ed_item (kpos := ⟨0, 0, 0, 0⟩) (ed_var 2) ed_int) ed_str) (ew_or (et_not (et_val (ed_callF I_is_integer tk (hr.mono (by decide)) (ea_cons (ed_var 1) ea_nil)))) (ew_or1 (et_not (et_chain op_le opd_cmp op_lt opd_cmp ed_int (ed_var 1) (ed_item (kpos := ⟨0, 0, 0, 0⟩) (ed_var 2) ed_int))))))) (sd_ret (wk_any _) ed_non) (sd_ret (wk_any _) (ed_tup (ea_cons (ed_item (kpos := ⟨0, 0, 0, 0⟩) (ed_var 2) ed_int) (ea_cons (ed_add (ed_var 3) (ed_mul (ed_mul ed_int (ed_callF (I_size_of 12) tk (hr.mono (by decide)) (ea_cons (ed_item (kpos := ⟨0, 0, 0, 0⟩) (ed_var 2) ed_int) ea_nil))) (ed_var 1))) (ea_cons (ed_var 4) ea_nil)))))))))⟩⟩
abbrev s_lead : Stmt := top 43
theorem sc_lead : FnScope ["kind", "path", "ends", "spot", "step"] ["kind", "path", "ends"] (defScope s_lead) := ⟨rfl, rfl, rfl, by decide +kernel, rfl, by decide +kernel, by decide +kernel⟩
theorem wk_lead {f : Addr} {fd : FuncData} (F : Fun K "lead" "lead" s_lead f fd) (hm : mg "lead" = some (.ref f)) (hk : PySem.W.keepIn K (.ref f) = true) (hb : Binds K fd ["kind", "path", "ends"] []) (I_is_row : FI P w K mg base "is_row" ["thing"] 1 (ar1 f_is_row)) (I_step_from : FI P w K mg base "step_from" ["spot", "step"] 16 (ar2 f_step_from)) : FI P w K mg base "lead" ["kind", "path", "ends"] 17 (ar3 f_lead) := by
  exact ⟨f, fd, hm, hk, hb, fn_of_D F sc_lead fun ds hl cdv A outer s H E hr tk po => match ds, hl with
    | [a_kind, a_path, a_ends], _ => ⟨_, rfl, show SD _ _ [.val a_kind, .val a_path, .val a_ends, .any, .any] _ _ from (sd_ifR (wk_any _) (et_not (et_val (ed_callF I_is_row tk (hr.mono (by decide)) (ea_cons (ed_var 1) ea_nil)))) (sd_ret (wk_any _) ed_non) (sd_set 3 (wk_any _) sc_lead.nd (ed_tup (ea_cons (ed_var 0) (ea_cons ed_int (ea_cons (ed_var 2) ea_nil)))) (fun v_spot1 => (sd_for1 4 (fun (v_c2 : D) => [.val a_kind, .val a_path, .val a_ends, .val v_c2, .any]) v_spot1 (wk_any _) (.same (.same (.same (.same (.any .nil))))) po (id_any (ed_var 1)) (pg_name (i := 4) sc_lead.nd rfl (by first | exact Or.inl rfl | exact Or.inr rfl)) (fun v_c2 v_step3 => (sd_set 3 (wk_any _) sc_lead.nd (ed_callF I_step_from tk (hr.mono (by decide)) (ea_cons (ed_var 3) (ea_cons (ed_var 4) ea_nil))) (fun v_spot4 => (sd_if (wk_any _) (et_isN (ed_var 3)) (sd_ret (wk_any _) ed_non) (sd_nil (c := v_spot4) (.same (.same (.same (.same (.any .nil)))))))))) (fun v_c2 => (sd_ret (wk_any _) (ed_var 3)))))))⟩⟩
abbrev s_spot_of : Stmt := top 44
theorem sc_spot_of : FnScope ["layout", "path"] ["layout", "path"] (defScope s_spot_of) := ⟨rfl, rfl, rfl, by decide +kernel, rfl, by decide +kernel, by decide +kernel⟩
theorem wk_spot_of {f : Addr} {fd : FuncData} (F : Fun K "spot_of" "spot_of" s_spot_of f fd) (hm : mg "spot_of" = some (.ref f)) (hk : PySem.W.keepIn K (.ref f) = true) (hb : Binds K fd ["layout", "path"] []) (I_lead : FI P w K mg base "lead" ["kind", "path", "ends"] 17 (ar3 f_lead)) : FI P w K mg base "spot_of" ["layout", "path"] 18 (ar2 f_spot_of) := by
  exact ⟨f, fd, hm, hk, hb, fn_of_D F sc_spot_of fun ds hl cdv A outer s H E hr tk po => match ds, hl with
    | [a_layout, a_path], _ => ⟨_, rfl, show SD _ _ [.val a_layout, .val a_path] _ _ from (sd_ret (wk_any _) (ed_callF I_lead tk (hr.mono (by decide)) (ea_cons (ed_var 0) (ea_cons (ed_var 1) (ea_cons ed_str ea_nil)))))⟩⟩
abbrev s_Layout_checked_spot : Stmt := inClass (top 52) 6
theorem sc_Layout_checked_spot : FnScope ["self", "path", "spot"] ["self", "path"] (defScope s_Layout_checked_spot) := ⟨rfl, rfl, rfl, by decide +kernel, rfl, by decide +kernel, by decide +kernel⟩
theorem wk_Layout_checked_spot {C f : Addr} {fd : FuncData} (F : Fun K "checked_spot" "Layout.checked_spot" s_Layout_checked_spot f fd) (hc : CI K mg "Layout" C) (hm : Meth K C "checked_spot" f) (hb : Binds K fd ["self", "path"] []) (I_spot_of : FI P w K mg base "spot_of" ["layout", "path"] 18 (ar2 f_spot_of)) (E_BadPath : EI P w K mg base "BadPath" "path") : MI P w K mg base "Layout" "checked_spot" ["self", "path"] 19 (ar2 f_Layout_checked_spot) := by
  exact ⟨C, f, fd, hc, hm, hb, fn_of_D F sc_Layout_checked_spot fun ds hl cdv A outer s H E hr tk po => match ds, hl with
    | [a_self, a_path], _ => ⟨_, rfl, show SD _ _ [.val a_self, .val a_path, .any] _ _ from (sd_set 2 (wk_any _) sc_Layout_checked_spot.nd (ed_callF I_spot_of tk (hr.mono (by decide)) (ea_cons (ed_var 0) (ea_cons (ed_var 1) ea_nil))) (fun v_spot1 => (sd_ifR (wk_any _) (et_isN (ed_var 2)) (sd_raiseF (wk_any _) E_BadPath tk (hr.mono (by decide)) (ed_var 1)) (sd_ret (wk_any _) (ed_var 2)))))⟩⟩
abbrev s_is_number_kind : Stmt := top 45
theorem sc_is_number_kind : FnScope ["what"] ["what"] (defScope s_is_number_kind) := ⟨rfl, rfl, rfl, by decide +kernel, rfl, by decide +kernel, by decide +kernel⟩
theorem wk_is_number_kind {f : Addr} {fd : FuncData} (F : Fun K "is_number_kind" "is_number_kind" s_is_number_kind f fd) (hm : mg "is_number_kind" = some (.ref f)) (hk : PySem.W.keepIn K (.ref f) = true) (hb : Binds K fd ["what"] []) (TF : TabF K mg tgtC tabC) (tg_Shape : TgtF K mg "Shape") (B : Bi mg) : FI P w K mg base "is_number_kind" ["what"] 1 (ar1 f_is_number_kind) := by
  exact ⟨f, fd, hm, hk, hb, fn_of_D F sc_is_number_kind fun ds hl cdv A outer s H E hr tk po => match ds, hl with
    | [a_what], _ => ⟨_, rfl, show SD _ _ [.val a_what] _ _ from (sd_ret (wk_any _) (ed_and (ed_not (ed_isC TF tg_Shape B.b_isinstance (ed_var 0))) (ed_one (ed_ne hr (ed_item (kpos := ⟨0, 0, 0, 0⟩) (ed_var 0) ed_int) ed_str))))⟩⟩
abbrev s_Layout_octet_at : Stmt := inClass (top 52) 8
theorem sc_Layout_octet_at : FnScope ["self", "path", "what", "position", "ends"] ["self", "path"] (defScope s_Layout_octet_at) := ⟨rfl, rfl, rfl, by decide +kernel, rfl, by decide +kernel, by decide +kernel⟩
theorem wk_Layout_octet_at {C f : Addr} {fd : FuncData} (F : Fun K "octet_at" "Layout.octet_at" s_Layout_octet_at f fd) (hc : CI K mg "Layout" C) (hm : Meth K C "octet_at" f) (hb : Binds K fd ["self", "path"] []) (I_Layout_checked_spot : MI P w K mg base "Layout" "checked_spot" ["self", "path"] 19 (ar2 f_Layout_checked_spot)) (I_is_number_kind : FI P w K mg base "is_number_kind" ["what"] 1 (ar1 f_is_number_kind)) (E_BadPath : EI P w K mg base "BadPath" "path") : MI P w K mg base "Layout" "octet_at" ["self", "path"] 20 (ar2 f_Layout_octet_at) := by
  exact ⟨C, f, fd, hc, hm, hb, fn_of_D F sc_Layout_octet_at fun ds hl cdv A outer s H E hr tk po => match ds, hl with
    | [a_self, a_path], _ => ⟨_, rfl, show SD _ _ [.val a_self, .val a_path, .any, .any, .any] _ _ from (sd_unp3 2 3 4 (wk_any _) (ps_asg (ed_methF I_Layout_checked_spot tk (hr.mono (by decide)) (ed_var 0) (ea_cons (ed_var 1) ea_nil)) (pg_tup3 rfl (pg_name (i := 2) sc_Layout_octet_at.nd rfl (by first | exact Or.inl rfl | exact Or.inr rfl)) (pg_name (i := 3) sc_Layout_octet_at.nd rfl (by first | exact Or.inl rfl | exact Or.inr rfl)) (pg_name (i := 4) sc_Layout_octet_at.nd rfl (by first | exact Or.inl rfl | exact Or.inr rfl)))) (fun v_what1 v_position2 v_ends3 => (sd_ifR (wk_any _) (et_w (ew_and (et_val (ed_callF I_is_number_kind tk (hr.mono (by decide)) (ea_cons (ed_var 2) ea_nil))) (ew_and1 (et_eq hr (ed_item (kpos := ⟨0, 0, 0, 0⟩) (ed_var 2) ed_int) ed_str)))) (sd_raiseF (wk_any _) E_BadPath tk (hr.mono (by decide)) (ed_var 1)) (sd_ret (wk_any _) (ed_div (ed_var 3) ed_int)))))⟩⟩
abbrev s_law : Stmt := top 67
theorem sc_law : FnScope ["_law_script", "_law_stream", "_law_turn", "_law_plan", "_law_row", "_law_names", "_law_due", "_law_key", "_law_word", "_law_found"] ["_law_script"] (defScope s_law) := ⟨rfl, rfl, rfl, by decide +kernel, rfl, by decide +kernel, by decide +kernel⟩
set_option maxHeartbeats 0 in
theorem ok_law {f : Addr} {fd : FuncData} (F : Fun K "law" "law" s_law f fd) (B : Bi mg) (I_draw : FI P w K mg base "_law_draw" ["_law_stream", "_law_count"] 1 (ar2 f_draw)) (I_eplainB : FI P w K mg base "_law_plain" ["_law_is_union"] 1 (ar1 f_eplainB)) (I_enamed_rows : ∀ n, FI P w K mg base "_law_named_rows" ["_law_stream", "_law_deep", "_law_is_free"] (14 + n) (ar3 (f_enamed_rows n))) (I_erow_names : ∀ n, FI P w K mg base "_law_row_names" ["_law_row"] (1 + n) (ar1 (f_erow_names n))) (I_emembers : ∀ n, FI P w K mg base "_law_members" ["_law_plan"] (22 + n) (ar1 (f_emembers n))) (I_etried : FI P w K mg base "_law_tried" ["_law_members_here", "_law_plan"] 22 (ar2 f_etried)) (I_Layout_octet_at : MI P w K mg base "Layout" "octet_at" ["self", "path"] 20 (ar2 f_Layout_octet_at)) (hlaw : ∀ ns : List Int, ns.length ≤ 63 → ∃ S', finM m_law (S0 ns) = .ok (.bl true) S') : FnOk P w K mg base (L2.CX P w) 35 f fd ["_law_script"] (spL K) := by
  exact fn_law F sc_law (by decide) hlaw fun cdv A outer s H E hr tk po => ⟨_, _, rfl, ps_set (i := 1) sc_law.nd rfl (by first | exact Or.inl rfl | exact Or.inr rfl) (pe_lst (pa_cons (pe_callTy call_list_of (by rfl) B.b_list (by decide +kernel) (pa_cons (pv 0) pa_nil)) (pa_cons pe_int (pa_cons pe_int (pa_cons pe_int pa_nil))))), (show SD _ _ [.any, .val D.strm, .any, .any, .any, .any, .any, .any, .any, .any] _ _ from (sd_for1 2 (fun (_ : Unit) => [.any, .val D.strm, .any, .any, .any, .any, .any, .any, .any, .any]) () (wk_any _) (.any (.same (.any (.any (.any (.any (.any (.any (.any (.any .nil)))))))))) po (id_rng1 B.b_range ed_int) (pg_name (i := 2) sc_law.nd rfl (by first | exact Or.inl rfl | exact Or.inr rfl)) (fun _ v_turn2 => (sd_set 3 (wk_any _) sc_law.nd (ed_callF I_eplainB tk (hr.mono (by decide)) (ea_cons (ed_eq hr (ed_callF I_draw tk (hr.mono (by decide)) (ea_cons (ed_var 1) (ea_cons ed_int ea_nil))) ed_int) ea_nil)) (fun v_plan3 => (sd_dputNN 5 6 (wk_any _) (ps_asg (ed_tup (ea_cons (ed_callF (I_enamed_rows 12) tk (hr.mono (by decide)) (ea_cons (ed_var 1) (ea_cons ed_int (ea_cons (ed_gt (ed_callF I_draw tk (hr.mono (by decide)) (ea_cons (ed_var 1) (ea_cons ed_int ea_nil))) ed_int) ea_nil)))) (ea_cons (ed_box (en_lst ea_nil)) (ea_cons ed_non ea_nil)))) (pg_tup rfl (pgs_cons (pg_sub (ed_var 3) ed_str (set_dictR hr)) (pgs_cons (pg_name (i := 5) sc_law.nd rfl (by first | exact Or.inl rfl | exact Or.inr rfl)) (pgs_cons (pg_name (i := 6) sc_law.nd rfl (by first | exact Or.inl rfl | exact Or.inr rfl)) pgs_nil))))) (fun v_names4 v_due5 => (sd_for1 4 (fun (v_c6 : D × D) => [.any, .val D.strm, .val v_turn2, .val v_plan3, .any, .val v_c6.1, .val v_c6.2, .any, .any, .any]) (v_names4, v_due5) (wk_any _) (.any (.same (.same (.same (.any (.same (.same (.any (.any (.any .nil)))))))))) po (id_any (ed_dget hr (ed_var 3) ed_str (fun _ _ => rfl))) (pg_name (i := 4) sc_law.nd rfl (by first | exact Or.inl rfl | exact Or.inr rfl)) (fun v_c6 v_row7 => (sd_for1 7 (fun (v_c8 : D × D) => [.any, .val D.strm, .val v_turn2, .val v_plan3, .val v_row7, .val v_c8.1, .val v_c8.2, .any, .any, .any]) (v_c6.1, v_c6.2) (wk_any _) (.any (.same (.same (.same (.same (.same (.same (.any (.any (.any .nil)))))))))) po (id_any (ed_callF (I_erow_names 12) tk (hr.mono (by decide)) (ea_cons (ed_var 4) ea_nil))) (pg_name (i := 7) sc_law.nd rfl (by first | exact Or.inl rfl | exact Or.inr rfl)) (fun v_c8 v_key9 => (sd_set 6 (wk_any _) sc_law.nd (ed_if (et_borT 5 (fun v_names11 => (et_w (ew_and (et_isN (ed_var 6)) (ew_and1 (et_in (ed_var 7) (ed_var 5))))))) (ed_var 7) (ed_var 6)) (fun v_due10 => (sd_expr (wk_any _) (ed_appP (pe_bm PySem.F.plainAttrs_list PySem.F.slot_list_append PySem.F.type_list_append mt_append (ed_var 5) (pa_cons (ed_var 7) pa_nil))) (sd_nil (c := (v_c8.1, v_due10)) (.any (.same (.same (.same (.same (.same (.same (.any (.any (.any .nil))))))))))))))) (fun v_c8 => (sd_nil (c := (v_c8.1, v_c8.2)) (.any (.same (.same (.same (.any (.same (.same (.any (.any (.any .nil)))))))))))))) (fun v_c6 => (sd_unp2 8 9 (wk_any _) (ps_asg (ed_callF I_etried tk (hr.mono (by decide)) (ea_cons (ed_callF (I_emembers 12) tk (hr.mono (by decide)) (ea_cons (ed_var 3) ea_nil)) (ea_cons (ed_var 3) ea_nil))) (pg_tup2 rfl (pg_name (i := 8) sc_law.nd rfl (by first | exact Or.inl rfl | exact Or.inr rfl)) (pg_name (i := 9) sc_law.nd rfl (by first | exact Or.inl rfl | exact Or.inr rfl)))) (fun v_word13 v_found14 => (sd_ifR (wk_any _) (et_notN (ed_var 6)) (sd_ifR (wk_any _) (et_ne hr (ed_tup (ea_cons (ed_var 8) (ea_cons (ed_var 9) ea_nil))) (ed_tup (ea_cons ed_str (ea_cons (ed_var 6) ea_nil)))) (sd_ret (wk_any _) ed_bl) (sd_cnt (l := ()) (.any (.same (.any (.any (.any (.any (.any (.any (.any (.any .nil)))))))))))) (sd_frzV 5 (fun v_names15 => (sd_if (wk_any _) (et_w (ew_or (et_ne hr (ed_var 8) ed_str) (ew_or1 (et_ne hr (ed_new (en_mapX (.nm 7) tk sc_law.nd (blkOk_by (N := ["_law_script", "_law_stream", "_law_turn", "_law_plan", "_law_row", "_law_names", "_law_due", "_law_key", "_law_word", "_law_found"]) (sc := defScope s_law) (own := [("_law_key", 7)]) (by decide +kernel)) (id_any (ed_var 5)) (by decide) (fun _ _ _ _ _ _ => (pg_name (i := 7) sc_law.nd rfl (Or.inl rfl))) (fun _ _ _ _ _ _ W' tk' us => match us with | [] => ed_bad | [v_key16] => (ed_lt (ed_methF I_Layout_octet_at tk' (hr.mono (by decide)) (ed_var 9) (ea_cons (ed_tup (ea_cons (ed_var 7) ea_nil)) ea_nil)) ed_int) | _ :: _ :: _ => ed_bad))) (ed_mul (ed_new (en_lst (ea_cons ed_bl ea_nil))) (ed_callB call_len calld_len B.b_len PySem.boot_len (ea_cons (ed_var 5) ea_nil))))))) (sd_ret (wk_any _) ed_bl) (sd_nil (c := ()) (.any (.same (.any (.any (.any (.any (.any (.any (.any (.any .nil)))))))))))))))))))))))) (fun _ => (sd_ret (wk_any _) ed_bl))))⟩
end
end Lw
namespace Lw
open PySem L2 Dl
abbrev s_draw : Stmt := top 57
/-! ### the draw -/
theorem ix0 {α : Type} {a b c d : α} : atI [a, b, c, d] 0 = some a := rfl
theorem ix1 {α : Type} {a b c d : α} : atI [a, b, c, d] 1 = some b := rfl
theorem ix2 {α : Type} {a b c d : α} : atI [a, b, c, d] 2 = some c := rfl
theorem ix3 {α : Type} {a b c d : α} : atI [a, b, c, d] 3 = some d := rfl
theorem seq0 {n : Nat} : seqIndex? 0 (n + 1) = some 0 := by simp [seqIndex?]
theorem dp_ints {K : PySem.W.Frag} {H : Hp} : ∀ xs : List Int, DpAll K H (xs.map V.int) (xs.map PyData.int)
  | [] => .nil
  | x :: xs => .cons (.int x) (dp_ints xs)
theorem lay_ints : ∀ xs : List Int, PyData.canLayAll0 (xs.map PyData.int) = true ∧ PyData.depthAll (xs.map PyData.int) = 0
  | [] => ⟨rfl, rfl⟩
  | x :: xs => by
    have ih := lay_ints xs
    rw [List.map_cons]
    unfold PyData.canLayAll0 PyData.depthAll
    rw [ih.1, ih.2]
    exact ⟨rfl, rfl⟩
theorem shaped_ints (xs : List Int) : SeqAt.shaped (.list (xs.map PyData.int)) = true := by
  unfold SeqAt.shaped PyData.canLay0 PyData.depth
  rw [(lay_ints xs).1, (lay_ints xs).2]
  rfl
theorem eqv_nil (xs : List Int) : PyData.eqv (.list (xs.map PyData.int)) (.list []) = xs.isEmpty := by
  cases xs with
  | nil => unfold PyData.eqv PyData.eqvAll; rfl
  | cons x xs => unfold PyData.eqv PyData.eqvAll; rfl
theorem pow_bound {m c : Int} (h1 : 0 ≤ m) (h2 : m < 2147483647) (h3 : 0 ≤ c) (h4 : c < 8388608) : (m + 104729 * c + 17).natAbs < 2 ^ 64 := by
  have : (2 : Nat) ^ 64 = 18446744073709551616 := by decide
  omega
theorem pow_bound2 {m c : Int} (h1 : 0 ≤ m) (h2 : m < 2147483629) (h3 : 0 ≤ c) (h4 : c < 8388608) : (m * 48271 + 40503 * c * c + 13).natAbs < 2 ^ 64 := by
  have e : (2 : Nat) ^ 64 = 18446744073709551616 := by decide
  have h5 : 0 ≤ c * c := Int.mul_nonneg h3 h3
  have h6 : c * c ≤ 8388608 * 8388608 := Int.mul_le_mul (Int.le_of_lt h4) (Int.le_of_lt h4) h3 (by decide)
  rw [Int.mul_assoc]
  generalize c * c = q at h5 h6 ⊢
  omega
theorem small64 {i : Int} (h1 : 0 ≤ i) (h2 : i < 18446744073709551616) : -(2 ^ 64) < i ∧ i < 2 ^ 64 := by
  have e : (2 : Int) ^ 64 = 18446744073709551616 := by decide
  omega
section
variable {P : Program} {w : World} {K : PySem.W.Frag} {base : Heap} {mg : Str → Option Value}
theorem sc_draw : FnScope ["_law_stream", "_law_count", "_law_digit", "_law_mixed", "_law_last"] ["_law_stream", "_law_count"] (defScope s_draw) := ⟨rfl, rfl, rfl, by decide +kernel, rfl, by decide +kernel, by decide +kernel⟩
theorem ok_draw {f : Addr} {fd : FuncData} (F : Fun K "_law_draw" "_law_draw" s_draw f fd) (mI : mg "int" = none) : FnOk P w K mg base (L2.CX P w) 1 f fd ["_law_stream", "_law_count"] (spD K mg 2 (ar2 drawD)) := by
  refine F.okX sc_draw (fun vs H Q E h => spD_len h) (fun cdv A outer s H vs Q E hr h => ?_)
  obtain ⟨G, S, ds, hl, r, wf, h⟩ := h
  obtain ⟨d1, d2, rfl⟩ : ∃ d1 d2, ds = [d1, d2] := match ds, hl with | [a, b], _ => ⟨a, b, rfl⟩
  have h : okF K mg G H Q E (drawD d1 d2 S) := h
  cases r with
  | cons r1 r =>
  cases r with
  | cons r2 r =>
  cases r
  unfold drawD at h
  cases r1 with
  | strm =>
    cases r2 with
    | int n =>
      simp only at h
      by_cases hg : (decide (0 < n) && decide (n < 18446744073709551616) && S.st.good) = true
      case neg => rw [if_neg hg] at h; exact h.elim
      rw [if_pos hg] at h
      simp only [Strm.good, Bool.and_eq_true, decide_eq_true_eq] at hg
      obtain ⟨⟨hn0, hn1⟩, ⟨⟨⟨⟨hm0, hm1⟩, hc0⟩, hc1⟩, hu0⟩⟩ := hg
      have hsab := wf.sab
      -- the stream as it stands at any turn
      let At : List Int → Int → Int → Int → Hp → Prop := fun xs cur cnt mix H' => H' G.sa = some (.lst [.ref G.sb, .int cur, .int cnt, .int mix]) ∧ H' G.sb = some (.lst (xs.map V.int)) ∧ ∀ b o, H b = some o → b ≠ G.sa → b ≠ G.sb → H' b = some o
      have at0 : At S.st.xs S.st.cur S.st.cnt S.st.mix H := ⟨wf.ha, wf.hb, fun b o e _ _ => e⟩
      have atA : ∀ {xs cur cnt mix H'} {p : Addr} {o : HO}, At xs cur cnt mix H' → H' p = none → At xs cur cnt mix (upd H' p o) := fun {xs cur cnt mix H' p o} h hp =>
        ⟨by rw [upd_ne (ne_of_none h.1 hp)]; exact h.1, by rw [upd_ne (ne_of_none h.2.1 hp)]; exact h.2.1, fun b u e h1 h2 => by rw [upd_ne (ne_of_none (h.2.2 b u e h1 h2) hp)]; exact h.2.2 b u e h1 h2⟩
      have atS : ∀ {xs cur cnt mix H'} {cur' cnt' mix' : Int}, At xs cur cnt mix H' → At xs cur' cnt' mix' (upd H' G.sa (.lst [.ref G.sb, .int cur', .int cnt', .int mix'])) := fun {xs cur cnt mix H' cur' cnt' mix'} h =>
        ⟨upd_same, by rw [upd_ne (Ne.symm hsab)]; exact h.2.1, fun b u e h1 h2 => by rw [upd_ne h1]; exact h.2.2 b u e h1 h2⟩
      have atX : ∀ {xs cur cnt mix H'} {xs' : List Int}, At xs cur cnt mix H' → At xs' cur cnt mix (upd H' G.sb (.lst (xs'.map V.int))) := fun {xs cur cnt mix H' xs'} h =>
        ⟨by rw [upd_ne hsab]; exact h.1, upd_same, fun b u e h1 h2 => by rw [upd_ne h2]; exact h.2.2 b u e h1 h2⟩
      -- the end
      have fin : ∀ {xs cur cnt mix H'} {st' : Strm} {k : Int}, At xs cur cnt mix H' → xs.length ≤ 1000 → (⟨xs, cur, cnt, mix⟩ : Strm) = S.st.next n → k = S.st.take n → Q (.int k) H' := fun {xs cur cnt mix H' st' k} h hz e ek => by
        have fr : FR G H G H' := ⟨List.prefix_rfl, rfl, rfl, rfl, fun b o e q => by
            have ka : b ≠ G.sa ∨ Fix o := q.elim (fun z => .inl fun y => z (.inr (.inl y))) .inr
            have kb : b ≠ G.sb ∨ Fix o := q.elim (fun z => .inl fun y => z (.inr (.inr y))) .inr
            have na : b ≠ G.sa := fun y => by
              rcases ka with z | z
              · exact z y
              · rw [y, wf.ha] at e; cases e; exact z
            have nb : b ≠ G.sb := fun y => by
              rcases kb with z | z
              · exact z y
              · rw [y, wf.hb] at e; cases e; exact z
            exact h.2.2 b o e na nb, fun b q => .inl q, fun b q => .inl q, fun b q => q, fun b o e => by
            by_cases h1 : b = G.sa
            · rw [h1]; exact ⟨_, h.1⟩
            · by_cases h2 : b = G.sb
              · rw [h2]; exact ⟨_, h.2.1⟩
              · exact ⟨o, h.2.2 b o e h1 h2⟩⟩
        have wf' : Wf K mg G H' { S with st := ⟨xs, cur, cnt, mix⟩ } := ⟨wf.len, wf.nd, fun i c a h1 h2 => by
            have q := wf.cell i c a h1 h2
            have na : a ≠ G.sa := fun y => wf.na (by rw [← y]; exact List.mem_of_getElem? h2)
            have nb : a ≠ G.sb := fun y => wf.nb (by rw [← y]; exact List.mem_of_getElem? h2)
            cases c with
            | lst ds => obtain ⟨xs, e, z, t⟩ := q; exact ⟨xs, h.2.2 _ _ e na nb, z, t.mono fr⟩
            | dic kvs => obtain ⟨xs, e, z, t⟩ := q; exact ⟨xs, h.2.2 _ _ e na nb, z, t.mono fr⟩
            | ins c fs => obtain ⟨C, dx, gs, m, e, t⟩ := q; exact ⟨C, dx, gs, m, h.2.2 _ _ e na nb, t.mono fr⟩
            | out => trivial, fun b q => by
            obtain ⟨u, e⟩ := wf.live b q
            exact fr.there b u e, h.1, h.2.1, wf.sab, wf.na, wf.nb, hz, wf.hmg, wf.nz, fun b q => by
            obtain ⟨u, e⟩ := wf.zl b q
            exact fr.there b u e, wf.zo⟩
        rw [ek]
        refine ‹okF K mg G H Q E (.ok (.int (S.st.take n)) { S with st := S.st.next n })› (.int _) G H' fr ?_ (.int _)
        rw [← e]
        exact wf'
      refine ⟨_, PSs.nox (pss_cons (ps_while PassesOwn.never (PW.pt (pw_and (pt_cmpR op_eq (pe_ix ix_list (pv 0) pe_int (fun _ _ => rfl)) pe_int (nomark _)) (pw_and1 (pt_cmpR (op_neD hr.units) (pe_ix ix_list (pv 0) pe_int (fun _ _ => rfl)) (pe_lst pa_nil) (nomark _)))))
          (pss_cons (ps_asg (pe_bm PySem.F.plainAttrs_list PySem.F.slot_list_pop PySem.F.type_list_pop mt_popAt (pe_ix ix_list (pv 0) pe_int (fun _ _ => rfl)) (pa_cons pe_int pa_nil)) (pg_sub (pv 0) pe_int set_list))
            (pss_one (ps_if (pt_cmpR op_lt (pe_ix ix_list (pv 0) pe_int (fun _ _ => rfl)) (pe_op op_pow pe_int pe_int) (nomark _))
              (pss_cons (ps_asg (pe_op op_mod (pe_callTy call_int1 (by rfl) mI PyProof.Rows.boot_int (pa_cons (pe_op op_add (pe_op op_add (pe_op op_mul (pe_ix ix_list (pv 0) pe_int (fun _ _ => rfl)) pe_int) (pe_ix ix_list (pv 0) pe_int (fun _ _ => rfl))) pe_int) pa_nil)) pe_int) (pg_sub (pv 0) pe_int set_list))
                (pss_one (ps_asg pe_int (pg_sub (pv 0) pe_int set_list)))) pss_nil))))
        (pss_cons (ps_if (pt_cmpR op_gt (pe_ix ix_list (pv 0) pe_int (fun _ _ => rfl)) pe_int (nomark _))
            (pss_cons (ps_set (i := 2) sc_draw.nd rfl (Or.inl rfl) (pe_op op_mod (pe_callTy call_int1 (by rfl) mI PyProof.Rows.boot_int (pa_cons (pe_ix ix_list (pv 0) pe_int (fun _ _ => rfl)) pa_nil)) (pv 1)))
              (pss_cons (ps_asg (pe_op op_fdivW (pe_ix ix_list (pv 0) pe_int (fun _ _ => rfl)) (pv 1)) (pg_sub (pv 0) pe_int set_list)) (pss_one (ps_ret (pv 2))))) pss_nil)
          (pss_cons (ps_asg (pe_op op_add (pe_ix ix_list (pv 0) pe_int (fun _ _ => rfl)) pe_int) (pg_sub (pv 0) pe_int set_list))
            (pss_cons (ps_set (i := 3) sc_draw.nd rfl (Or.inl rfl) (pe_op op_mod (pe_callTy call_int1 (by rfl) mI PyProof.Rows.boot_int (pa_cons (pe_op op_pow (pe_op op_add (pe_op op_add (pe_ix ix_list (pv 0) pe_int (fun _ _ => rfl)) (pe_op op_mul pe_int (pe_ix ix_list (pv 0) pe_int (fun _ _ => rfl)))) pe_int) pe_int) pa_nil)) pe_int))
              (pss_cons (ps_set (i := 4) sc_draw.nd rfl (Or.inl rfl) (pe_op op_mod (pe_callTy call_int1 (by rfl) mI PyProof.Rows.boot_int (pa_cons (pe_op op_pow (pe_op op_add (pe_op op_add (pe_op op_mul (pv 3) pe_int) (pe_op op_mul (pe_op op_mul pe_int (pe_ix ix_list (pv 0) pe_int (fun _ _ => rfl))) (pe_ix ix_list (pv 0) pe_int (fun _ _ => rfl)))) pe_int) pe_int) pa_nil)) pe_int))
                (pss_one (ps_ret (pe_op op_mod (pe_callTy call_int1 (by rfl) mI PyProof.Rows.boot_int (pa_cons (pv 4) pa_nil)) (pv 1))))))))), ?_⟩
      refine ⟨fun m σ' H' => ∃ (xs : List Int) (cur mix : Int), m = xs.length ∧ σ' = [some (.ref G.sa), some (.int n), none, none, none] ∧ At xs cur S.st.cnt mix H' ∧ xs.length ≤ 1000 ∧ fill xs cur mix = fill S.st.xs S.st.cur S.st.mix ∧ 0 ≤ mix ∧ mix < 2147483647 ∧ 0 ≤ cur,
        ⟨_, S.st.xs, S.st.cur, S.st.mix, rfl, rfl, at0, wf.zs, rfl, hm0, hm1, hu0⟩, ?_⟩
      rintro _ _ H' ⟨xs, cur, mix, rfl, rfl, at', hz, hf, hx0, hx1, hcu⟩
      refine ⟨_, rfl, G.sa, _, 1, _, rfl, rfl, SqL.of at'.1, ix1, rfl, _, rfl, ?_⟩
      refine ite2 (fun hcur => ?_) (fun hcur => ?_)
      · have hcur : cur = 0 := by
          have q := of_decide_eq_true hcur
          cases q; rfl
        refine ⟨_, rfl, G.sa, _, 0, _, rfl, rfl, SqL.of at'.1, ix0, Nat.zero_le _, fun p hp => ?_⟩
        have at1 : At xs cur S.st.cnt mix (upd H' p (.lst [])) := atA at' hp
        refine ⟨.list (xs.map PyData.int), .list [], .lst (SqL.of at1.2.1) (dp_ints xs), .lst (SqL.of upd_same) .nil, shaped_ints xs, rfl, _, rfl, ?_⟩
        rw [eqv_nil]
        cases xs with
        | nil =>
          refine iteF ?_
          have hf2 : fill S.st.xs S.st.cur S.st.mix = (([] : List Int), cur, mix) := by rw [← hf]; rfl
          have efull : S.st.full = ⟨([] : List Int), cur, S.st.cnt, mix⟩ := by unfold Strm.full; rw [hf2]
          refine ⟨_, rfl, G.sa, _, 1, _, rfl, rfl, SqL.of at1.1, ix1, _, _, rfl, rfl, _, rfl, ?_⟩
          refine ite2 (fun hpos => ?_) (fun hpos => ?_)
          · have hpos : 0 < cur := of_decide_eq_true hpos
            refine ⟨_, rfl, G.sa, _, 1, _, rfl, rfl, SqL.of at1.1, ix1, .inl ⟨_, rfl, _, rfl, _, _, rfl, rfl, hn0, ?_⟩⟩
            refine ⟨_, rfl, G.sa, _, 1, _, rfl, rfl, SqL.of at1.1, ix1, _, rfl, _, _, rfl, rfl, wide_div (b := 64) hn0 (by omega) (by decide) (by decide), _, rfl, G.sa, _, 1, 1, rfl, rfl, at1.1, rfl, ?_⟩
            refine ⟨_, rfl, fin (st' := S.st) (atS (cur' := cur / n) (cnt' := S.st.cnt) (mix' := mix) at1) (Nat.zero_le _) ?_ ?_⟩
            · unfold Strm.next; rw [efull]; simp only [hpos, if_true]
            · unfold Strm.take; rw [efull]; simp only [hpos, if_true]
          · have hpos : ¬ 0 < cur := fun z => hpos (decide_eq_true z)
            refine ⟨_, rfl, G.sa, _, 2, _, rfl, rfl, SqL.of at1.1, ix2, _, _, rfl, rfl, _, rfl, G.sa, _, 2, 2, rfl, rfl, at1.1, rfl, ?_⟩
            have a2 := atS (cur' := cur) (cnt' := S.st.cnt + 1) (mix' := mix) at1
            have hc0' : 0 ≤ S.st.cnt + 1 := by omega
            have hc1' : S.st.cnt + 1 < 8388608 := by omega
            have hq0 : 0 ≤ ((mix + 104729 * (S.st.cnt + 1) + 17) ^ 5) % 2147483629 := Int.emod_nonneg _ (by decide)
            have hq1 : ((mix + 104729 * (S.st.cnt + 1) + 17) ^ 5) % 2147483629 < 2147483629 := Int.emod_lt_of_pos _ (by decide)
            refine ⟨_, rfl, G.sa, _, 3, _, rfl, rfl, SqL.of a2.1, ix3, _, rfl, G.sa, _, 2, _, rfl, rfl, SqL.of a2.1, ix2, _, _, rfl, rfl, .inl ⟨by decide, by decide⟩, _, _, rfl, rfl, _, _, rfl, rfl, _, _, rfl, rfl, ⟨by decide, by decide, pow_bound hx0 hx1 hc0' hc1'⟩, .inl ⟨_, rfl, _, _, rfl, rfl, (by show (0 : Int) < _; decide), ?_⟩⟩
            refine ⟨_, rfl, _, _, rfl, rfl, .inr ⟨by decide, by decide⟩, _, rfl, G.sa, _, 2, _, rfl, rfl, SqL.of a2.1, ix2, _, _, rfl, rfl, .inl ⟨by decide, by decide⟩, _, rfl, G.sa, _, 2, _, rfl, rfl, SqL.of a2.1, ix2, _, _, rfl, rfl, .inr (small64 hc0' (by omega)), _, _, rfl, rfl, _, _, rfl, rfl, _, _, rfl, rfl, ⟨by decide, by decide, pow_bound2 hq0 hq1 hc0' hc1'⟩, .inl ⟨_, rfl, _, _, rfl, rfl, (by show (0 : Int) < _; decide), ?_⟩⟩
            refine ⟨_, rfl, .inl ⟨_, rfl, _, rfl, _, _, rfl, rfl, hn0, fin (st' := S.st) a2 (Nat.zero_le _) ?_ ?_⟩⟩
            · unfold Strm.next; rw [efull]; simp only [hpos, if_false]
            · unfold Strm.take; rw [efull]; simp only [hpos, if_false]; rfl
        | cons x xs =>
          refine iteT ⟨fun σ' H' => ∃ (ys : List Int) (cur mix : Int), xs.length = ys.length ∧ σ' = [some (.ref G.sa), some (.int n), none, none, none] ∧ At ys cur S.st.cnt mix H' ∧ ys.length ≤ 1000 ∧ fill ys cur mix = fill S.st.xs S.st.cur S.st.mix ∧ 0 ≤ mix ∧ mix < 2147483647 ∧ 0 ≤ cur, fun σ' H' hN => ⟨xs.length, Nat.lt_succ_self _, hN⟩, ?_⟩
          have hz' : xs.length ≤ 1000 := by simp at hz; omega
          refine ⟨_, rfl, G.sa, _, 0, _, rfl, rfl, SqL.of at1.1, ix0, .inl ⟨rfl, _, SqL.of at1.2.1⟩, G.sb, _, 0, 0, .int x, rfl, rfl, at1.2.1, by decide, by decide, (by rw [List.length_map, List.length_cons]; exact seq0), rfl, ?_⟩
          have at2 := atX (xs' := xs) at1
          refine ⟨_, rfl, G.sa, _, 1, 1, rfl, rfl, at2.1, rfl, ?_⟩
          have at3 := atS (cur' := x) (cnt' := S.st.cnt) (mix' := mix) at2
          refine ⟨_, rfl, G.sa, _, 1, _, rfl, rfl, SqL.of at3.1, ix1, _, _, rfl, rfl, ⟨by decide, by decide, by decide⟩, _, _, rfl, rfl, _, rfl, ?_⟩
          have hf' : fill (x :: xs) cur mix = (if x < 10 ^ 18 then fill xs 0 ((mix * 31 + x + 7) % 2147483647) else (xs, x, mix)) := by
            rw [fill.eq_2, if_pos hcur]
          refine ite2 (fun hx => ?_) (fun hx => ?_)
          · have hx : x < 10 ^ 18 := of_decide_eq_true hx
            refine ⟨_, rfl, G.sa, _, 3, _, rfl, rfl, SqL.of at3.1, ix3, _, _, rfl, rfl, .inr ⟨by decide, by decide⟩, _, rfl, G.sa, _, 1, _, rfl, rfl, SqL.of at3.1, ix1, _, _, rfl, rfl, _, _, rfl, rfl, .inl ⟨_, rfl, _, _, rfl, rfl, (by show (0 : Int) < _; decide), _, rfl, G.sa, _, 3, 3, rfl, rfl, at3.1, rfl, ?_⟩⟩
            have at4 := atS (cur' := x) (cnt' := S.st.cnt) (mix' := (mix * 31 + x + 7) % 2147483647) at3
            refine ⟨_, rfl, G.sa, _, 1, 1, rfl, rfl, at4.1, rfl, ?_⟩
            have at5 := atS (cur' := 0) (cnt' := S.st.cnt) (mix' := (mix * 31 + x + 7) % 2147483647) at4
            refine ⟨xs, 0, _, rfl, rfl, at5, hz', ?_, Int.emod_nonneg _ (by decide), Int.emod_lt_of_pos _ (by decide), Int.le_refl _⟩
            rw [← hf, hf', if_pos hx]
          · have hx : ¬ x < 10 ^ 18 := fun z => hx (decide_eq_true z)
            refine ⟨xs, x, mix, rfl, rfl, at3, hz', ?_, hx0, hx1, ?_⟩
            · rw [← hf, hf', if_neg hx]
              have hx1 : x ≠ 0 := fun z => hx (by rw [z]; decide)
              cases xs with
              | nil => rfl
              | cons y ys => rw [fill.eq_2, if_neg hx1]
            · have : (10 : Int) ^ 18 ≤ x := Int.not_lt.mp hx
              exact Int.le_trans (by decide) this
      · have hcur : cur ≠ 0 := fun z => hcur (by rw [z]; rfl)
        show (if false = true then _ else _)
        refine iteF ?_
        have hf2 : fill S.st.xs S.st.cur S.st.mix = (xs, cur, mix) := by
                  rw [← hf]
                  cases xs with
                  | nil => rfl
                  | cons y ys => rw [fill.eq_2, if_neg hcur]
        have efull : S.st.full = ⟨xs, cur, S.st.cnt, mix⟩ := by unfold Strm.full; rw [hf2]
        refine ⟨_, rfl, G.sa, _, 1, _, rfl, rfl, SqL.of at'.1, ix1, _, _, rfl, rfl, _, rfl, ?_⟩
        refine ite2 (fun hpos => ?_) (fun hpos => ?_)
        · have hpos : 0 < cur := of_decide_eq_true hpos
          refine ⟨_, rfl, G.sa, _, 1, _, rfl, rfl, SqL.of at'.1, ix1, .inl ⟨_, rfl, _, rfl, _, _, rfl, rfl, hn0, ?_⟩⟩
          refine ⟨_, rfl, G.sa, _, 1, _, rfl, rfl, SqL.of at'.1, ix1, _, rfl, _, _, rfl, rfl, wide_div (b := 64) hn0 (by omega) (by decide) (by decide), _, rfl, G.sa, _, 1, 1, rfl, rfl, at'.1, rfl, ?_⟩
          refine ⟨_, rfl, fin (st' := S.st) (atS (cur' := cur / n) (cnt' := S.st.cnt) (mix' := mix) at') hz ?_ ?_⟩
          · unfold Strm.next; rw [efull]; simp only [hpos, if_true]
          · unfold Strm.take; rw [efull]; simp only [hpos, if_true]
        · have hpos : ¬ 0 < cur := fun z => hpos (decide_eq_true z)
          refine ⟨_, rfl, G.sa, _, 2, _, rfl, rfl, SqL.of at'.1, ix2, _, _, rfl, rfl, _, rfl, G.sa, _, 2, 2, rfl, rfl, at'.1, rfl, ?_⟩
          have a2 := atS (cur' := cur) (cnt' := S.st.cnt + 1) (mix' := mix) at'
          have hc0' : 0 ≤ S.st.cnt + 1 := by omega
          have hc1' : S.st.cnt + 1 < 8388608 := by omega
          have hq0 : 0 ≤ ((mix + 104729 * (S.st.cnt + 1) + 17) ^ 5) % 2147483629 := Int.emod_nonneg _ (by decide)
          have hq1 : ((mix + 104729 * (S.st.cnt + 1) + 17) ^ 5) % 2147483629 < 2147483629 := Int.emod_lt_of_pos _ (by decide)
          refine ⟨_, rfl, G.sa, _, 3, _, rfl, rfl, SqL.of a2.1, ix3, _, rfl, G.sa, _, 2, _, rfl, rfl, SqL.of a2.1, ix2, _, _, rfl, rfl, .inl ⟨by decide, by decide⟩, _, _, rfl, rfl, _, _, rfl, rfl, _, _, rfl, rfl, ⟨by decide, by decide, pow_bound hx0 hx1 hc0' hc1'⟩, .inl ⟨_, rfl, _, _, rfl, rfl, (by show (0 : Int) < _; decide), ?_⟩⟩
          refine ⟨_, rfl, _, _, rfl, rfl, .inr ⟨by decide, by decide⟩, _, rfl, G.sa, _, 2, _, rfl, rfl, SqL.of a2.1, ix2, _, _, rfl, rfl, .inl ⟨by decide, by decide⟩, _, rfl, G.sa, _, 2, _, rfl, rfl, SqL.of a2.1, ix2, _, _, rfl, rfl, .inr (small64 hc0' (by omega)), _, _, rfl, rfl, _, _, rfl, rfl, _, _, rfl, rfl, ⟨by decide, by decide, pow_bound2 hq0 hq1 hc0' hc1'⟩, .inl ⟨_, rfl, _, _, rfl, rfl, (by show (0 : Int) < _; decide), ?_⟩⟩
          refine ⟨_, rfl, .inl ⟨_, rfl, _, rfl, _, _, rfl, rfl, hn0, fin (st' := S.st) a2 hz ?_ ?_⟩⟩
          · unfold Strm.next; rw [efull]; simp only [hpos, if_false]
          · unfold Strm.take; rw [efull]; simp only [hpos, if_false]; rfl
    | _ => exact h.elim
  | _ => cases r2 <;> exact h.elim
end
end Lw
namespace Lw
open PySem L2 Dl
abbrev s_exc_BadBits : Stmt := inClass (top 6) 0
theorem sc_exc_BadBits : FnScope ["self", "place"] ["self", "place"] (defScope s_exc_BadBits) := ⟨rfl, rfl, rfl, by decide +kernel, rfl, by decide +kernel, by decide +kernel⟩
abbrev s_exc_BadKind : Stmt := inClass (top 3) 0
theorem sc_exc_BadKind : FnScope ["self", "kind"] ["self", "kind"] (defScope s_exc_BadKind) := ⟨rfl, rfl, rfl, by decide +kernel, rfl, by decide +kernel, by decide +kernel⟩
abbrev s_exc_BadMember : Stmt := inClass (top 5) 0
theorem sc_exc_BadMember : FnScope ["self", "place"] ["self", "place"] (defScope s_exc_BadMember) := ⟨rfl, rfl, rfl, by decide +kernel, rfl, by decide +kernel, by decide +kernel⟩
abbrev s_exc_BadName : Stmt := inClass (top 7) 0
theorem sc_exc_BadName : FnScope ["self", "name"] ["self", "name"] (defScope s_exc_BadName) := ⟨rfl, rfl, rfl, by decide +kernel, rfl, by decide +kernel, by decide +kernel⟩
abbrev s_exc_BadOption : Stmt := inClass (top 4) 0
theorem sc_exc_BadOption : FnScope ["self", "name"] ["self", "name"] (defScope s_exc_BadOption) := ⟨rfl, rfl, rfl, by decide +kernel, rfl, by decide +kernel, by decide +kernel⟩
abbrev s_exc_BadPath : Stmt := inClass (top 8) 0
theorem sc_exc_BadPath : FnScope ["self", "path"] ["self", "path"] (defScope s_exc_BadPath) := ⟨rfl, rfl, rfl, by decide +kernel, rfl, by decide +kernel, by decide +kernel⟩
set_option maxHeartbeats 4000000 in
theorem all_mk {P : Program} {w : World} {K : PySem.W.Frag} {h : Heap} {mg : Str → Option Value} {fa C_BadBits fI_BadBits C_BadKind fI_BadKind C_BadMember fI_BadMember C_BadName fI_BadName C_BadOption fI_BadOption C_BadPath fI_BadPath C_Layout C_Shape A_ALIGNS A_CONVENTIONS A_ENDS A_PACKS A_SIZES f_draw_ f_eplainB_ f_is_word_of_ f_is_integer_ f_is_number_of_ f_checked_options_ f_is_row_ f_is_integer_kind_ f_is_array_kind_ f_checked_kind_ f_is_name_ f_checked_member_ f_checked_members_ f_names_of_ f_checked_names_ f_up_ f_Layout_init_ f_Layout_size_ p_Layout_size_ f_size_of_ f_Layout_alignment_ p_Layout_alignment_ f_alignment_of_ f_step_of_ f_msvc_union_ f_msvc_structure_ f_counts_ f_sysv_union_ f_is_moved_ f_sysv_structure_ f_layout_of_ f_struct_ D_struct f_union_ D_union f_edeclared_ f_etried_ f_erow_names_ f_pick_ f_enamed_plan_ f_enamed_rows_ f_ebuilt_ f_emembers_ f_Layout_ends_ p_Layout_ends_ f_row_named_ f_step_from_ f_lead_ f_spot_of_ f_Layout_checked_spot_ f_is_number_kind_ f_Layout_octet_at_ f_law_ : Addr} (X : K.In h) (G : h.Ns mainGlobals mg) (hfa : mg "law" = some (.ref fa))
    {nm_BadBits qn_BadBits : Str} {N_BadBits : Addr} {bs_BadBits bm_BadBits sub_BadBits : List Value} {sn_BadBits : List Str} {ab_BadBits : Bool} {col_BadBits : Option Bool} {dd_BadBits : Option Addr} {m0_BadBits m1_BadBits m2_BadBits m3_BadBits m5_BadBits : Option Value}
    {ocI_BadBits kVI_BadBits dcI_BadBits pmI_BadBits cdI_BadBits ctI_BadBits : Value} {odI_BadBits anI_BadBits : Option Addr} {slI_BadBits : Array (Option Value)}
    {nm_BadKind qn_BadKind : Str} {N_BadKind : Addr} {bs_BadKind bm_BadKind sub_BadKind : List Value} {sn_BadKind : List Str} {ab_BadKind : Bool} {col_BadKind : Option Bool} {dd_BadKind : Option Addr} {m0_BadKind m1_BadKind m2_BadKind m3_BadKind m5_BadKind : Option Value}
    {ocI_BadKind kVI_BadKind dcI_BadKind pmI_BadKind cdI_BadKind ctI_BadKind : Value} {odI_BadKind anI_BadKind : Option Addr} {slI_BadKind : Array (Option Value)}
    {nm_BadMember qn_BadMember : Str} {N_BadMember : Addr} {bs_BadMember bm_BadMember sub_BadMember : List Value} {sn_BadMember : List Str} {ab_BadMember : Bool} {col_BadMember : Option Bool} {dd_BadMember : Option Addr} {m0_BadMember m1_BadMember m2_BadMember m3_BadMember m5_BadMember : Option Value}
    {ocI_BadMember kVI_BadMember dcI_BadMember pmI_BadMember cdI_BadMember ctI_BadMember : Value} {odI_BadMember anI_BadMember : Option Addr} {slI_BadMember : Array (Option Value)}
    {nm_BadName qn_BadName : Str} {N_BadName : Addr} {bs_BadName bm_BadName sub_BadName : List Value} {sn_BadName : List Str} {ab_BadName : Bool} {col_BadName : Option Bool} {dd_BadName : Option Addr} {m0_BadName m1_BadName m2_BadName m3_BadName m5_BadName : Option Value}
    {ocI_BadName kVI_BadName dcI_BadName pmI_BadName cdI_BadName ctI_BadName : Value} {odI_BadName anI_BadName : Option Addr} {slI_BadName : Array (Option Value)}
    {nm_BadOption qn_BadOption : Str} {N_BadOption : Addr} {bs_BadOption bm_BadOption sub_BadOption : List Value} {sn_BadOption : List Str} {ab_BadOption : Bool} {col_BadOption : Option Bool} {dd_BadOption : Option Addr} {m0_BadOption m1_BadOption m2_BadOption m3_BadOption m5_BadOption : Option Value}
    {ocI_BadOption kVI_BadOption dcI_BadOption pmI_BadOption cdI_BadOption ctI_BadOption : Value} {odI_BadOption anI_BadOption : Option Addr} {slI_BadOption : Array (Option Value)}
    {nm_BadPath qn_BadPath : Str} {N_BadPath : Addr} {bs_BadPath bm_BadPath sub_BadPath : List Value} {sn_BadPath : List Str} {ab_BadPath : Bool} {col_BadPath : Option Bool} {dd_BadPath : Option Addr} {m0_BadPath m1_BadPath m2_BadPath m3_BadPath m5_BadPath : Option Value}
    {ocI_BadPath kVI_BadPath dcI_BadPath pmI_BadPath cdI_BadPath ctI_BadPath : Value} {odI_BadPath anI_BadPath : Option Addr} {slI_BadPath : Array (Option Value)}
    {od_ALIGNS : Option Addr} {its_ALIGNS : Array Value} {n_ALIGNS : Nat} {sl_ALIGNS : Array (Option Value)}
    {od_CONVENTIONS : Option Addr} {its_CONVENTIONS : Array Value} {n_CONVENTIONS : Nat} {sl_CONVENTIONS : Array (Option Value)}
    {t_DIGITS : Nat}
    {od_ENDS : Option Addr} {its_ENDS : Array Value} {n_ENDS : Nat} {sl_ENDS : Array (Option Value)}
    {t_LETTERS : Nat}
    {od_PACKS : Option Addr} {its_PACKS : Array Value} {n_PACKS : Nat} {sl_PACKS : Array (Option Value)}
    {od_SIZES : Option Addr} {its_SIZES : Array Value} {n_SIZES : Nat} {sl_SIZES : Array (Option Value)}
    {oc_draw kV_draw dc_draw pm_draw cd_draw ct_draw : Value} {od_draw an_draw : Option Addr} {sl_draw : Array (Option Value)}
    {oc_eplainB kV_eplainB dc_eplainB pm_eplainB cd_eplainB ct_eplainB : Value} {od_eplainB an_eplainB : Option Addr} {sl_eplainB : Array (Option Value)}
    {oc_is_word_of kV_is_word_of dc_is_word_of pm_is_word_of cd_is_word_of ct_is_word_of : Value} {od_is_word_of an_is_word_of : Option Addr} {sl_is_word_of : Array (Option Value)}
    {oc_is_integer kV_is_integer dc_is_integer pm_is_integer cd_is_integer ct_is_integer : Value} {od_is_integer an_is_integer : Option Addr} {sl_is_integer : Array (Option Value)}
    {oc_is_number_of kV_is_number_of dc_is_number_of pm_is_number_of cd_is_number_of ct_is_number_of : Value} {od_is_number_of an_is_number_of : Option Addr} {sl_is_number_of : Array (Option Value)}
    {oc_checked_options kV_checked_options dc_checked_options pm_checked_options cd_checked_options ct_checked_options : Value} {od_checked_options an_checked_options : Option Addr} {sl_checked_options : Array (Option Value)}
    {oc_is_row kV_is_row dc_is_row pm_is_row cd_is_row ct_is_row : Value} {od_is_row an_is_row : Option Addr} {sl_is_row : Array (Option Value)}
    {oc_is_integer_kind kV_is_integer_kind dc_is_integer_kind pm_is_integer_kind cd_is_integer_kind ct_is_integer_kind : Value} {od_is_integer_kind an_is_integer_kind : Option Addr} {sl_is_integer_kind : Array (Option Value)}
    {oc_is_array_kind kV_is_array_kind dc_is_array_kind pm_is_array_kind cd_is_array_kind ct_is_array_kind : Value} {od_is_array_kind an_is_array_kind : Option Addr} {sl_is_array_kind : Array (Option Value)}
    {oc_checked_kind kV_checked_kind dc_checked_kind pm_checked_kind cd_checked_kind ct_checked_kind : Value} {od_checked_kind an_checked_kind : Option Addr} {sl_checked_kind : Array (Option Value)}
    {oc_is_name kV_is_name dc_is_name pm_is_name cd_is_name ct_is_name : Value} {od_is_name an_is_name : Option Addr} {sl_is_name : Array (Option Value)}
    {oc_checked_member kV_checked_member dc_checked_member pm_checked_member cd_checked_member ct_checked_member : Value} {od_checked_member an_checked_member : Option Addr} {sl_checked_member : Array (Option Value)}
    {oc_checked_members kV_checked_members dc_checked_members pm_checked_members cd_checked_members ct_checked_members : Value} {od_checked_members an_checked_members : Option Addr} {sl_checked_members : Array (Option Value)}
    {oc_names_of kV_names_of dc_names_of pm_names_of cd_names_of ct_names_of : Value} {od_names_of an_names_of : Option Addr} {sl_names_of : Array (Option Value)}
    {oc_checked_names kV_checked_names dc_checked_names pm_checked_names cd_checked_names ct_checked_names : Value} {od_checked_names an_checked_names : Option Addr} {sl_checked_names : Array (Option Value)}
    {oc_up kV_up dc_up pm_up cd_up ct_up : Value} {od_up an_up : Option Addr} {sl_up : Array (Option Value)}
    {oc_Layout_init kV_Layout_init dc_Layout_init pm_Layout_init cd_Layout_init ct_Layout_init : Value} {od_Layout_init an_Layout_init : Option Addr} {sl_Layout_init : Array (Option Value)}
    {pr_Layout_size : List Value}
    {oc_Layout_size kV_Layout_size dc_Layout_size pm_Layout_size cd_Layout_size ct_Layout_size : Value} {od_Layout_size an_Layout_size : Option Addr} {sl_Layout_size : Array (Option Value)}
    {oc_size_of kV_size_of dc_size_of pm_size_of cd_size_of ct_size_of : Value} {od_size_of an_size_of : Option Addr} {sl_size_of : Array (Option Value)}
    {pr_Layout_alignment : List Value}
    {oc_Layout_alignment kV_Layout_alignment dc_Layout_alignment pm_Layout_alignment cd_Layout_alignment ct_Layout_alignment : Value} {od_Layout_alignment an_Layout_alignment : Option Addr} {sl_Layout_alignment : Array (Option Value)}
    {oc_alignment_of kV_alignment_of dc_alignment_of pm_alignment_of cd_alignment_of ct_alignment_of : Value} {od_alignment_of an_alignment_of : Option Addr} {sl_alignment_of : Array (Option Value)}
    {oc_step_of kV_step_of dc_step_of pm_step_of cd_step_of ct_step_of : Value} {od_step_of an_step_of : Option Addr} {sl_step_of : Array (Option Value)}
    {oc_msvc_union kV_msvc_union dc_msvc_union pm_msvc_union cd_msvc_union ct_msvc_union : Value} {od_msvc_union an_msvc_union : Option Addr} {sl_msvc_union : Array (Option Value)}
    {oc_msvc_structure kV_msvc_structure dc_msvc_structure pm_msvc_structure cd_msvc_structure ct_msvc_structure : Value} {od_msvc_structure an_msvc_structure : Option Addr} {sl_msvc_structure : Array (Option Value)}
    {oc_counts kV_counts dc_counts pm_counts cd_counts ct_counts : Value} {od_counts an_counts : Option Addr} {sl_counts : Array (Option Value)}
    {oc_sysv_union kV_sysv_union dc_sysv_union pm_sysv_union cd_sysv_union ct_sysv_union : Value} {od_sysv_union an_sysv_union : Option Addr} {sl_sysv_union : Array (Option Value)}
    {oc_is_moved kV_is_moved dc_is_moved pm_is_moved cd_is_moved ct_is_moved : Value} {od_is_moved an_is_moved : Option Addr} {sl_is_moved : Array (Option Value)}
    {oc_sysv_structure kV_sysv_structure dc_sysv_structure pm_sysv_structure cd_sysv_structure ct_sysv_structure : Value} {od_sysv_structure an_sysv_structure : Option Addr} {sl_sysv_structure : Array (Option Value)}
    {oc_layout_of kV_layout_of dc_layout_of pm_layout_of cd_layout_of ct_layout_of : Value} {od_layout_of an_layout_of : Option Addr} {sl_layout_of : Array (Option Value)}
    {oc_struct dc_struct pm_struct cd_struct ct_struct : Value} {od_struct an_struct : Option Addr} {sl_struct : Array (Option Value)}
    {t_struct_ends : Nat}
    {t_struct_convention : Nat}
    {oc_union dc_union pm_union cd_union ct_union : Value} {od_union an_union : Option Addr} {sl_union : Array (Option Value)}
    {t_union_ends : Nat}
    {t_union_convention : Nat}
    {oc_edeclared kV_edeclared dc_edeclared pm_edeclared cd_edeclared ct_edeclared : Value} {od_edeclared an_edeclared : Option Addr} {sl_edeclared : Array (Option Value)}
    {oc_etried kV_etried dc_etried pm_etried cd_etried ct_etried : Value} {od_etried an_etried : Option Addr} {sl_etried : Array (Option Value)}
    {oc_erow_names kV_erow_names dc_erow_names pm_erow_names cd_erow_names ct_erow_names : Value} {od_erow_names an_erow_names : Option Addr} {sl_erow_names : Array (Option Value)}
    {oc_pick kV_pick dc_pick pm_pick cd_pick ct_pick : Value} {od_pick an_pick : Option Addr} {sl_pick : Array (Option Value)}
    {oc_enamed_plan kV_enamed_plan dc_enamed_plan pm_enamed_plan cd_enamed_plan ct_enamed_plan : Value} {od_enamed_plan an_enamed_plan : Option Addr} {sl_enamed_plan : Array (Option Value)}
    {oc_enamed_rows kV_enamed_rows dc_enamed_rows pm_enamed_rows cd_enamed_rows ct_enamed_rows : Value} {od_enamed_rows an_enamed_rows : Option Addr} {sl_enamed_rows : Array (Option Value)}
    {oc_ebuilt kV_ebuilt dc_ebuilt pm_ebuilt cd_ebuilt ct_ebuilt : Value} {od_ebuilt an_ebuilt : Option Addr} {sl_ebuilt : Array (Option Value)}
    {oc_emembers kV_emembers dc_emembers pm_emembers cd_emembers ct_emembers : Value} {od_emembers an_emembers : Option Addr} {sl_emembers : Array (Option Value)}
    {pr_Layout_ends : List Value}
    {oc_Layout_ends kV_Layout_ends dc_Layout_ends pm_Layout_ends cd_Layout_ends ct_Layout_ends : Value} {od_Layout_ends an_Layout_ends : Option Addr} {sl_Layout_ends : Array (Option Value)}
    {oc_row_named kV_row_named dc_row_named pm_row_named cd_row_named ct_row_named : Value} {od_row_named an_row_named : Option Addr} {sl_row_named : Array (Option Value)}
    {oc_step_from kV_step_from dc_step_from pm_step_from cd_step_from ct_step_from : Value} {od_step_from an_step_from : Option Addr} {sl_step_from : Array (Option Value)}
    {oc_lead kV_lead dc_lead pm_lead cd_lead ct_lead : Value} {od_lead an_lead : Option Addr} {sl_lead : Array (Option Value)}
    {oc_spot_of kV_spot_of dc_spot_of pm_spot_of cd_spot_of ct_spot_of : Value} {od_spot_of an_spot_of : Option Addr} {sl_spot_of : Array (Option Value)}
    {oc_Layout_checked_spot kV_Layout_checked_spot dc_Layout_checked_spot pm_Layout_checked_spot cd_Layout_checked_spot ct_Layout_checked_spot : Value} {od_Layout_checked_spot an_Layout_checked_spot : Option Addr} {sl_Layout_checked_spot : Array (Option Value)}
    {oc_is_number_kind kV_is_number_kind dc_is_number_kind pm_is_number_kind cd_is_number_kind ct_is_number_kind : Value} {od_is_number_kind an_is_number_kind : Option Addr} {sl_is_number_kind : Array (Option Value)}
    {oc_Layout_octet_at kV_Layout_octet_at dc_Layout_octet_at pm_Layout_octet_at cd_Layout_octet_at ct_Layout_octet_at : Value} {od_Layout_octet_at an_Layout_octet_at : Option Addr} {sl_Layout_octet_at : Array (Option Value)}
    {oc_law kV_law dc_law pm_law cd_law ct_law : Value} {od_law an_law : Option Addr} {sl_law : Array (Option Value)}
    (aC_BadBits : PySem.W.nsIn K mainGlobals "BadBits" = some (some (.ref C_BadBits)))
    (xL_BadBits : K.lookup C_BadBits = some (excClassObj nm_BadBits qn_BadBits C_BadBits N_BadBits bs_BadBits bm_BadBits true sn_BadBits sub_BadBits ab_BadBits col_BadBits dd_BadBits m0_BadBits m1_BadBits m2_BadBits m3_BadBits m5_BadBits "ValueError.__new__"))
    (xb_BadBits : PySem.HandSPX.refsVE bm_BadBits = true)
    (sa_BadBits : PySem.W.findIn K (.ref C_BadBits) "__setattr__" = some (some (.builtin "object.__setattr__")))
    (eC_BadBits : PySem.W.subIn K (.ref C_BadBits) (.type "BaseException") = some true)
    (tC_BadBits : PySem.W.typeIn K (.ref C_BadBits) = some (.type "type"))
    (kC_BadBits : PySem.W.keepIn K (.ref C_BadBits) = true)
    (nf_BadBits : PySem.W.findIn K (.ref C_BadBits) "place" = some none)
    (iI_BadBits : PySem.W.findIn K (.ref C_BadBits) "__init__" = some (some (.ref fI_BadBits)))
    (tI_BadBits : PySem.W.typeIn K (.ref fI_BadBits) = some (.type "function"))
    (lI_BadBits : K.lookup fI_BadBits = some ⟨ocI_BadBits, odI_BadBits, .func (PySem.W.fnOf "__init__" "BadBits.__init__" (defArgs s_exc_BadBits) (defBody s_exc_BadBits) (defScope s_exc_BadBits) .none kVI_BadBits dcI_BadBits pmI_BadBits anI_BadBits cdI_BadBits ctI_BadBits), slI_BadBits⟩)
    (cI_BadBits : PySem.W.codeIn K cdI_BadBits "BadBits.__init__" = true)
    (kI_BadBits : PySem.W.keepIn K (.ref fI_BadBits) = true)
    (aC_BadKind : PySem.W.nsIn K mainGlobals "BadKind" = some (some (.ref C_BadKind)))
    (xL_BadKind : K.lookup C_BadKind = some (excClassObj nm_BadKind qn_BadKind C_BadKind N_BadKind bs_BadKind bm_BadKind true sn_BadKind sub_BadKind ab_BadKind col_BadKind dd_BadKind m0_BadKind m1_BadKind m2_BadKind m3_BadKind m5_BadKind "ValueError.__new__"))
    (xb_BadKind : PySem.HandSPX.refsVE bm_BadKind = true)
    (sa_BadKind : PySem.W.findIn K (.ref C_BadKind) "__setattr__" = some (some (.builtin "object.__setattr__")))
    (eC_BadKind : PySem.W.subIn K (.ref C_BadKind) (.type "BaseException") = some true)
    (tC_BadKind : PySem.W.typeIn K (.ref C_BadKind) = some (.type "type"))
    (kC_BadKind : PySem.W.keepIn K (.ref C_BadKind) = true)
    (nf_BadKind : PySem.W.findIn K (.ref C_BadKind) "kind" = some none)
    (iI_BadKind : PySem.W.findIn K (.ref C_BadKind) "__init__" = some (some (.ref fI_BadKind)))
    (tI_BadKind : PySem.W.typeIn K (.ref fI_BadKind) = some (.type "function"))
    (lI_BadKind : K.lookup fI_BadKind = some ⟨ocI_BadKind, odI_BadKind, .func (PySem.W.fnOf "__init__" "BadKind.__init__" (defArgs s_exc_BadKind) (defBody s_exc_BadKind) (defScope s_exc_BadKind) .none kVI_BadKind dcI_BadKind pmI_BadKind anI_BadKind cdI_BadKind ctI_BadKind), slI_BadKind⟩)
    (cI_BadKind : PySem.W.codeIn K cdI_BadKind "BadKind.__init__" = true)
    (kI_BadKind : PySem.W.keepIn K (.ref fI_BadKind) = true)
    (aC_BadMember : PySem.W.nsIn K mainGlobals "BadMember" = some (some (.ref C_BadMember)))
    (xL_BadMember : K.lookup C_BadMember = some (excClassObj nm_BadMember qn_BadMember C_BadMember N_BadMember bs_BadMember bm_BadMember true sn_BadMember sub_BadMember ab_BadMember col_BadMember dd_BadMember m0_BadMember m1_BadMember m2_BadMember m3_BadMember m5_BadMember "ValueError.__new__"))
    (xb_BadMember : PySem.HandSPX.refsVE bm_BadMember = true)
    (sa_BadMember : PySem.W.findIn K (.ref C_BadMember) "__setattr__" = some (some (.builtin "object.__setattr__")))
    (eC_BadMember : PySem.W.subIn K (.ref C_BadMember) (.type "BaseException") = some true)
    (tC_BadMember : PySem.W.typeIn K (.ref C_BadMember) = some (.type "type"))
    (kC_BadMember : PySem.W.keepIn K (.ref C_BadMember) = true)
    (nf_BadMember : PySem.W.findIn K (.ref C_BadMember) "place" = some none)
    (iI_BadMember : PySem.W.findIn K (.ref C_BadMember) "__init__" = some (some (.ref fI_BadMember)))
    (tI_BadMember : PySem.W.typeIn K (.ref fI_BadMember) = some (.type "function"))
    (lI_BadMember : K.lookup fI_BadMember = some ⟨ocI_BadMember, odI_BadMember, .func (PySem.W.fnOf "__init__" "BadMember.__init__" (defArgs s_exc_BadMember) (defBody s_exc_BadMember) (defScope s_exc_BadMember) .none kVI_BadMember dcI_BadMember pmI_BadMember anI_BadMember cdI_BadMember ctI_BadMember), slI_BadMember⟩)
    (cI_BadMember : PySem.W.codeIn K cdI_BadMember "BadMember.__init__" = true)
    (kI_BadMember : PySem.W.keepIn K (.ref fI_BadMember) = true)
    (aC_BadName : PySem.W.nsIn K mainGlobals "BadName" = some (some (.ref C_BadName)))
    (xL_BadName : K.lookup C_BadName = some (excClassObj nm_BadName qn_BadName C_BadName N_BadName bs_BadName bm_BadName true sn_BadName sub_BadName ab_BadName col_BadName dd_BadName m0_BadName m1_BadName m2_BadName m3_BadName m5_BadName "ValueError.__new__"))
    (xb_BadName : PySem.HandSPX.refsVE bm_BadName = true)
    (sa_BadName : PySem.W.findIn K (.ref C_BadName) "__setattr__" = some (some (.builtin "object.__setattr__")))
    (eC_BadName : PySem.W.subIn K (.ref C_BadName) (.type "BaseException") = some true)
    (tC_BadName : PySem.W.typeIn K (.ref C_BadName) = some (.type "type"))
    (kC_BadName : PySem.W.keepIn K (.ref C_BadName) = true)
    (nf_BadName : PySem.W.findIn K (.ref C_BadName) "name" = some none)
    (iI_BadName : PySem.W.findIn K (.ref C_BadName) "__init__" = some (some (.ref fI_BadName)))
    (tI_BadName : PySem.W.typeIn K (.ref fI_BadName) = some (.type "function"))
    (lI_BadName : K.lookup fI_BadName = some ⟨ocI_BadName, odI_BadName, .func (PySem.W.fnOf "__init__" "BadName.__init__" (defArgs s_exc_BadName) (defBody s_exc_BadName) (defScope s_exc_BadName) .none kVI_BadName dcI_BadName pmI_BadName anI_BadName cdI_BadName ctI_BadName), slI_BadName⟩)
    (cI_BadName : PySem.W.codeIn K cdI_BadName "BadName.__init__" = true)
    (kI_BadName : PySem.W.keepIn K (.ref fI_BadName) = true)
    (aC_BadOption : PySem.W.nsIn K mainGlobals "BadOption" = some (some (.ref C_BadOption)))
    (xL_BadOption : K.lookup C_BadOption = some (excClassObj nm_BadOption qn_BadOption C_BadOption N_BadOption bs_BadOption bm_BadOption true sn_BadOption sub_BadOption ab_BadOption col_BadOption dd_BadOption m0_BadOption m1_BadOption m2_BadOption m3_BadOption m5_BadOption "ValueError.__new__"))
    (xb_BadOption : PySem.HandSPX.refsVE bm_BadOption = true)
    (sa_BadOption : PySem.W.findIn K (.ref C_BadOption) "__setattr__" = some (some (.builtin "object.__setattr__")))
    (eC_BadOption : PySem.W.subIn K (.ref C_BadOption) (.type "BaseException") = some true)
    (tC_BadOption : PySem.W.typeIn K (.ref C_BadOption) = some (.type "type"))
    (kC_BadOption : PySem.W.keepIn K (.ref C_BadOption) = true)
    (nf_BadOption : PySem.W.findIn K (.ref C_BadOption) "name" = some none)
    (iI_BadOption : PySem.W.findIn K (.ref C_BadOption) "__init__" = some (some (.ref fI_BadOption)))
    (tI_BadOption : PySem.W.typeIn K (.ref fI_BadOption) = some (.type "function"))
    (lI_BadOption : K.lookup fI_BadOption = some ⟨ocI_BadOption, odI_BadOption, .func (PySem.W.fnOf "__init__" "BadOption.__init__" (defArgs s_exc_BadOption) (defBody s_exc_BadOption) (defScope s_exc_BadOption) .none kVI_BadOption dcI_BadOption pmI_BadOption anI_BadOption cdI_BadOption ctI_BadOption), slI_BadOption⟩)
    (cI_BadOption : PySem.W.codeIn K cdI_BadOption "BadOption.__init__" = true)
    (kI_BadOption : PySem.W.keepIn K (.ref fI_BadOption) = true)
    (aC_BadPath : PySem.W.nsIn K mainGlobals "BadPath" = some (some (.ref C_BadPath)))
    (xL_BadPath : K.lookup C_BadPath = some (excClassObj nm_BadPath qn_BadPath C_BadPath N_BadPath bs_BadPath bm_BadPath true sn_BadPath sub_BadPath ab_BadPath col_BadPath dd_BadPath m0_BadPath m1_BadPath m2_BadPath m3_BadPath m5_BadPath "ValueError.__new__"))
    (xb_BadPath : PySem.HandSPX.refsVE bm_BadPath = true)
    (sa_BadPath : PySem.W.findIn K (.ref C_BadPath) "__setattr__" = some (some (.builtin "object.__setattr__")))
    (eC_BadPath : PySem.W.subIn K (.ref C_BadPath) (.type "BaseException") = some true)
    (tC_BadPath : PySem.W.typeIn K (.ref C_BadPath) = some (.type "type"))
    (kC_BadPath : PySem.W.keepIn K (.ref C_BadPath) = true)
    (nf_BadPath : PySem.W.findIn K (.ref C_BadPath) "path" = some none)
    (iI_BadPath : PySem.W.findIn K (.ref C_BadPath) "__init__" = some (some (.ref fI_BadPath)))
    (tI_BadPath : PySem.W.typeIn K (.ref fI_BadPath) = some (.type "function"))
    (lI_BadPath : K.lookup fI_BadPath = some ⟨ocI_BadPath, odI_BadPath, .func (PySem.W.fnOf "__init__" "BadPath.__init__" (defArgs s_exc_BadPath) (defBody s_exc_BadPath) (defScope s_exc_BadPath) .none kVI_BadPath dcI_BadPath pmI_BadPath anI_BadPath cdI_BadPath ctI_BadPath), slI_BadPath⟩)
    (cI_BadPath : PySem.W.codeIn K cdI_BadPath "BadPath.__init__" = true)
    (kI_BadPath : PySem.W.keepIn K (.ref fI_BadPath) = true)
    (ga_BadBits : PySem.W.findIn K (.ref C_BadBits) "__getattribute__" = some (some (.builtin "BaseException.__getattribute__")))
    (gg_BadBits : PySem.W.findIn K (.ref C_BadBits) "__getattr__" = some none)
    (hd_BadBits : PySem.W.hasDictIn K C_BadBits = true)
    (ex_BadBits : PySem.W.subIn K (.ref C_BadBits) (.ref C_BadBits) = some true)
    (ga_BadKind : PySem.W.findIn K (.ref C_BadKind) "__getattribute__" = some (some (.builtin "BaseException.__getattribute__")))
    (gg_BadKind : PySem.W.findIn K (.ref C_BadKind) "__getattr__" = some none)
    (hd_BadKind : PySem.W.hasDictIn K C_BadKind = true)
    (ex_BadKind : PySem.W.subIn K (.ref C_BadKind) (.ref C_BadKind) = some true)
    (ga_BadMember : PySem.W.findIn K (.ref C_BadMember) "__getattribute__" = some (some (.builtin "BaseException.__getattribute__")))
    (gg_BadMember : PySem.W.findIn K (.ref C_BadMember) "__getattr__" = some none)
    (hd_BadMember : PySem.W.hasDictIn K C_BadMember = true)
    (ex_BadMember : PySem.W.subIn K (.ref C_BadMember) (.ref C_BadMember) = some true)
    (ga_BadName : PySem.W.findIn K (.ref C_BadName) "__getattribute__" = some (some (.builtin "BaseException.__getattribute__")))
    (gg_BadName : PySem.W.findIn K (.ref C_BadName) "__getattr__" = some none)
    (hd_BadName : PySem.W.hasDictIn K C_BadName = true)
    (ex_BadName : PySem.W.subIn K (.ref C_BadName) (.ref C_BadName) = some true)
    (ga_BadOption : PySem.W.findIn K (.ref C_BadOption) "__getattribute__" = some (some (.builtin "BaseException.__getattribute__")))
    (gg_BadOption : PySem.W.findIn K (.ref C_BadOption) "__getattr__" = some none)
    (hd_BadOption : PySem.W.hasDictIn K C_BadOption = true)
    (ex_BadOption : PySem.W.subIn K (.ref C_BadOption) (.ref C_BadOption) = some true)
    (ne_BadBits_BadKind : PySem.W.subIn K (.ref C_BadBits) (.ref C_BadKind) = some false)
    (ne_BadBits_BadMember : PySem.W.subIn K (.ref C_BadBits) (.ref C_BadMember) = some false)
    (ne_BadBits_BadName : PySem.W.subIn K (.ref C_BadBits) (.ref C_BadName) = some false)
    (ne_BadBits_BadOption : PySem.W.subIn K (.ref C_BadBits) (.ref C_BadOption) = some false)
    (ne_BadKind_BadBits : PySem.W.subIn K (.ref C_BadKind) (.ref C_BadBits) = some false)
    (ne_BadKind_BadMember : PySem.W.subIn K (.ref C_BadKind) (.ref C_BadMember) = some false)
    (ne_BadKind_BadName : PySem.W.subIn K (.ref C_BadKind) (.ref C_BadName) = some false)
    (ne_BadKind_BadOption : PySem.W.subIn K (.ref C_BadKind) (.ref C_BadOption) = some false)
    (ne_BadMember_BadBits : PySem.W.subIn K (.ref C_BadMember) (.ref C_BadBits) = some false)
    (ne_BadMember_BadKind : PySem.W.subIn K (.ref C_BadMember) (.ref C_BadKind) = some false)
    (ne_BadMember_BadName : PySem.W.subIn K (.ref C_BadMember) (.ref C_BadName) = some false)
    (ne_BadMember_BadOption : PySem.W.subIn K (.ref C_BadMember) (.ref C_BadOption) = some false)
    (ne_BadName_BadBits : PySem.W.subIn K (.ref C_BadName) (.ref C_BadBits) = some false)
    (ne_BadName_BadKind : PySem.W.subIn K (.ref C_BadName) (.ref C_BadKind) = some false)
    (ne_BadName_BadMember : PySem.W.subIn K (.ref C_BadName) (.ref C_BadMember) = some false)
    (ne_BadName_BadOption : PySem.W.subIn K (.ref C_BadName) (.ref C_BadOption) = some false)
    (ne_BadOption_BadBits : PySem.W.subIn K (.ref C_BadOption) (.ref C_BadBits) = some false)
    (ne_BadOption_BadKind : PySem.W.subIn K (.ref C_BadOption) (.ref C_BadKind) = some false)
    (ne_BadOption_BadMember : PySem.W.subIn K (.ref C_BadOption) (.ref C_BadMember) = some false)
    (ne_BadOption_BadName : PySem.W.subIn K (.ref C_BadOption) (.ref C_BadName) = some false)
    (aC_Layout : PySem.W.nsIn K mainGlobals "Layout" = some (some (.ref C_Layout)))
    (pg_Layout : PySem.W.plainGet K C_Layout Str.empty = true)
    (hd_Layout : PySem.W.hasDictIn K C_Layout = true)
    (po_Layout : PySem.W.plainOver K C_Layout = true)
    (sa_Layout : PySem.W.findIn K (.ref C_Layout) "__setattr__" = some (some (.builtin "object.__setattr__")))
    (nna_Layout_extent : PySem.W.findIn K (.ref C_Layout) "extent" = some none)
    (nna_Layout_order : PySem.W.findIn K (.ref C_Layout) "order" = some none)
    (nna_Layout_positions : PySem.W.findIn K (.ref C_Layout) "positions" = some none)
    (nna_Layout_rows : PySem.W.findIn K (.ref C_Layout) "rows" = some none)
    (nna_Layout_rule : PySem.W.findIn K (.ref C_Layout) "rule" = some none)
    (nna_Layout_step : PySem.W.findIn K (.ref C_Layout) "step" = some none)
    (aC_Shape : PySem.W.nsIn K mainGlobals "Shape" = some (some (.ref C_Shape)))
    (ic_Shape : PySem.W.isClsIn K C_Shape = true)
    (ty_Shape : PySem.W.typeIn K (.ref C_Shape) = some (.type "type"))
    (kf_Layout : PySem.W.findIn K (.ref C_Layout) "__class__" = some (some (.builtin "object.__class__")))
    (ks_Layout : PySem.W.specialIn K (.builtin "object.__class__") "__get__" = some (some (.builtin "getset_descriptor.__get__")))
    (kt_Layout : PySem.W.takesIn K (.builtin "object.__class__") = some true)
    (kr_Layout : PySem.W.mroIn K C_Layout (.type "object") = some true)
    (kbool_Layout : PySem.W.subIn K (.ref C_Layout) (.type "bool") = some false)
    (kint_Layout : PySem.W.subIn K (.ref C_Layout) (.type "int") = some false)
    (kstr_Layout : PySem.W.subIn K (.ref C_Layout) (.type "str") = some false)
    (klist_Layout : PySem.W.subIn K (.ref C_Layout) (.type "list") = some false)
    (ktuple_Layout : PySem.W.subIn K (.ref C_Layout) (.type "tuple") = some false)
    (kdict_Layout : PySem.W.subIn K (.ref C_Layout) (.type "dict") = some false)
    (kx_Layout_Shape : PySem.W.subIn K (.ref C_Layout) (.ref C_Shape) = some true)
    (ke_Layout_Shape : (C_Layout == C_Shape) = true → true = true)
    (ac_ALIGNS : PySem.W.nsIn K mainGlobals "ALIGNS" = some (some (.ref A_ALIGNS)))
    (lc_ALIGNS : K.lookup A_ALIGNS = some ⟨.type "tuple", od_ALIGNS, .seq its_ALIGNS n_ALIGNS, sl_ALIGNS⟩)
    (vc_ALIGNS : Vals [V.int (1), V.int (2), V.int (4), V.int (8), V.int (16), V.int (32)] its_ALIGNS.toList)
    (ac_CONVENTIONS : PySem.W.nsIn K mainGlobals "CONVENTIONS" = some (some (.ref A_CONVENTIONS)))
    (lc_CONVENTIONS : K.lookup A_CONVENTIONS = some ⟨.type "tuple", od_CONVENTIONS, .seq its_CONVENTIONS n_CONVENTIONS, sl_CONVENTIONS⟩)
    (vc_CONVENTIONS : Vals [V.str "sysv", V.str "msvc"] its_CONVENTIONS.toList)
    (ac_DIGITS : PySem.W.nsIn K mainGlobals "DIGITS" = some (some (.str "0123456789" t_DIGITS)))
    (ac_ENDS : PySem.W.nsIn K mainGlobals "ENDS" = some (some (.ref A_ENDS)))
    (lc_ENDS : K.lookup A_ENDS = some ⟨.type "tuple", od_ENDS, .seq its_ENDS n_ENDS, sl_ENDS⟩)
    (vc_ENDS : Vals [V.str "little", V.str "big"] its_ENDS.toList)
    (ac_LETTERS : PySem.W.nsIn K mainGlobals "LETTERS" = some (some (.str "abcdefghijklmnopqrstuvwxyzABCDEFGHIJKLMNOPQRSTUVWXYZ_" t_LETTERS)))
    (ac_PACKS : PySem.W.nsIn K mainGlobals "PACKS" = some (some (.ref A_PACKS)))
    (lc_PACKS : K.lookup A_PACKS = some ⟨.type "tuple", od_PACKS, .seq its_PACKS n_PACKS, sl_PACKS⟩)
    (vc_PACKS : Vals [V.int (1), V.int (2), V.int (4), V.int (8), V.int (16)] its_PACKS.toList)
    (ac_SIZES : PySem.W.nsIn K mainGlobals "SIZES" = some (some (.ref A_SIZES)))
    (lc_SIZES : K.lookup A_SIZES = some ⟨.type "tuple", od_SIZES, .seq its_SIZES n_SIZES, sl_SIZES⟩)
    (vc_SIZES : Vals [V.int (1), V.int (2), V.int (4), V.int (8)] its_SIZES.toList)
    (z_all : PySem.W.nsIn K mainGlobals "all" = some none)
    (z_bool : PySem.W.nsIn K mainGlobals "bool" = some none)
    (z_dict : PySem.W.nsIn K mainGlobals "dict" = some none)
    (z_enumerate : PySem.W.nsIn K mainGlobals "enumerate" = some none)
    (z_int : PySem.W.nsIn K mainGlobals "int" = some none)
    (z_isinstance : PySem.W.nsIn K mainGlobals "isinstance" = some none)
    (z_len : PySem.W.nsIn K mainGlobals "len" = some none)
    (z_list : PySem.W.nsIn K mainGlobals "list" = some none)
    (z_max : PySem.W.nsIn K mainGlobals "max" = some none)
    (z_min : PySem.W.nsIn K mainGlobals "min" = some none)
    (z_range : PySem.W.nsIn K mainGlobals "range" = some none)
    (z_str : PySem.W.nsIn K mainGlobals "str" = some none)
    (z_sum : PySem.W.nsIn K mainGlobals "sum" = some none)
    (z_tuple : PySem.W.nsIn K mainGlobals "tuple" = some none)
    (z_zip : PySem.W.nsIn K mainGlobals "zip" = some none)
    (a_draw : PySem.W.nsIn K mainGlobals "_law_draw" = some (some (.ref f_draw_)))
    (l_draw : K.lookup f_draw_ = some ⟨oc_draw, od_draw, .func (PySem.W.fnOf "_law_draw" "_law_draw" (defArgs s_draw) (defBody s_draw) (defScope s_draw) .none kV_draw dc_draw pm_draw an_draw cd_draw ct_draw), sl_draw⟩)
    (c_draw : PySem.W.codeIn K cd_draw "_law_draw" = true)
    (k_draw : PySem.W.keepIn K (.ref f_draw_) = true)
    (a_eplainB : PySem.W.nsIn K mainGlobals "_law_plain" = some (some (.ref f_eplainB_)))
    (l_eplainB : K.lookup f_eplainB_ = some ⟨oc_eplainB, od_eplainB, .func (PySem.W.fnOf "_law_plain" "_law_plain" (defArgs s_eplainB) (defBody s_eplainB) (defScope s_eplainB) .none kV_eplainB dc_eplainB pm_eplainB an_eplainB cd_eplainB ct_eplainB), sl_eplainB⟩)
    (c_eplainB : PySem.W.codeIn K cd_eplainB "_law_plain" = true)
    (k_eplainB : PySem.W.keepIn K (.ref f_eplainB_) = true)
    (a_is_word_of : PySem.W.nsIn K mainGlobals "is_word_of" = some (some (.ref f_is_word_of_)))
    (l_is_word_of : K.lookup f_is_word_of_ = some ⟨oc_is_word_of, od_is_word_of, .func (PySem.W.fnOf "is_word_of" "is_word_of" (defArgs s_is_word_of) (defBody s_is_word_of) (defScope s_is_word_of) .none kV_is_word_of dc_is_word_of pm_is_word_of an_is_word_of cd_is_word_of ct_is_word_of), sl_is_word_of⟩)
    (c_is_word_of : PySem.W.codeIn K cd_is_word_of "is_word_of" = true)
    (k_is_word_of : PySem.W.keepIn K (.ref f_is_word_of_) = true)
    (a_is_integer : PySem.W.nsIn K mainGlobals "is_integer" = some (some (.ref f_is_integer_)))
    (l_is_integer : K.lookup f_is_integer_ = some ⟨oc_is_integer, od_is_integer, .func (PySem.W.fnOf "is_integer" "is_integer" (defArgs s_is_integer) (defBody s_is_integer) (defScope s_is_integer) .none kV_is_integer dc_is_integer pm_is_integer an_is_integer cd_is_integer ct_is_integer), sl_is_integer⟩)
    (c_is_integer : PySem.W.codeIn K cd_is_integer "is_integer" = true)
    (k_is_integer : PySem.W.keepIn K (.ref f_is_integer_) = true)
    (a_is_number_of : PySem.W.nsIn K mainGlobals "is_number_of" = some (some (.ref f_is_number_of_)))
    (l_is_number_of : K.lookup f_is_number_of_ = some ⟨oc_is_number_of, od_is_number_of, .func (PySem.W.fnOf "is_number_of" "is_number_of" (defArgs s_is_number_of) (defBody s_is_number_of) (defScope s_is_number_of) .none kV_is_number_of dc_is_number_of pm_is_number_of an_is_number_of cd_is_number_of ct_is_number_of), sl_is_number_of⟩)
    (c_is_number_of : PySem.W.codeIn K cd_is_number_of "is_number_of" = true)
    (k_is_number_of : PySem.W.keepIn K (.ref f_is_number_of_) = true)
    (a_checked_options : PySem.W.nsIn K mainGlobals "checked_options" = some (some (.ref f_checked_options_)))
    (l_checked_options : K.lookup f_checked_options_ = some ⟨oc_checked_options, od_checked_options, .func (PySem.W.fnOf "checked_options" "checked_options" (defArgs s_checked_options) (defBody s_checked_options) (defScope s_checked_options) .none kV_checked_options dc_checked_options pm_checked_options an_checked_options cd_checked_options ct_checked_options), sl_checked_options⟩)
    (c_checked_options : PySem.W.codeIn K cd_checked_options "checked_options" = true)
    (k_checked_options : PySem.W.keepIn K (.ref f_checked_options_) = true)
    (a_is_row : PySem.W.nsIn K mainGlobals "is_row" = some (some (.ref f_is_row_)))
    (l_is_row : K.lookup f_is_row_ = some ⟨oc_is_row, od_is_row, .func (PySem.W.fnOf "is_row" "is_row" (defArgs s_is_row) (defBody s_is_row) (defScope s_is_row) .none kV_is_row dc_is_row pm_is_row an_is_row cd_is_row ct_is_row), sl_is_row⟩)
    (c_is_row : PySem.W.codeIn K cd_is_row "is_row" = true)
    (k_is_row : PySem.W.keepIn K (.ref f_is_row_) = true)
    (a_is_integer_kind : PySem.W.nsIn K mainGlobals "is_integer_kind" = some (some (.ref f_is_integer_kind_)))
    (l_is_integer_kind : K.lookup f_is_integer_kind_ = some ⟨oc_is_integer_kind, od_is_integer_kind, .func (PySem.W.fnOf "is_integer_kind" "is_integer_kind" (defArgs s_is_integer_kind) (defBody s_is_integer_kind) (defScope s_is_integer_kind) .none kV_is_integer_kind dc_is_integer_kind pm_is_integer_kind an_is_integer_kind cd_is_integer_kind ct_is_integer_kind), sl_is_integer_kind⟩)
    (c_is_integer_kind : PySem.W.codeIn K cd_is_integer_kind "is_integer_kind" = true)
    (k_is_integer_kind : PySem.W.keepIn K (.ref f_is_integer_kind_) = true)
    (a_is_array_kind : PySem.W.nsIn K mainGlobals "is_array_kind" = some (some (.ref f_is_array_kind_)))
    (l_is_array_kind : K.lookup f_is_array_kind_ = some ⟨oc_is_array_kind, od_is_array_kind, .func (PySem.W.fnOf "is_array_kind" "is_array_kind" (defArgs s_is_array_kind) (defBody s_is_array_kind) (defScope s_is_array_kind) .none kV_is_array_kind dc_is_array_kind pm_is_array_kind an_is_array_kind cd_is_array_kind ct_is_array_kind), sl_is_array_kind⟩)
    (c_is_array_kind : PySem.W.codeIn K cd_is_array_kind "is_array_kind" = true)
    (k_is_array_kind : PySem.W.keepIn K (.ref f_is_array_kind_) = true)
    (a_checked_kind : PySem.W.nsIn K mainGlobals "checked_kind" = some (some (.ref f_checked_kind_)))
    (l_checked_kind : K.lookup f_checked_kind_ = some ⟨oc_checked_kind, od_checked_kind, .func (PySem.W.fnOf "checked_kind" "checked_kind" (defArgs s_checked_kind) (defBody s_checked_kind) (defScope s_checked_kind) .none kV_checked_kind dc_checked_kind pm_checked_kind an_checked_kind cd_checked_kind ct_checked_kind), sl_checked_kind⟩)
    (c_checked_kind : PySem.W.codeIn K cd_checked_kind "checked_kind" = true)
    (k_checked_kind : PySem.W.keepIn K (.ref f_checked_kind_) = true)
    (a_is_name : PySem.W.nsIn K mainGlobals "is_name" = some (some (.ref f_is_name_)))
    (l_is_name : K.lookup f_is_name_ = some ⟨oc_is_name, od_is_name, .func (PySem.W.fnOf "is_name" "is_name" (defArgs s_is_name) (defBody s_is_name) (defScope s_is_name) .none kV_is_name dc_is_name pm_is_name an_is_name cd_is_name ct_is_name), sl_is_name⟩)
    (c_is_name : PySem.W.codeIn K cd_is_name "is_name" = true)
    (k_is_name : PySem.W.keepIn K (.ref f_is_name_) = true)
    (a_checked_member : PySem.W.nsIn K mainGlobals "checked_member" = some (some (.ref f_checked_member_)))
    (l_checked_member : K.lookup f_checked_member_ = some ⟨oc_checked_member, od_checked_member, .func (PySem.W.fnOf "checked_member" "checked_member" (defArgs s_checked_member) (defBody s_checked_member) (defScope s_checked_member) .none kV_checked_member dc_checked_member pm_checked_member an_checked_member cd_checked_member ct_checked_member), sl_checked_member⟩)
    (c_checked_member : PySem.W.codeIn K cd_checked_member "checked_member" = true)
    (k_checked_member : PySem.W.keepIn K (.ref f_checked_member_) = true)
    (a_checked_members : PySem.W.nsIn K mainGlobals "checked_members" = some (some (.ref f_checked_members_)))
    (l_checked_members : K.lookup f_checked_members_ = some ⟨oc_checked_members, od_checked_members, .func (PySem.W.fnOf "checked_members" "checked_members" (defArgs s_checked_members) (defBody s_checked_members) (defScope s_checked_members) .none kV_checked_members dc_checked_members pm_checked_members an_checked_members cd_checked_members ct_checked_members), sl_checked_members⟩)
    (c_checked_members : PySem.W.codeIn K cd_checked_members "checked_members" = true)
    (k_checked_members : PySem.W.keepIn K (.ref f_checked_members_) = true)
    (a_names_of : PySem.W.nsIn K mainGlobals "names_of" = some (some (.ref f_names_of_)))
    (l_names_of : K.lookup f_names_of_ = some ⟨oc_names_of, od_names_of, .func (PySem.W.fnOf "names_of" "names_of" (defArgs s_names_of) (defBody s_names_of) (defScope s_names_of) .none kV_names_of dc_names_of pm_names_of an_names_of cd_names_of ct_names_of), sl_names_of⟩)
    (c_names_of : PySem.W.codeIn K cd_names_of "names_of" = true)
    (k_names_of : PySem.W.keepIn K (.ref f_names_of_) = true)
    (a_checked_names : PySem.W.nsIn K mainGlobals "checked_names" = some (some (.ref f_checked_names_)))
    (l_checked_names : K.lookup f_checked_names_ = some ⟨oc_checked_names, od_checked_names, .func (PySem.W.fnOf "checked_names" "checked_names" (defArgs s_checked_names) (defBody s_checked_names) (defScope s_checked_names) .none kV_checked_names dc_checked_names pm_checked_names an_checked_names cd_checked_names ct_checked_names), sl_checked_names⟩)
    (c_checked_names : PySem.W.codeIn K cd_checked_names "checked_names" = true)
    (k_checked_names : PySem.W.keepIn K (.ref f_checked_names_) = true)
    (a_up : PySem.W.nsIn K mainGlobals "up" = some (some (.ref f_up_)))
    (l_up : K.lookup f_up_ = some ⟨oc_up, od_up, .func (PySem.W.fnOf "up" "up" (defArgs s_up) (defBody s_up) (defScope s_up) .none kV_up dc_up pm_up an_up cd_up ct_up), sl_up⟩)
    (c_up : PySem.W.codeIn K cd_up "up" = true)
    (k_up : PySem.W.keepIn K (.ref f_up_) = true)
    (a_Layout_init : PySem.W.findIn K (.ref C_Layout) "__init__" = some (some (.ref f_Layout_init_)))
    (i_Layout_init : PySem.W.isFn K (.ref f_Layout_init_) = true)
    (mk_Layout : PySem.W.makesIn K C_Layout = true)
    (kc_Layout : PySem.W.keepIn K (.ref C_Layout) = true)
    (l_Layout_init : K.lookup f_Layout_init_ = some ⟨oc_Layout_init, od_Layout_init, .func (PySem.W.fnOf "__init__" "Layout.__init__" (defArgs s_Layout_init) (defBody s_Layout_init) (defScope s_Layout_init) .none kV_Layout_init dc_Layout_init pm_Layout_init an_Layout_init cd_Layout_init ct_Layout_init), sl_Layout_init⟩)
    (c_Layout_init : PySem.W.codeIn K cd_Layout_init "Layout.__init__" = true)
    (k_Layout_init : PySem.W.keepIn K (.ref f_Layout_init_) = true)
    (a_Layout_size : PySem.W.findIn K (.ref C_Layout) "size" = some (some (.ref p_Layout_size_)))
    (pg_Layout_size : PySem.W.specialIn K (.ref p_Layout_size_) "__get__" = some (some (.builtin "property.__get__")))
    (pt_Layout_size : PySem.W.takesIn K (.ref p_Layout_size_) = some true)
    (pr_Layout_sizeh : PySem.W.recIn K p_Layout_size_ "property" = some (.ref f_Layout_size_ :: pr_Layout_size))
    (l_Layout_size : K.lookup f_Layout_size_ = some ⟨oc_Layout_size, od_Layout_size, .func (PySem.W.fnOf "size" "Layout.size" (defArgs s_Layout_size) (defBody s_Layout_size) (defScope s_Layout_size) .none kV_Layout_size dc_Layout_size pm_Layout_size an_Layout_size cd_Layout_size ct_Layout_size), sl_Layout_size⟩)
    (c_Layout_size : PySem.W.codeIn K cd_Layout_size "Layout.size" = true)
    (k_Layout_size : PySem.W.keepIn K (.ref f_Layout_size_) = true)
    (a_size_of : PySem.W.nsIn K mainGlobals "size_of" = some (some (.ref f_size_of_)))
    (l_size_of : K.lookup f_size_of_ = some ⟨oc_size_of, od_size_of, .func (PySem.W.fnOf "size_of" "size_of" (defArgs s_size_of) (defBody s_size_of) (defScope s_size_of) .none kV_size_of dc_size_of pm_size_of an_size_of cd_size_of ct_size_of), sl_size_of⟩)
    (c_size_of : PySem.W.codeIn K cd_size_of "size_of" = true)
    (k_size_of : PySem.W.keepIn K (.ref f_size_of_) = true)
    (a_Layout_alignment : PySem.W.findIn K (.ref C_Layout) "alignment" = some (some (.ref p_Layout_alignment_)))
    (pg_Layout_alignment : PySem.W.specialIn K (.ref p_Layout_alignment_) "__get__" = some (some (.builtin "property.__get__")))
    (pt_Layout_alignment : PySem.W.takesIn K (.ref p_Layout_alignment_) = some true)
    (pr_Layout_alignmenth : PySem.W.recIn K p_Layout_alignment_ "property" = some (.ref f_Layout_alignment_ :: pr_Layout_alignment))
    (l_Layout_alignment : K.lookup f_Layout_alignment_ = some ⟨oc_Layout_alignment, od_Layout_alignment, .func (PySem.W.fnOf "alignment" "Layout.alignment" (defArgs s_Layout_alignment) (defBody s_Layout_alignment) (defScope s_Layout_alignment) .none kV_Layout_alignment dc_Layout_alignment pm_Layout_alignment an_Layout_alignment cd_Layout_alignment ct_Layout_alignment), sl_Layout_alignment⟩)
    (c_Layout_alignment : PySem.W.codeIn K cd_Layout_alignment "Layout.alignment" = true)
    (k_Layout_alignment : PySem.W.keepIn K (.ref f_Layout_alignment_) = true)
    (a_alignment_of : PySem.W.nsIn K mainGlobals "alignment_of" = some (some (.ref f_alignment_of_)))
    (l_alignment_of : K.lookup f_alignment_of_ = some ⟨oc_alignment_of, od_alignment_of, .func (PySem.W.fnOf "alignment_of" "alignment_of" (defArgs s_alignment_of) (defBody s_alignment_of) (defScope s_alignment_of) .none kV_alignment_of dc_alignment_of pm_alignment_of an_alignment_of cd_alignment_of ct_alignment_of), sl_alignment_of⟩)
    (c_alignment_of : PySem.W.codeIn K cd_alignment_of "alignment_of" = true)
    (k_alignment_of : PySem.W.keepIn K (.ref f_alignment_of_) = true)
    (a_step_of : PySem.W.nsIn K mainGlobals "step_of" = some (some (.ref f_step_of_)))
    (l_step_of : K.lookup f_step_of_ = some ⟨oc_step_of, od_step_of, .func (PySem.W.fnOf "step_of" "step_of" (defArgs s_step_of) (defBody s_step_of) (defScope s_step_of) .none kV_step_of dc_step_of pm_step_of an_step_of cd_step_of ct_step_of), sl_step_of⟩)
    (c_step_of : PySem.W.codeIn K cd_step_of "step_of" = true)
    (k_step_of : PySem.W.keepIn K (.ref f_step_of_) = true)
    (a_msvc_union : PySem.W.nsIn K mainGlobals "msvc_union" = some (some (.ref f_msvc_union_)))
    (l_msvc_union : K.lookup f_msvc_union_ = some ⟨oc_msvc_union, od_msvc_union, .func (PySem.W.fnOf "msvc_union" "msvc_union" (defArgs s_msvc_union) (defBody s_msvc_union) (defScope s_msvc_union) .none kV_msvc_union dc_msvc_union pm_msvc_union an_msvc_union cd_msvc_union ct_msvc_union), sl_msvc_union⟩)
    (c_msvc_union : PySem.W.codeIn K cd_msvc_union "msvc_union" = true)
    (k_msvc_union : PySem.W.keepIn K (.ref f_msvc_union_) = true)
    (a_msvc_structure : PySem.W.nsIn K mainGlobals "msvc_structure" = some (some (.ref f_msvc_structure_)))
    (l_msvc_structure : K.lookup f_msvc_structure_ = some ⟨oc_msvc_structure, od_msvc_structure, .func (PySem.W.fnOf "msvc_structure" "msvc_structure" (defArgs s_msvc_structure) (defBody s_msvc_structure) (defScope s_msvc_structure) .none kV_msvc_structure dc_msvc_structure pm_msvc_structure an_msvc_structure cd_msvc_structure ct_msvc_structure), sl_msvc_structure⟩)
    (c_msvc_structure : PySem.W.codeIn K cd_msvc_structure "msvc_structure" = true)
    (k_msvc_structure : PySem.W.keepIn K (.ref f_msvc_structure_) = true)
    (a_counts : PySem.W.nsIn K mainGlobals "counts" = some (some (.ref f_counts_)))
    (l_counts : K.lookup f_counts_ = some ⟨oc_counts, od_counts, .func (PySem.W.fnOf "counts" "counts" (defArgs s_counts) (defBody s_counts) (defScope s_counts) .none kV_counts dc_counts pm_counts an_counts cd_counts ct_counts), sl_counts⟩)
    (c_counts : PySem.W.codeIn K cd_counts "counts" = true)
    (k_counts : PySem.W.keepIn K (.ref f_counts_) = true)
    (a_sysv_union : PySem.W.nsIn K mainGlobals "sysv_union" = some (some (.ref f_sysv_union_)))
    (l_sysv_union : K.lookup f_sysv_union_ = some ⟨oc_sysv_union, od_sysv_union, .func (PySem.W.fnOf "sysv_union" "sysv_union" (defArgs s_sysv_union) (defBody s_sysv_union) (defScope s_sysv_union) .none kV_sysv_union dc_sysv_union pm_sysv_union an_sysv_union cd_sysv_union ct_sysv_union), sl_sysv_union⟩)
    (c_sysv_union : PySem.W.codeIn K cd_sysv_union "sysv_union" = true)
    (k_sysv_union : PySem.W.keepIn K (.ref f_sysv_union_) = true)
    (a_is_moved : PySem.W.nsIn K mainGlobals "is_moved" = some (some (.ref f_is_moved_)))
    (l_is_moved : K.lookup f_is_moved_ = some ⟨oc_is_moved, od_is_moved, .func (PySem.W.fnOf "is_moved" "is_moved" (defArgs s_is_moved) (defBody s_is_moved) (defScope s_is_moved) .none kV_is_moved dc_is_moved pm_is_moved an_is_moved cd_is_moved ct_is_moved), sl_is_moved⟩)
    (c_is_moved : PySem.W.codeIn K cd_is_moved "is_moved" = true)
    (k_is_moved : PySem.W.keepIn K (.ref f_is_moved_) = true)
    (a_sysv_structure : PySem.W.nsIn K mainGlobals "sysv_structure" = some (some (.ref f_sysv_structure_)))
    (l_sysv_structure : K.lookup f_sysv_structure_ = some ⟨oc_sysv_structure, od_sysv_structure, .func (PySem.W.fnOf "sysv_structure" "sysv_structure" (defArgs s_sysv_structure) (defBody s_sysv_structure) (defScope s_sysv_structure) .none kV_sysv_structure dc_sysv_structure pm_sysv_structure an_sysv_structure cd_sysv_structure ct_sysv_structure), sl_sysv_structure⟩)
    (c_sysv_structure : PySem.W.codeIn K cd_sysv_structure "sysv_structure" = true)
    (k_sysv_structure : PySem.W.keepIn K (.ref f_sysv_structure_) = true)
    (a_layout_of : PySem.W.nsIn K mainGlobals "layout_of" = some (some (.ref f_layout_of_)))
    (l_layout_of : K.lookup f_layout_of_ = some ⟨oc_layout_of, od_layout_of, .func (PySem.W.fnOf "layout_of" "layout_of" (defArgs s_layout_of) (defBody s_layout_of) (defScope s_layout_of) .none kV_layout_of dc_layout_of pm_layout_of an_layout_of cd_layout_of ct_layout_of), sl_layout_of⟩)
    (c_layout_of : PySem.W.codeIn K cd_layout_of "layout_of" = true)
    (k_layout_of : PySem.W.keepIn K (.ref f_layout_of_) = true)
    (a_struct : PySem.W.nsIn K mainGlobals "struct" = some (some (.ref f_struct_)))
    (l_struct : K.lookup f_struct_ = some ⟨oc_struct, od_struct, .func (PySem.W.fnOf "struct" "struct" (defArgs s_struct) (defBody s_struct) (defScope s_struct) .none (.ref D_struct) dc_struct pm_struct an_struct cd_struct ct_struct), sl_struct⟩)
    (c_struct : PySem.W.codeIn K cd_struct "struct" = true)
    (k_struct : PySem.W.keepIn K (.ref f_struct_) = true)
    (w_struct_ends : PySem.W.nsIn K D_struct "ends" = some (some (.str "little" t_struct_ends)))
    (w_struct_align : PySem.W.nsIn K D_struct "align" = some (some .none))
    (w_struct_pack : PySem.W.nsIn K D_struct "pack" = some (some .none))
    (w_struct_convention : PySem.W.nsIn K D_struct "convention" = some (some (.str "sysv" t_struct_convention)))
    (a_union : PySem.W.nsIn K mainGlobals "union" = some (some (.ref f_union_)))
    (l_union : K.lookup f_union_ = some ⟨oc_union, od_union, .func (PySem.W.fnOf "union" "union" (defArgs s_union) (defBody s_union) (defScope s_union) .none (.ref D_union) dc_union pm_union an_union cd_union ct_union), sl_union⟩)
    (c_union : PySem.W.codeIn K cd_union "union" = true)
    (k_union : PySem.W.keepIn K (.ref f_union_) = true)
    (w_union_ends : PySem.W.nsIn K D_union "ends" = some (some (.str "little" t_union_ends)))
    (w_union_align : PySem.W.nsIn K D_union "align" = some (some .none))
    (w_union_pack : PySem.W.nsIn K D_union "pack" = some (some .none))
    (w_union_convention : PySem.W.nsIn K D_union "convention" = some (some (.str "sysv" t_union_convention)))
    (a_edeclared : PySem.W.nsIn K mainGlobals "_law_declared" = some (some (.ref f_edeclared_)))
    (l_edeclared : K.lookup f_edeclared_ = some ⟨oc_edeclared, od_edeclared, .func (PySem.W.fnOf "_law_declared" "_law_declared" (defArgs s_edeclared) (defBody s_edeclared) (defScope s_edeclared) .none kV_edeclared dc_edeclared pm_edeclared an_edeclared cd_edeclared ct_edeclared), sl_edeclared⟩)
    (c_edeclared : PySem.W.codeIn K cd_edeclared "_law_declared" = true)
    (k_edeclared : PySem.W.keepIn K (.ref f_edeclared_) = true)
    (a_etried : PySem.W.nsIn K mainGlobals "_law_tried" = some (some (.ref f_etried_)))
    (l_etried : K.lookup f_etried_ = some ⟨oc_etried, od_etried, .func (PySem.W.fnOf "_law_tried" "_law_tried" (defArgs s_etried) (defBody s_etried) (defScope s_etried) .none kV_etried dc_etried pm_etried an_etried cd_etried ct_etried), sl_etried⟩)
    (c_etried : PySem.W.codeIn K cd_etried "_law_tried" = true)
    (k_etried : PySem.W.keepIn K (.ref f_etried_) = true)
    (a_erow_names : PySem.W.nsIn K mainGlobals "_law_row_names" = some (some (.ref f_erow_names_)))
    (l_erow_names : K.lookup f_erow_names_ = some ⟨oc_erow_names, od_erow_names, .func (PySem.W.fnOf "_law_row_names" "_law_row_names" (defArgs s_erow_names) (defBody s_erow_names) (defScope s_erow_names) .none kV_erow_names dc_erow_names pm_erow_names an_erow_names cd_erow_names ct_erow_names), sl_erow_names⟩)
    (c_erow_names : PySem.W.codeIn K cd_erow_names "_law_row_names" = true)
    (k_erow_names : PySem.W.keepIn K (.ref f_erow_names_) = true)
    (a_pick : PySem.W.nsIn K mainGlobals "_law_pick" = some (some (.ref f_pick_)))
    (l_pick : K.lookup f_pick_ = some ⟨oc_pick, od_pick, .func (PySem.W.fnOf "_law_pick" "_law_pick" (defArgs s_pick) (defBody s_pick) (defScope s_pick) .none kV_pick dc_pick pm_pick an_pick cd_pick ct_pick), sl_pick⟩)
    (c_pick : PySem.W.codeIn K cd_pick "_law_pick" = true)
    (k_pick : PySem.W.keepIn K (.ref f_pick_) = true)
    (a_enamed_plan : PySem.W.nsIn K mainGlobals "_law_named_plan" = some (some (.ref f_enamed_plan_)))
    (l_enamed_plan : K.lookup f_enamed_plan_ = some ⟨oc_enamed_plan, od_enamed_plan, .func (PySem.W.fnOf "_law_named_plan" "_law_named_plan" (defArgs s_enamed_plan) (defBody s_enamed_plan) (defScope s_enamed_plan) .none kV_enamed_plan dc_enamed_plan pm_enamed_plan an_enamed_plan cd_enamed_plan ct_enamed_plan), sl_enamed_plan⟩)
    (c_enamed_plan : PySem.W.codeIn K cd_enamed_plan "_law_named_plan" = true)
    (k_enamed_plan : PySem.W.keepIn K (.ref f_enamed_plan_) = true)
    (a_enamed_rows : PySem.W.nsIn K mainGlobals "_law_named_rows" = some (some (.ref f_enamed_rows_)))
    (l_enamed_rows : K.lookup f_enamed_rows_ = some ⟨oc_enamed_rows, od_enamed_rows, .func (PySem.W.fnOf "_law_named_rows" "_law_named_rows" (defArgs s_enamed_rows) (defBody s_enamed_rows) (defScope s_enamed_rows) .none kV_enamed_rows dc_enamed_rows pm_enamed_rows an_enamed_rows cd_enamed_rows ct_enamed_rows), sl_enamed_rows⟩)
    (c_enamed_rows : PySem.W.codeIn K cd_enamed_rows "_law_named_rows" = true)
    (k_enamed_rows : PySem.W.keepIn K (.ref f_enamed_rows_) = true)
    (a_ebuilt : PySem.W.nsIn K mainGlobals "_law_built" = some (some (.ref f_ebuilt_)))
    (l_ebuilt : K.lookup f_ebuilt_ = some ⟨oc_ebuilt, od_ebuilt, .func (PySem.W.fnOf "_law_built" "_law_built" (defArgs s_ebuilt) (defBody s_ebuilt) (defScope s_ebuilt) .none kV_ebuilt dc_ebuilt pm_ebuilt an_ebuilt cd_ebuilt ct_ebuilt), sl_ebuilt⟩)
    (c_ebuilt : PySem.W.codeIn K cd_ebuilt "_law_built" = true)
    (k_ebuilt : PySem.W.keepIn K (.ref f_ebuilt_) = true)
    (a_emembers : PySem.W.nsIn K mainGlobals "_law_members" = some (some (.ref f_emembers_)))
    (l_emembers : K.lookup f_emembers_ = some ⟨oc_emembers, od_emembers, .func (PySem.W.fnOf "_law_members" "_law_members" (defArgs s_emembers) (defBody s_emembers) (defScope s_emembers) .none kV_emembers dc_emembers pm_emembers an_emembers cd_emembers ct_emembers), sl_emembers⟩)
    (c_emembers : PySem.W.codeIn K cd_emembers "_law_members" = true)
    (k_emembers : PySem.W.keepIn K (.ref f_emembers_) = true)
    (a_Layout_ends : PySem.W.findIn K (.ref C_Layout) "ends" = some (some (.ref p_Layout_ends_)))
    (pg_Layout_ends : PySem.W.specialIn K (.ref p_Layout_ends_) "__get__" = some (some (.builtin "property.__get__")))
    (pt_Layout_ends : PySem.W.takesIn K (.ref p_Layout_ends_) = some true)
    (pr_Layout_endsh : PySem.W.recIn K p_Layout_ends_ "property" = some (.ref f_Layout_ends_ :: pr_Layout_ends))
    (l_Layout_ends : K.lookup f_Layout_ends_ = some ⟨oc_Layout_ends, od_Layout_ends, .func (PySem.W.fnOf "ends" "Layout.ends" (defArgs s_Layout_ends) (defBody s_Layout_ends) (defScope s_Layout_ends) .none kV_Layout_ends dc_Layout_ends pm_Layout_ends an_Layout_ends cd_Layout_ends ct_Layout_ends), sl_Layout_ends⟩)
    (c_Layout_ends : PySem.W.codeIn K cd_Layout_ends "Layout.ends" = true)
    (k_Layout_ends : PySem.W.keepIn K (.ref f_Layout_ends_) = true)
    (a_row_named : PySem.W.nsIn K mainGlobals "row_named" = some (some (.ref f_row_named_)))
    (l_row_named : K.lookup f_row_named_ = some ⟨oc_row_named, od_row_named, .func (PySem.W.fnOf "row_named" "row_named" (defArgs s_row_named) (defBody s_row_named) (defScope s_row_named) .none kV_row_named dc_row_named pm_row_named an_row_named cd_row_named ct_row_named), sl_row_named⟩)
    (c_row_named : PySem.W.codeIn K cd_row_named "row_named" = true)
    (k_row_named : PySem.W.keepIn K (.ref f_row_named_) = true)
    (a_step_from : PySem.W.nsIn K mainGlobals "step_from" = some (some (.ref f_step_from_)))
    (l_step_from : K.lookup f_step_from_ = some ⟨oc_step_from, od_step_from, .func (PySem.W.fnOf "step_from" "step_from" (defArgs s_step_from) (defBody s_step_from) (defScope s_step_from) .none kV_step_from dc_step_from pm_step_from an_step_from cd_step_from ct_step_from), sl_step_from⟩)
    (c_step_from : PySem.W.codeIn K cd_step_from "step_from" = true)
    (k_step_from : PySem.W.keepIn K (.ref f_step_from_) = true)
    (a_lead : PySem.W.nsIn K mainGlobals "lead" = some (some (.ref f_lead_)))
    (l_lead : K.lookup f_lead_ = some ⟨oc_lead, od_lead, .func (PySem.W.fnOf "lead" "lead" (defArgs s_lead) (defBody s_lead) (defScope s_lead) .none kV_lead dc_lead pm_lead an_lead cd_lead ct_lead), sl_lead⟩)
    (c_lead : PySem.W.codeIn K cd_lead "lead" = true)
    (k_lead : PySem.W.keepIn K (.ref f_lead_) = true)
    (a_spot_of : PySem.W.nsIn K mainGlobals "spot_of" = some (some (.ref f_spot_of_)))
    (l_spot_of : K.lookup f_spot_of_ = some ⟨oc_spot_of, od_spot_of, .func (PySem.W.fnOf "spot_of" "spot_of" (defArgs s_spot_of) (defBody s_spot_of) (defScope s_spot_of) .none kV_spot_of dc_spot_of pm_spot_of an_spot_of cd_spot_of ct_spot_of), sl_spot_of⟩)
    (c_spot_of : PySem.W.codeIn K cd_spot_of "spot_of" = true)
    (k_spot_of : PySem.W.keepIn K (.ref f_spot_of_) = true)
    (a_Layout_checked_spot : PySem.W.findIn K (.ref C_Layout) "checked_spot" = some (some (.ref f_Layout_checked_spot_)))
    (i_Layout_checked_spot : PySem.W.isFn K (.ref f_Layout_checked_spot_) = true)
    (l_Layout_checked_spot : K.lookup f_Layout_checked_spot_ = some ⟨oc_Layout_checked_spot, od_Layout_checked_spot, .func (PySem.W.fnOf "checked_spot" "Layout.checked_spot" (defArgs s_Layout_checked_spot) (defBody s_Layout_checked_spot) (defScope s_Layout_checked_spot) .none kV_Layout_checked_spot dc_Layout_checked_spot pm_Layout_checked_spot an_Layout_checked_spot cd_Layout_checked_spot ct_Layout_checked_spot), sl_Layout_checked_spot⟩)
    (c_Layout_checked_spot : PySem.W.codeIn K cd_Layout_checked_spot "Layout.checked_spot" = true)
    (k_Layout_checked_spot : PySem.W.keepIn K (.ref f_Layout_checked_spot_) = true)
    (a_is_number_kind : PySem.W.nsIn K mainGlobals "is_number_kind" = some (some (.ref f_is_number_kind_)))
    (l_is_number_kind : K.lookup f_is_number_kind_ = some ⟨oc_is_number_kind, od_is_number_kind, .func (PySem.W.fnOf "is_number_kind" "is_number_kind" (defArgs s_is_number_kind) (defBody s_is_number_kind) (defScope s_is_number_kind) .none kV_is_number_kind dc_is_number_kind pm_is_number_kind an_is_number_kind cd_is_number_kind ct_is_number_kind), sl_is_number_kind⟩)
    (c_is_number_kind : PySem.W.codeIn K cd_is_number_kind "is_number_kind" = true)
    (k_is_number_kind : PySem.W.keepIn K (.ref f_is_number_kind_) = true)
    (a_Layout_octet_at : PySem.W.findIn K (.ref C_Layout) "octet_at" = some (some (.ref f_Layout_octet_at_)))
    (i_Layout_octet_at : PySem.W.isFn K (.ref f_Layout_octet_at_) = true)
    (l_Layout_octet_at : K.lookup f_Layout_octet_at_ = some ⟨oc_Layout_octet_at, od_Layout_octet_at, .func (PySem.W.fnOf "octet_at" "Layout.octet_at" (defArgs s_Layout_octet_at) (defBody s_Layout_octet_at) (defScope s_Layout_octet_at) .none kV_Layout_octet_at dc_Layout_octet_at pm_Layout_octet_at an_Layout_octet_at cd_Layout_octet_at ct_Layout_octet_at), sl_Layout_octet_at⟩)
    (c_Layout_octet_at : PySem.W.codeIn K cd_Layout_octet_at "Layout.octet_at" = true)
    (k_Layout_octet_at : PySem.W.keepIn K (.ref f_Layout_octet_at_) = true)
    (a_law : PySem.W.nsIn K mainGlobals "law" = some (some (.ref f_law_)))
    (l_law : K.lookup f_law_ = some ⟨oc_law, od_law, .func (PySem.W.fnOf "law" "law" (defArgs s_law) (defBody s_law) (defScope s_law) .none kV_law dc_law pm_law an_law cd_law ct_law), sl_law⟩)
    (c_law : PySem.W.codeIn K cd_law "law" = true)
    (k_law : PySem.W.keepIn K (.ref f_law_) = true)
    (hlaw : ∀ ns : List Int, ns.length ≤ 63 → ∃ S', finM m_law (S0 ns) = .ok (.bl true) S') :
    ∃ fd : FuncData, (∀ (s : Shared) (v : Value), BindsTo s fd ⟨[v], []⟩ [("_law_script", v)]) ∧ ∀ base : Heap, K.In base → base.Ns mainGlobals mg → FnOk P w K mg base (L2.CX P w) 35 fa fd ["_law_script"] (spL K) := by
  have e := hfa.symm.trans (PySem.W.mg_of X G a_law)
  cases e
  refine ⟨PySem.W.fnOf "law" "law" (defArgs s_law) (defBody s_law) (defScope s_law) .none kV_law dc_law pm_law an_law cd_law ct_law, fun s v => .of_eq rfl, fun base _ _ => ?_⟩
  have ox_BadBits : OexC K C_BadBits := ⟨⟨_, _, _, _, _, _, _, _, _, _, _, _, _, _, _, xL_BadBits, xb_BadBits⟩, sa_BadBits, eC_BadBits, tC_BadBits, kC_BadBits⟩
  have F_I_BadBits := fun_mk (st := s_exc_BadBits) lI_BadBits cI_BadBits kI_BadBits
  have b_I_BadBits := F_I_BadBits.binds (ps := ["self", "place"]) fun _ _ _ _ _ _ us hl => match us, hl with | [_, _], _ => rfl
  have E_BadBits : EI P w K mg base "BadBits" "place" := ⟨_, _, _, PySem.W.mg_of X G aC_BadBits, ox_BadBits, nf_BadBits, iI_BadBits, tI_BadBits, ok_exc F_I_BadBits sc_exc_BadBits rfl ox_BadBits nf_BadBits, b_I_BadBits⟩
  have ox_BadKind : OexC K C_BadKind := ⟨⟨_, _, _, _, _, _, _, _, _, _, _, _, _, _, _, xL_BadKind, xb_BadKind⟩, sa_BadKind, eC_BadKind, tC_BadKind, kC_BadKind⟩
  have F_I_BadKind := fun_mk (st := s_exc_BadKind) lI_BadKind cI_BadKind kI_BadKind
  have b_I_BadKind := F_I_BadKind.binds (ps := ["self", "kind"]) fun _ _ _ _ _ _ us hl => match us, hl with | [_, _], _ => rfl
  have E_BadKind : EI P w K mg base "BadKind" "kind" := ⟨_, _, _, PySem.W.mg_of X G aC_BadKind, ox_BadKind, nf_BadKind, iI_BadKind, tI_BadKind, ok_exc F_I_BadKind sc_exc_BadKind rfl ox_BadKind nf_BadKind, b_I_BadKind⟩
  have ox_BadMember : OexC K C_BadMember := ⟨⟨_, _, _, _, _, _, _, _, _, _, _, _, _, _, _, xL_BadMember, xb_BadMember⟩, sa_BadMember, eC_BadMember, tC_BadMember, kC_BadMember⟩
  have F_I_BadMember := fun_mk (st := s_exc_BadMember) lI_BadMember cI_BadMember kI_BadMember
  have b_I_BadMember := F_I_BadMember.binds (ps := ["self", "place"]) fun _ _ _ _ _ _ us hl => match us, hl with | [_, _], _ => rfl
  have E_BadMember : EI P w K mg base "BadMember" "place" := ⟨_, _, _, PySem.W.mg_of X G aC_BadMember, ox_BadMember, nf_BadMember, iI_BadMember, tI_BadMember, ok_exc F_I_BadMember sc_exc_BadMember rfl ox_BadMember nf_BadMember, b_I_BadMember⟩
  have ox_BadName : OexC K C_BadName := ⟨⟨_, _, _, _, _, _, _, _, _, _, _, _, _, _, _, xL_BadName, xb_BadName⟩, sa_BadName, eC_BadName, tC_BadName, kC_BadName⟩
  have F_I_BadName := fun_mk (st := s_exc_BadName) lI_BadName cI_BadName kI_BadName
  have b_I_BadName := F_I_BadName.binds (ps := ["self", "name"]) fun _ _ _ _ _ _ us hl => match us, hl with | [_, _], _ => rfl
  have E_BadName : EI P w K mg base "BadName" "name" := ⟨_, _, _, PySem.W.mg_of X G aC_BadName, ox_BadName, nf_BadName, iI_BadName, tI_BadName, ok_exc F_I_BadName sc_exc_BadName rfl ox_BadName nf_BadName, b_I_BadName⟩
  have ox_BadOption : OexC K C_BadOption := ⟨⟨_, _, _, _, _, _, _, _, _, _, _, _, _, _, _, xL_BadOption, xb_BadOption⟩, sa_BadOption, eC_BadOption, tC_BadOption, kC_BadOption⟩
  have F_I_BadOption := fun_mk (st := s_exc_BadOption) lI_BadOption cI_BadOption kI_BadOption
  have b_I_BadOption := F_I_BadOption.binds (ps := ["self", "name"]) fun _ _ _ _ _ _ us hl => match us, hl with | [_, _], _ => rfl
  have E_BadOption : EI P w K mg base "BadOption" "name" := ⟨_, _, _, PySem.W.mg_of X G aC_BadOption, ox_BadOption, nf_BadOption, iI_BadOption, tI_BadOption, ok_exc F_I_BadOption sc_exc_BadOption rfl ox_BadOption nf_BadOption, b_I_BadOption⟩
  have ox_BadPath : OexC K C_BadPath := ⟨⟨_, _, _, _, _, _, _, _, _, _, _, _, _, _, _, xL_BadPath, xb_BadPath⟩, sa_BadPath, eC_BadPath, tC_BadPath, kC_BadPath⟩
  have F_I_BadPath := fun_mk (st := s_exc_BadPath) lI_BadPath cI_BadPath kI_BadPath
  have b_I_BadPath := F_I_BadPath.binds (ps := ["self", "path"]) fun _ _ _ _ _ _ us hl => match us, hl with | [_, _], _ => rfl
  have E_BadPath : EI P w K mg base "BadPath" "path" := ⟨_, _, _, PySem.W.mg_of X G aC_BadPath, ox_BadPath, nf_BadPath, iI_BadPath, tI_BadPath, ok_exc F_I_BadPath sc_exc_BadPath rfl ox_BadPath nf_BadPath, b_I_BadPath⟩
  have X_BadBits : EX K mg "BadBits" "place" := ⟨_, PySem.W.mg_of X G aC_BadBits, exm_self eC_BadBits hd_BadBits tC_BadBits ex_BadBits, ⟨ga_BadBits, gg_BadBits, eC_BadBits, hd_BadBits⟩, nf_BadBits⟩
  have X_BadKind : EX K mg "BadKind" "kind" := ⟨_, PySem.W.mg_of X G aC_BadKind, exm_self eC_BadKind hd_BadKind tC_BadKind ex_BadKind, ⟨ga_BadKind, gg_BadKind, eC_BadKind, hd_BadKind⟩, nf_BadKind⟩
  have X_BadMember : EX K mg "BadMember" "place" := ⟨_, PySem.W.mg_of X G aC_BadMember, exm_self eC_BadMember hd_BadMember tC_BadMember ex_BadMember, ⟨ga_BadMember, gg_BadMember, eC_BadMember, hd_BadMember⟩, nf_BadMember⟩
  have X_BadName : EX K mg "BadName" "name" := ⟨_, PySem.W.mg_of X G aC_BadName, exm_self eC_BadName hd_BadName tC_BadName ex_BadName, ⟨ga_BadName, gg_BadName, eC_BadName, hd_BadName⟩, nf_BadName⟩
  have X_BadOption : EX K mg "BadOption" "name" := ⟨_, PySem.W.mg_of X G aC_BadOption, exm_self eC_BadOption hd_BadOption tC_BadOption ex_BadOption, ⟨ga_BadOption, gg_BadOption, eC_BadOption, hd_BadOption⟩, nf_BadOption⟩
  have N_BadBits_BadKind : NX K mg "BadBits" "BadKind" := nx_of (PySem.W.mg_of X G aC_BadBits) (PySem.W.mg_of X G aC_BadKind) (exm_self eC_BadKind hd_BadKind tC_BadKind ne_BadBits_BadKind)
  have N_BadBits_BadMember : NX K mg "BadBits" "BadMember" := nx_of (PySem.W.mg_of X G aC_BadBits) (PySem.W.mg_of X G aC_BadMember) (exm_self eC_BadMember hd_BadMember tC_BadMember ne_BadBits_BadMember)
  have N_BadBits_BadName : NX K mg "BadBits" "BadName" := nx_of (PySem.W.mg_of X G aC_BadBits) (PySem.W.mg_of X G aC_BadName) (exm_self eC_BadName hd_BadName tC_BadName ne_BadBits_BadName)
  have N_BadBits_BadOption : NX K mg "BadBits" "BadOption" := nx_of (PySem.W.mg_of X G aC_BadBits) (PySem.W.mg_of X G aC_BadOption) (exm_self eC_BadOption hd_BadOption tC_BadOption ne_BadBits_BadOption)
  have N_BadKind_BadBits : NX K mg "BadKind" "BadBits" := nx_of (PySem.W.mg_of X G aC_BadKind) (PySem.W.mg_of X G aC_BadBits) (exm_self eC_BadBits hd_BadBits tC_BadBits ne_BadKind_BadBits)
  have N_BadKind_BadMember : NX K mg "BadKind" "BadMember" := nx_of (PySem.W.mg_of X G aC_BadKind) (PySem.W.mg_of X G aC_BadMember) (exm_self eC_BadMember hd_BadMember tC_BadMember ne_BadKind_BadMember)
  have N_BadKind_BadName : NX K mg "BadKind" "BadName" := nx_of (PySem.W.mg_of X G aC_BadKind) (PySem.W.mg_of X G aC_BadName) (exm_self eC_BadName hd_BadName tC_BadName ne_BadKind_BadName)
  have N_BadKind_BadOption : NX K mg "BadKind" "BadOption" := nx_of (PySem.W.mg_of X G aC_BadKind) (PySem.W.mg_of X G aC_BadOption) (exm_self eC_BadOption hd_BadOption tC_BadOption ne_BadKind_BadOption)
  have N_BadMember_BadBits : NX K mg "BadMember" "BadBits" := nx_of (PySem.W.mg_of X G aC_BadMember) (PySem.W.mg_of X G aC_BadBits) (exm_self eC_BadBits hd_BadBits tC_BadBits ne_BadMember_BadBits)
  have N_BadMember_BadKind : NX K mg "BadMember" "BadKind" := nx_of (PySem.W.mg_of X G aC_BadMember) (PySem.W.mg_of X G aC_BadKind) (exm_self eC_BadKind hd_BadKind tC_BadKind ne_BadMember_BadKind)
  have N_BadMember_BadName : NX K mg "BadMember" "BadName" := nx_of (PySem.W.mg_of X G aC_BadMember) (PySem.W.mg_of X G aC_BadName) (exm_self eC_BadName hd_BadName tC_BadName ne_BadMember_BadName)
  have N_BadMember_BadOption : NX K mg "BadMember" "BadOption" := nx_of (PySem.W.mg_of X G aC_BadMember) (PySem.W.mg_of X G aC_BadOption) (exm_self eC_BadOption hd_BadOption tC_BadOption ne_BadMember_BadOption)
  have N_BadName_BadBits : NX K mg "BadName" "BadBits" := nx_of (PySem.W.mg_of X G aC_BadName) (PySem.W.mg_of X G aC_BadBits) (exm_self eC_BadBits hd_BadBits tC_BadBits ne_BadName_BadBits)
  have N_BadName_BadKind : NX K mg "BadName" "BadKind" := nx_of (PySem.W.mg_of X G aC_BadName) (PySem.W.mg_of X G aC_BadKind) (exm_self eC_BadKind hd_BadKind tC_BadKind ne_BadName_BadKind)
  have N_BadName_BadMember : NX K mg "BadName" "BadMember" := nx_of (PySem.W.mg_of X G aC_BadName) (PySem.W.mg_of X G aC_BadMember) (exm_self eC_BadMember hd_BadMember tC_BadMember ne_BadName_BadMember)
  have N_BadName_BadOption : NX K mg "BadName" "BadOption" := nx_of (PySem.W.mg_of X G aC_BadName) (PySem.W.mg_of X G aC_BadOption) (exm_self eC_BadOption hd_BadOption tC_BadOption ne_BadName_BadOption)
  have N_BadOption_BadBits : NX K mg "BadOption" "BadBits" := nx_of (PySem.W.mg_of X G aC_BadOption) (PySem.W.mg_of X G aC_BadBits) (exm_self eC_BadBits hd_BadBits tC_BadBits ne_BadOption_BadBits)
  have N_BadOption_BadKind : NX K mg "BadOption" "BadKind" := nx_of (PySem.W.mg_of X G aC_BadOption) (PySem.W.mg_of X G aC_BadKind) (exm_self eC_BadKind hd_BadKind tC_BadKind ne_BadOption_BadKind)
  have N_BadOption_BadMember : NX K mg "BadOption" "BadMember" := nx_of (PySem.W.mg_of X G aC_BadOption) (PySem.W.mg_of X G aC_BadMember) (exm_self eC_BadMember hd_BadMember tC_BadMember ne_BadOption_BadMember)
  have N_BadOption_BadName : NX K mg "BadOption" "BadName" := nx_of (PySem.W.mg_of X G aC_BadOption) (PySem.W.mg_of X G aC_BadName) (exm_self eC_BadName hd_BadName tC_BadName ne_BadOption_BadName)
  have ci_Layout : CI K mg "Layout" C_Layout := ⟨PySem.W.mg_of X G aC_Layout, ⟨pg_Layout, hd_Layout, po_Layout, sa_Layout⟩⟩
  have na_Layout_extent : NA K mg "Layout" "extent" := ⟨_, ci_Layout, nna_Layout_extent⟩
  have na_Layout_order : NA K mg "Layout" "order" := ⟨_, ci_Layout, nna_Layout_order⟩
  have na_Layout_positions : NA K mg "Layout" "positions" := ⟨_, ci_Layout, nna_Layout_positions⟩
  have na_Layout_rows : NA K mg "Layout" "rows" := ⟨_, ci_Layout, nna_Layout_rows⟩
  have na_Layout_rule : NA K mg "Layout" "rule" := ⟨_, ci_Layout, nna_Layout_rule⟩
  have na_Layout_step : NA K mg "Layout" "step" := ⟨_, ci_Layout, nna_Layout_step⟩
  have tg_Shape : TgtF K mg "Shape" := ⟨_, PySem.W.mg_of X G aC_Shape, ic_Shape, ty_Shape⟩
  have TF : TabF K mg tgtC tabC := (tab_cons (insF_mk ci_Layout kf_Layout ks_Layout kt_Layout kr_Layout kbool_Layout kint_Layout kstr_Layout klist_Layout ktuple_Layout kdict_Layout (tgt_consB (by decide) (PySem.W.mg_of X G aC_Shape) (kitOne_own ic_Shape ty_Shape kx_Layout_Shape ke_Layout_Shape) tgt_nil)) tab_nil)
  have co_ALIGNS : CO K mg "ALIGNS" c_ALIGNS := co_tup (PySem.W.mg_of X G ac_ALIGNS) lc_ALIGNS (by have := vc_ALIGNS.length; simp at this; rw [sizeLine_eq]; omega) vc_ALIGNS (fun _ _ => (.cons (.int _) (.cons (.int _) (.cons (.int _) (.cons (.int _) (.cons (.int _) (.cons (.int _) .nil)))))))
  have co_CONVENTIONS : CO K mg "CONVENTIONS" c_CONVENTIONS := co_tup (PySem.W.mg_of X G ac_CONVENTIONS) lc_CONVENTIONS (by have := vc_CONVENTIONS.length; simp at this; rw [sizeLine_eq]; omega) vc_CONVENTIONS (fun _ _ => (.cons (.str _) (.cons (.str _) .nil)))
  have co_DIGITS : CO K mg "DIGITS" c_DIGITS := co_str (PySem.W.mg_of X G ac_DIGITS)
  have co_ENDS : CO K mg "ENDS" c_ENDS := co_tup (PySem.W.mg_of X G ac_ENDS) lc_ENDS (by have := vc_ENDS.length; simp at this; rw [sizeLine_eq]; omega) vc_ENDS (fun _ _ => (.cons (.str _) (.cons (.str _) .nil)))
  have co_LETTERS : CO K mg "LETTERS" c_LETTERS := co_str (PySem.W.mg_of X G ac_LETTERS)
  have co_PACKS : CO K mg "PACKS" c_PACKS := co_tup (PySem.W.mg_of X G ac_PACKS) lc_PACKS (by have := vc_PACKS.length; simp at this; rw [sizeLine_eq]; omega) vc_PACKS (fun _ _ => (.cons (.int _) (.cons (.int _) (.cons (.int _) (.cons (.int _) (.cons (.int _) .nil))))))
  have co_SIZES : CO K mg "SIZES" c_SIZES := co_tup (PySem.W.mg_of X G ac_SIZES) lc_SIZES (by have := vc_SIZES.length; simp at this; rw [sizeLine_eq]; omega) vc_SIZES (fun _ _ => (.cons (.int _) (.cons (.int _) (.cons (.int _) (.cons (.int _) .nil)))))
  have B : Bi mg := ⟨PySem.W.mg_none_of X G z_all, PySem.W.mg_none_of X G z_bool, PySem.W.mg_none_of X G z_dict, PySem.W.mg_none_of X G z_enumerate, PySem.W.mg_none_of X G z_int, PySem.W.mg_none_of X G z_isinstance, PySem.W.mg_none_of X G z_len, PySem.W.mg_none_of X G z_list, PySem.W.mg_none_of X G z_max, PySem.W.mg_none_of X G z_min, PySem.W.mg_none_of X G z_range, PySem.W.mg_none_of X G z_str, PySem.W.mg_none_of X G z_sum, PySem.W.mg_none_of X G z_tuple, PySem.W.mg_none_of X G z_zip⟩
  have F_draw := fun_mk (st := s_draw) l_draw c_draw k_draw
  have b_draw := F_draw.binds (ps := ["_law_stream", "_law_count"]) fun _ _ _ _ _ _ us hl => match us, hl with | [_, _], _ => rfl
  have I_draw : FI P w K mg base "_law_draw" ["_law_stream", "_law_count"] 1 (ar2 drawD) := ⟨_, _, PySem.W.mg_of X G a_draw, k_draw, b_draw, ok_draw F_draw B.b_int⟩
  have F_eplainB := fun_mk (st := s_eplainB) l_eplainB c_eplainB k_eplainB
  have b_eplainB := F_eplainB.binds (ps := ["_law_is_union"]) fun _ _ _ _ _ _ us hl => match us, hl with | [_], _ => rfl
  have I_eplainB := wk_eplainB (P := P) (w := w) (base := base) F_eplainB (PySem.W.mg_of X G a_eplainB) k_eplainB b_eplainB 
  have F_is_word_of := fun_mk (st := s_is_word_of) l_is_word_of c_is_word_of k_is_word_of
  have b_is_word_of := F_is_word_of.binds (ps := ["thing", "some"]) fun _ _ _ _ _ _ us hl => match us, hl with | [_, _], _ => rfl
  have I_is_word_of := wk_is_word_of (P := P) (w := w) (base := base) F_is_word_of (PySem.W.mg_of X G a_is_word_of) k_is_word_of b_is_word_of TF B
  have F_is_integer := fun_mk (st := s_is_integer) l_is_integer c_is_integer k_is_integer
  have b_is_integer := F_is_integer.binds (ps := ["thing"]) fun _ _ _ _ _ _ us hl => match us, hl with | [_], _ => rfl
  have I_is_integer := wk_is_integer (P := P) (w := w) (base := base) F_is_integer (PySem.W.mg_of X G a_is_integer) k_is_integer b_is_integer TF B
  have F_is_number_of := fun_mk (st := s_is_number_of) l_is_number_of c_is_number_of k_is_number_of
  have b_is_number_of := F_is_number_of.binds (ps := ["thing", "some"]) fun _ _ _ _ _ _ us hl => match us, hl with | [_, _], _ => rfl
  have I_is_number_of := wk_is_number_of (P := P) (w := w) (base := base) F_is_number_of (PySem.W.mg_of X G a_is_number_of) k_is_number_of b_is_number_of I_is_integer
  have F_checked_options := fun_mk (st := s_checked_options) l_checked_options c_checked_options k_checked_options
  have b_checked_options := F_checked_options.binds (ps := ["convention", "pack", "align", "ends"]) fun _ _ _ _ _ _ us hl => match us, hl with | [_, _, _, _], _ => rfl
  have I_checked_options := wk_checked_options (P := P) (w := w) (base := base) F_checked_options (PySem.W.mg_of X G a_checked_options) k_checked_options b_checked_options co_CONVENTIONS I_is_word_of E_BadOption co_PACKS I_is_number_of co_ALIGNS co_ENDS
  have F_is_row := fun_mk (st := s_is_row) l_is_row c_is_row k_is_row
  have b_is_row := F_is_row.binds (ps := ["thing"]) fun _ _ _ _ _ _ us hl => match us, hl with | [_], _ => rfl
  have I_is_row := wk_is_row (P := P) (w := w) (base := base) F_is_row (PySem.W.mg_of X G a_is_row) k_is_row b_is_row TF B
  have F_is_integer_kind := fun_mk (st := s_is_integer_kind) l_is_integer_kind c_is_integer_kind k_is_integer_kind
  have b_is_integer_kind := F_is_integer_kind.binds (ps := ["kind"]) fun _ _ _ _ _ _ us hl => match us, hl with | [_], _ => rfl
  have I_is_integer_kind := wk_is_integer_kind (P := P) (w := w) (base := base) F_is_integer_kind (PySem.W.mg_of X G a_is_integer_kind) k_is_integer_kind b_is_integer_kind I_is_row B TF co_SIZES I_is_number_of
  have F_is_array_kind := fun_mk (st := s_is_array_kind) l_is_array_kind c_is_array_kind k_is_array_kind
  have b_is_array_kind := F_is_array_kind.binds (ps := ["kind"]) fun _ _ _ _ _ _ us hl => match us, hl with | [_], _ => rfl
  have I_is_array_kind := wk_is_array_kind (P := P) (w := w) (base := base) F_is_array_kind (PySem.W.mg_of X G a_is_array_kind) k_is_array_kind b_is_array_kind I_is_row B TF I_is_integer
  have F_checked_kind := fun_mk (st := s_checked_kind) l_checked_kind c_checked_kind k_checked_kind
  have b_checked_kind := F_checked_kind.binds (ps := ["kind"]) fun _ _ _ _ _ _ us hl => match us, hl with | [_], _ => rfl
  have I_checked_kind := wk_checked_kind (P := P) (w := w) (base := base) F_checked_kind (PySem.W.mg_of X G a_checked_kind) k_checked_kind b_checked_kind TF tg_Shape B I_is_integer_kind I_is_array_kind E_BadKind
  have F_is_name := fun_mk (st := s_is_name) l_is_name c_is_name k_is_name
  have b_is_name := F_is_name.binds (ps := ["thing"]) fun _ _ _ _ _ _ us hl => match us, hl with | [_], _ => rfl
  have I_is_name := wk_is_name (P := P) (w := w) (base := base) F_is_name (PySem.W.mg_of X G a_is_name) k_is_name b_is_name TF B co_DIGITS co_LETTERS
  have F_checked_member := fun_mk (st := s_checked_member) l_checked_member c_checked_member k_checked_member
  have b_checked_member := F_checked_member.binds (ps := ["place", "member"]) fun _ _ _ _ _ _ us hl => match us, hl with | [_, _], _ => rfl
  have I_checked_member := wk_checked_member (P := P) (w := w) (base := base) F_checked_member (PySem.W.mg_of X G a_checked_member) k_checked_member b_checked_member I_is_row B I_is_name E_BadMember I_checked_kind TF tg_Shape I_is_integer_kind I_is_integer E_BadBits
  have F_checked_members := fun_mk (st := s_checked_members) l_checked_members c_checked_members k_checked_members
  have b_checked_members := F_checked_members.binds (ps := ["members"]) fun _ _ _ _ _ _ us hl => match us, hl with | [_], _ => rfl
  have I_checked_members := wk_checked_members (P := P) (w := w) (base := base) F_checked_members (PySem.W.mg_of X G a_checked_members) k_checked_members b_checked_members B I_checked_member
  have F_names_of := fun_mk (st := s_names_of) l_names_of c_names_of k_names_of
  have b_names_of := F_names_of.binds (ps := ["rows"]) fun _ _ _ _ _ _ us hl => match us, hl with | [_], _ => rfl
  have I_names_of := wk_names_of (P := P) (w := w) (base := base) F_names_of (PySem.W.mg_of X G a_names_of) k_names_of b_names_of na_Layout_rows
  have F_checked_names := fun_mk (st := s_checked_names) l_checked_names c_checked_names k_checked_names
  have b_checked_names := F_checked_names.binds (ps := ["rows"]) fun _ _ _ _ _ _ us hl => match us, hl with | [_], _ => rfl
  have I_checked_names := wk_checked_names (P := P) (w := w) (base := base) F_checked_names (PySem.W.mg_of X G a_checked_names) k_checked_names b_checked_names I_names_of E_BadName
  have F_up := fun_mk (st := s_up) l_up c_up k_up
  have b_up := F_up.binds (ps := ["number", "step"]) fun _ _ _ _ _ _ us hl => match us, hl with | [_, _], _ => rfl
  have I_up := wk_up (P := P) (w := w) (base := base) F_up (PySem.W.mg_of X G a_up) k_up b_up 
  have F_Layout_init := fun_mk (st := s_Layout_init) l_Layout_init c_Layout_init k_Layout_init
  have b_Layout_init := F_Layout_init.binds (ps := ["self", "rows", "laid", "convention", "align", "ends"]) fun _ _ _ _ _ _ us hl => match us, hl with | [_, _, _, _, _, _], _ => rfl
  have I_Layout_init := wk_Layout_init (P := P) (w := w) (base := base) F_Layout_init ci_Layout ⟨mk_Layout, a_Layout_init, i_Layout_init, kc_Layout⟩ b_Layout_init B na_Layout_step I_up na_Layout_order na_Layout_rule na_Layout_extent na_Layout_positions na_Layout_rows
  have F_Layout_size := fun_mk (st := s_Layout_size) l_Layout_size c_Layout_size k_Layout_size
  have b_Layout_size := F_Layout_size.binds (ps := ["self"]) fun _ _ _ _ _ _ us hl => match us, hl with | [_], _ => rfl
  have I_Layout_size := wk_Layout_size (P := P) (w := w) (base := base) F_Layout_size ci_Layout ⟨a_Layout_size, pg_Layout_size, pt_Layout_size, _, pr_Layout_sizeh⟩ b_Layout_size na_Layout_extent
  have F_size_of := fun_mk (st := s_size_of) l_size_of c_size_of k_size_of
  have b_size_of := F_size_of.binds (ps := ["kind"]) fun _ _ _ _ _ _ us hl => match us, hl with | [_], _ => rfl
  have I_size_of := wk_size_of (P := P) (w := w) (base := base) F_size_of (PySem.W.mg_of X G a_size_of) k_size_of b_size_of TF tg_Shape B I_Layout_size
  have F_Layout_alignment := fun_mk (st := s_Layout_alignment) l_Layout_alignment c_Layout_alignment k_Layout_alignment
  have b_Layout_alignment := F_Layout_alignment.binds (ps := ["self"]) fun _ _ _ _ _ _ us hl => match us, hl with | [_], _ => rfl
  have I_Layout_alignment := wk_Layout_alignment (P := P) (w := w) (base := base) F_Layout_alignment ci_Layout ⟨a_Layout_alignment, pg_Layout_alignment, pt_Layout_alignment, _, pr_Layout_alignmenth⟩ b_Layout_alignment na_Layout_step
  have F_alignment_of := fun_mk (st := s_alignment_of) l_alignment_of c_alignment_of k_alignment_of
  have b_alignment_of := F_alignment_of.binds (ps := ["kind"]) fun _ _ _ _ _ _ us hl => match us, hl with | [_], _ => rfl
  have I_alignment_of := wk_alignment_of (P := P) (w := w) (base := base) F_alignment_of (PySem.W.mg_of X G a_alignment_of) k_alignment_of b_alignment_of TF tg_Shape B I_Layout_alignment
  have F_step_of := fun_mk (st := s_step_of) l_step_of c_step_of k_step_of
  have b_step_of := F_step_of.binds (ps := ["kind", "pack"]) fun _ _ _ _ _ _ us hl => match us, hl with | [_, _], _ => rfl
  have I_step_of := wk_step_of (P := P) (w := w) (base := base) F_step_of (PySem.W.mg_of X G a_step_of) k_step_of b_step_of I_alignment_of B
  have F_msvc_union := fun_mk (st := s_msvc_union) l_msvc_union c_msvc_union k_msvc_union
  have b_msvc_union := F_msvc_union.binds (ps := ["rows", "pack"]) fun _ _ _ _ _ _ us hl => match us, hl with | [_, _], _ => rfl
  have I_msvc_union := wk_msvc_union (P := P) (w := w) (base := base) F_msvc_union (PySem.W.mg_of X G a_msvc_union) k_msvc_union b_msvc_union I_size_of B I_step_of
  have F_msvc_structure := fun_mk (st := s_msvc_structure) l_msvc_structure c_msvc_structure k_msvc_structure
  have b_msvc_structure := F_msvc_structure.binds (ps := ["rows", "pack"]) fun _ _ _ _ _ _ us hl => match us, hl with | [_, _], _ => rfl
  have I_msvc_structure := wk_msvc_structure (P := P) (w := w) (base := base) F_msvc_structure (PySem.W.mg_of X G a_msvc_structure) k_msvc_structure b_msvc_structure I_step_of I_size_of I_up B
  have F_counts := fun_mk (st := s_counts) l_counts c_counts k_counts
  have b_counts := F_counts.binds (ps := ["name", "bits"]) fun _ _ _ _ _ _ us hl => match us, hl with | [_, _], _ => rfl
  have I_counts := wk_counts (P := P) (w := w) (base := base) F_counts (PySem.W.mg_of X G a_counts) k_counts b_counts 
  have F_sysv_union := fun_mk (st := s_sysv_union) l_sysv_union c_sysv_union k_sysv_union
  have b_sysv_union := F_sysv_union.binds (ps := ["rows", "pack"]) fun _ _ _ _ _ _ us hl => match us, hl with | [_, _], _ => rfl
  have I_sysv_union := wk_sysv_union (P := P) (w := w) (base := base) F_sysv_union (PySem.W.mg_of X G a_sysv_union) k_sysv_union b_sysv_union I_size_of I_up B I_counts I_step_of
  have F_is_moved := fun_mk (st := s_is_moved) l_is_moved c_is_moved k_is_moved
  have b_is_moved := F_is_moved.binds (ps := ["position", "kind", "bits", "pack"]) fun _ _ _ _ _ _ us hl => match us, hl with | [_, _, _, _], _ => rfl
  have I_is_moved := wk_is_moved (P := P) (w := w) (base := base) F_is_moved (PySem.W.mg_of X G a_is_moved) k_is_moved b_is_moved I_size_of
  have F_sysv_structure := fun_mk (st := s_sysv_structure) l_sysv_structure c_sysv_structure k_sysv_structure
  have b_sysv_structure := F_sysv_structure.binds (ps := ["rows", "pack"]) fun _ _ _ _ _ _ us hl => match us, hl with | [_, _], _ => rfl
  have I_sysv_structure := wk_sysv_structure (P := P) (w := w) (base := base) F_sysv_structure (PySem.W.mg_of X G a_sysv_structure) k_sysv_structure b_sysv_structure I_step_of I_is_moved I_up I_size_of I_counts B
  have F_layout_of := fun_mk (st := s_layout_of) l_layout_of c_layout_of k_layout_of
  have b_layout_of := F_layout_of.binds (ps := ["members", "convention", "pack", "align", "ends", "is_union"]) fun _ _ _ _ _ _ us hl => match us, hl with | [_, _, _, _, _, _], _ => rfl
  have I_layout_of := wk_layout_of (P := P) (w := w) (base := base) F_layout_of (PySem.W.mg_of X G a_layout_of) k_layout_of b_layout_of I_checked_options I_checked_members I_checked_names I_msvc_union I_msvc_structure I_sysv_union I_sysv_structure I_Layout_init
  have F_struct := funD_mk (st := s_struct) (kws := [("convention", V.str "sysv"), ("pack", V.non), ("align", V.non), ("ends", V.str "little")]) l_struct c_struct k_struct (kwq_cons (v := .str "sysv") w_struct_convention ⟨_, rfl⟩ (kwq_cons (v := .non) w_struct_pack rfl (kwq_cons (v := .non) w_struct_align rfl (kwq_cons (v := .str "little") w_struct_ends ⟨_, rfl⟩ kwq_nil))))
  have O_struct := wk_struct (P := P) (w := w) (base := base) F_struct I_layout_of
  have K_struct_1_convention_pack_align_ends : FKI P w K mg base "struct" ["members", "convention", "pack", "align", "ends"] 20 (ar5 f_struct) 1 ["convention", "pack", "align", "ends"] (fun ds zs => permG [.pos 0, .kw 0, .kw 1, .kw 2, .kw 3] ds [] zs) := fki_mk [] F_struct (PySem.W.mg_of X G a_struct) O_struct (by simp) (by simp) .nil rfl rfl (fun D doc pm an cdv ct us mv ws h1 h2 h3 => match us, mv, ws, h1, h2, h3 with | [_], [], [_, _, _, _], _, _, _ => rfl)
  have F_union := funD_mk (st := s_union) (kws := [("convention", V.str "sysv"), ("pack", V.non), ("align", V.non), ("ends", V.str "little")]) l_union c_union k_union (kwq_cons (v := .str "sysv") w_union_convention ⟨_, rfl⟩ (kwq_cons (v := .non) w_union_pack rfl (kwq_cons (v := .non) w_union_align rfl (kwq_cons (v := .str "little") w_union_ends ⟨_, rfl⟩ kwq_nil))))
  have O_union := wk_union (P := P) (w := w) (base := base) F_union I_layout_of
  have K_union_1_convention_pack_align_ends : FKI P w K mg base "union" ["members", "convention", "pack", "align", "ends"] 20 (ar5 f_union) 1 ["convention", "pack", "align", "ends"] (fun ds zs => permG [.pos 0, .kw 0, .kw 1, .kw 2, .kw 3] ds [] zs) := fki_mk [] F_union (PySem.W.mg_of X G a_union) O_union (by simp) (by simp) .nil rfl rfl (fun D doc pm an cdv ct us mv ws h1 h2 h3 => match us, mv, ws, h1, h2, h3 with | [_], [], [_, _, _, _], _, _, _ => rfl)
  have F_edeclared := fun_mk (st := s_edeclared) l_edeclared c_edeclared k_edeclared
  have b_edeclared := F_edeclared.binds (ps := ["_law_rows", "_law_plan"]) fun _ _ _ _ _ _ us hl => match us, hl with | [_, _], _ => rfl
  have I_edeclared := wk_edeclared (P := P) (w := w) (base := base) F_edeclared (PySem.W.mg_of X G a_edeclared) k_edeclared b_edeclared K_union_1_convention_pack_align_ends K_struct_1_convention_pack_align_ends
  have F_etried := fun_mk (st := s_etried) l_etried c_etried k_etried
  have b_etried := F_etried.binds (ps := ["_law_members_here", "_law_plan"]) fun _ _ _ _ _ _ us hl => match us, hl with | [_, _], _ => rfl
  have I_etried := wk_etried (P := P) (w := w) (base := base) F_etried (PySem.W.mg_of X G a_etried) k_etried b_etried I_edeclared X_BadOption N_BadName_BadOption N_BadBits_BadOption N_BadKind_BadOption N_BadMember_BadOption X_BadMember N_BadName_BadMember N_BadBits_BadMember N_BadKind_BadMember N_BadOption_BadMember X_BadKind N_BadName_BadKind N_BadBits_BadKind N_BadMember_BadKind N_BadOption_BadKind X_BadBits N_BadName_BadBits N_BadKind_BadBits N_BadMember_BadBits N_BadOption_BadBits X_BadName N_BadBits_BadName N_BadKind_BadName N_BadMember_BadName N_BadOption_BadName
  have F_erow_names := fun_mk (st := s_erow_names) l_erow_names c_erow_names k_erow_names
  have b_erow_names := F_erow_names.binds (ps := ["_law_row"]) fun _ _ _ _ _ _ us hl => match us, hl with | [_], _ => rfl
  have I_erow_names := wk_erow_names (P := P) (w := w) (base := base) F_erow_names (PySem.W.mg_of X G a_erow_names) k_erow_names b_erow_names TF B
  have F_pick := fun_mk (st := s_pick) l_pick c_pick k_pick
  have b_pick := F_pick.binds (ps := ["_law_stream", "_law_some"]) fun _ _ _ _ _ _ us hl => match us, hl with | [_, _], _ => rfl
  have I_pick := wk_pick (P := P) (w := w) (base := base) F_pick (PySem.W.mg_of X G a_pick) k_pick b_pick B I_draw
  have F_enamed_plan := fun_mk (st := s_enamed_plan) l_enamed_plan c_enamed_plan k_enamed_plan
  have b_enamed_plan := F_enamed_plan.binds (ps := ["_law_stream", "_law_deep"]) fun _ _ _ _ _ _ us hl => match us, hl with | [_, _], _ => rfl
  have F_enamed_rows := fun_mk (st := s_enamed_rows) l_enamed_rows c_enamed_rows k_enamed_rows
  have b_enamed_rows := F_enamed_rows.binds (ps := ["_law_stream", "_law_deep", "_law_is_free"]) fun _ _ _ _ _ _ us hl => match us, hl with | [_, _, _], _ => rfl
  have G_enamed_plan := wk_enamed_plan (P := P) (w := w) (base := base) F_enamed_plan (PySem.W.mg_of X G a_enamed_plan) k_enamed_plan b_enamed_plan F_enamed_rows (PySem.W.mg_of X G a_enamed_rows) k_enamed_rows b_enamed_rows I_draw I_eplainB B I_pick I_erow_names
  have I_enamed_plan := fun n => (G_enamed_plan n).1
  have I_enamed_rows := fun n => (G_enamed_plan n).2
  have F_ebuilt := fun_mk (st := s_ebuilt) l_ebuilt c_ebuilt k_ebuilt
  have b_ebuilt := F_ebuilt.binds (ps := ["_law_plan"]) fun _ _ _ _ _ _ us hl => match us, hl with | [_], _ => rfl
  have F_emembers := fun_mk (st := s_emembers) l_emembers c_emembers k_emembers
  have b_emembers := F_emembers.binds (ps := ["_law_plan"]) fun _ _ _ _ _ _ us hl => match us, hl with | [_], _ => rfl
  have G_ebuilt := wk_ebuilt (P := P) (w := w) (base := base) F_ebuilt (PySem.W.mg_of X G a_ebuilt) k_ebuilt b_ebuilt F_emembers (PySem.W.mg_of X G a_emembers) k_emembers b_emembers TF B I_edeclared
  have I_ebuilt := fun n => (G_ebuilt n).1
  have I_emembers := fun n => (G_ebuilt n).2
  have F_Layout_ends := fun_mk (st := s_Layout_ends) l_Layout_ends c_Layout_ends k_Layout_ends
  have b_Layout_ends := F_Layout_ends.binds (ps := ["self"]) fun _ _ _ _ _ _ us hl => match us, hl with | [_], _ => rfl
  have I_Layout_ends := wk_Layout_ends (P := P) (w := w) (base := base) F_Layout_ends ci_Layout ⟨a_Layout_ends, pg_Layout_ends, pt_Layout_ends, _, pr_Layout_endsh⟩ b_Layout_ends na_Layout_order
  have F_row_named := fun_mk (st := s_row_named) l_row_named c_row_named k_row_named
  have b_row_named := F_row_named.binds (ps := ["layout", "name"]) fun _ _ _ _ _ _ us hl => match us, hl with | [_, _], _ => rfl
  have I_row_named := wk_row_named (P := P) (w := w) (base := base) F_row_named (PySem.W.mg_of X G a_row_named) k_row_named b_row_named na_Layout_rows na_Layout_positions B I_Layout_ends
  have F_step_from := fun_mk (st := s_step_from) l_step_from c_step_from k_step_from
  have b_step_from := F_step_from.binds (ps := ["spot", "step"]) fun _ _ _ _ _ _ us hl => match us, hl with | [_, _], _ => rfl
  have I_step_from := wk_step_from (P := P) (w := w) (base := base) F_step_from (PySem.W.mg_of X G a_step_from) k_step_from b_step_from TF tg_Shape B I_row_named I_is_integer I_size_of
  have F_lead := fun_mk (st := s_lead) l_lead c_lead k_lead
  have b_lead := F_lead.binds (ps := ["kind", "path", "ends"]) fun _ _ _ _ _ _ us hl => match us, hl with | [_, _, _], _ => rfl
  have I_lead := wk_lead (P := P) (w := w) (base := base) F_lead (PySem.W.mg_of X G a_lead) k_lead b_lead I_is_row I_step_from
  have F_spot_of := fun_mk (st := s_spot_of) l_spot_of c_spot_of k_spot_of
  have b_spot_of := F_spot_of.binds (ps := ["layout", "path"]) fun _ _ _ _ _ _ us hl => match us, hl with | [_, _], _ => rfl
  have I_spot_of := wk_spot_of (P := P) (w := w) (base := base) F_spot_of (PySem.W.mg_of X G a_spot_of) k_spot_of b_spot_of I_lead
  have F_Layout_checked_spot := fun_mk (st := s_Layout_checked_spot) l_Layout_checked_spot c_Layout_checked_spot k_Layout_checked_spot
  have b_Layout_checked_spot := F_Layout_checked_spot.binds (ps := ["self", "path"]) fun _ _ _ _ _ _ us hl => match us, hl with | [_, _], _ => rfl
  have I_Layout_checked_spot := wk_Layout_checked_spot (P := P) (w := w) (base := base) F_Layout_checked_spot ci_Layout ⟨a_Layout_checked_spot, i_Layout_checked_spot, k_Layout_checked_spot⟩ b_Layout_checked_spot I_spot_of E_BadPath
  have F_is_number_kind := fun_mk (st := s_is_number_kind) l_is_number_kind c_is_number_kind k_is_number_kind
  have b_is_number_kind := F_is_number_kind.binds (ps := ["what"]) fun _ _ _ _ _ _ us hl => match us, hl with | [_], _ => rfl
  have I_is_number_kind := wk_is_number_kind (P := P) (w := w) (base := base) F_is_number_kind (PySem.W.mg_of X G a_is_number_kind) k_is_number_kind b_is_number_kind TF tg_Shape B
  have F_Layout_octet_at := fun_mk (st := s_Layout_octet_at) l_Layout_octet_at c_Layout_octet_at k_Layout_octet_at
  have b_Layout_octet_at := F_Layout_octet_at.binds (ps := ["self", "path"]) fun _ _ _ _ _ _ us hl => match us, hl with | [_, _], _ => rfl
  have I_Layout_octet_at := wk_Layout_octet_at (P := P) (w := w) (base := base) F_Layout_octet_at ci_Layout ⟨a_Layout_octet_at, i_Layout_octet_at, k_Layout_octet_at⟩ b_Layout_octet_at I_Layout_checked_spot I_is_number_kind E_BadPath
  have F_law := fun_mk (st := s_law) l_law c_law k_law
  exact ok_law F_law B I_draw I_eplainB I_enamed_rows I_erow_names I_emembers I_etried I_Layout_octet_at hlaw
theorem walk {l : PySem.W.OpenLaw} {q : Program} {loose : List Str} {XP : (Str → Option Value) → Heap → Prop} {YP : World → Heap → Prop} {d : DefRec} {K : Params → PySem.W.Frag} (hn : l.most = some 63) (hdf : d.params.defaults = [])
    (hY : ∀ (w : World) (h : Heap), YP w h → (K w.params).In h)
    (F : ∀ (w : World) (mg : Str → Option Value) (fa : Addr) (h : Heap), (K w.params).In h → h.Ns mainGlobals mg → mg d.name = some (.ref fa) →
      ∃ fd : FuncData, (∀ (s : Shared) (u : Value), BindsTo s fd ⟨[u], []⟩ [("_law_script", u)]) ∧ ∀ base : Heap, (K w.params).In base → base.Ns mainGlobals mg → FnOk l.prog w (K w.params) mg base (L2.CX l.prog w) 35 fa fd ["_law_script"] (spL (K w.params))) :
    PySem.W.WalkO q loose XP YP l.row.toRowW d [] (fun f vs => PySem.call f vs) :=
  L2.walk_of (n := 63) (k := 35) (x := "_law_script") (CX := fun w => L2.CX l.prog w) (sp := fun w => spL (K w.params)) hn (by decide) hdf ⟨rfl, by decide, by decide⟩ hY F (fun _ _ a ns hl _ hS => ⟨a, ns, rfl, hS, hl, fun _ => rfl⟩) fun _ _ _ _ _ z => by
    obtain ⟨_, _, _, _, _, _, _, _, _, _, _, _, z⟩ := z
    exact z
end Lw
/-! layouts as plain things: where members lie (no program in sight) -/
namespace Ly
open PySem L2 Dl
/-- how a layout is laid out -/
structure Opt where
  msvc : Bool
  pack : Option Int
  align : Option Int
  big : Bool
  union : Bool
mutual
/-- kinds: integers, arrays, layouts -/
inductive Kd where
  | int (sz : Int) (sg : Bool) | arr (k : Kd) (n : Int) | lay (o : Opt) (ms : Mbs)
/-- members: name, kind, bits -/
inductive Mbs where
  | nil | cons (nm : Option Str) (k : Kd) (b : Option Int) (t : Mbs)
end
structure Mb where
  nm : Option Str
  k : Kd
  b : Option Int
def Mbs.list : Mbs → List Mb
  | .nil => []
  | .cons nm k b t => ⟨nm, k, b⟩ :: t.list
def Mbs.of : List Mb → Mbs
  | [] => .nil
  | m :: ms => .cons m.nm m.k m.b (Mbs.of ms)
theorem of_list : ∀ l : List Mb, (Mbs.of l).list = l
  | [] => rfl
  | m :: l => by rw [Mbs.of, Mbs.list, of_list l]
mutual
def Kd.depth : Kd → Nat
  | .int _ _ => 0
  | .arr k _ => k.depth + 1
  | .lay _ ms => ms.depth + 1
def Mbs.depth : Mbs → Nat
  | .nil => 0
  | .cons _ k _ t => max k.depth t.depth
end
theorem depth_mem : ∀ (ms : Mbs) (m : Mb), m ∈ ms.list → m.k.depth ≤ ms.depth
  | .nil, m, h => nomatch h
  | .cons nm k b t, m, h => by
    simp only [Mbs.list, List.mem_cons] at h
    simp only [Mbs.depth]
    rcases h with h | h
    · subst h; exact Nat.le_max_left _ _
    · exact Nat.le_trans (depth_mem t m h) (Nat.le_max_right _ _)
def up (a s : Int) : Int := (a + s - 1) / s * s
/-- what counts of a member for its place -/
structure Row where
  nm : Option Str
  sz : Int
  al : Int
  b : Option Int
def stp (pack : Option Int) (al : Int) : Int := match pack with
  | none => al
  | some p => min al p
def svMoved (pack : Option Int) (at_ sz b : Int) : Bool := b == 0 || (pack.isNone && at_ / (8 * sz) != (at_ + b - 1) / (8 * sz))
def svAt (pack : Option Int) (at_ : Int) (r : Row) : Int := match r.b with
  | none => up at_ (8 * stp pack r.al)
  | some b => if svMoved pack at_ r.sz b = true then up at_ (8 * stp pack r.al) else at_
def svLeast (pack : Option Int) (least : Int) (r : Row) : Int := if (r.b.isNone || r.nm.isSome) = true then max least (stp pack r.al) else least
def svTake (r : Row) : Int := match r.b with
  | none => 8 * r.sz
  | some b => b
structure Sv where
  at_ : Int
  least : Int
  ps : List Int
def svStep (pack : Option Int) (s : Sv) (r : Row) : Sv := ⟨svAt pack s.at_ r + svTake r, svLeast pack s.least r, s.ps ++ [svAt pack s.at_ r]⟩
structure Ms where
  at_ : Int
  least : Int
  ps : List Int
  unit : Int
  used : Int
def msLeast (pack : Option Int) (least : Int) (r : Row) : Int := if r.b = some 0 then least else max least (stp pack r.al)
def msStep (pack : Option Int) (s : Ms) (r : Row) : Ms := match r.b with
  | none => ⟨up s.at_ (stp pack r.al) + r.sz, msLeast pack s.least r, s.ps ++ [8 * up s.at_ (stp pack r.al)], 0, s.used⟩
  | some b => if b = 0 then ⟨s.at_, msLeast pack s.least r, s.ps ++ [8 * s.at_], 0, s.used⟩
    else if s.unit ≠ r.sz ∨ s.used + b > 8 * r.sz then ⟨up s.at_ (stp pack r.al) + r.sz, msLeast pack s.least r, s.ps ++ [8 * (up s.at_ (stp pack r.al) + r.sz - r.sz) + 0], r.sz, 0 + b⟩
    else ⟨s.at_, msLeast pack s.least r, s.ps ++ [8 * (s.at_ - r.sz) + s.used], s.unit, s.used + b⟩
/-- positions, octets taken, least alignment -/
structure Laid where
  ps : List Int
  taken : Int
  least : Int
def suTake (r : Row) : Int := match r.b with
  | none => r.sz
  | some b => up b 8 / 8
def suStep (pack : Option Int) (s : Int × Int) (r : Row) : Int × Int := (max s.1 (suTake r), svLeast pack s.2 r)
def muStep (pack : Option Int) (s : Int × Int) (r : Row) : Int × Int := if r.b = some 0 then s else (max s.1 r.sz, max s.2 (stp pack r.al))
def laid (o : Opt) (rs : List Row) : Laid :=
  if o.msvc = true then
    if o.union = true then ⟨List.replicate rs.length 0, (rs.foldl (muStep o.pack) (0, 1)).1, (rs.foldl (muStep o.pack) (0, 1)).2⟩
    else let s := rs.foldl (msStep o.pack) ⟨0, 1, [], 0, 0⟩; ⟨s.ps, s.at_, s.least⟩
  else
    if o.union = true then ⟨List.replicate rs.length 0, (rs.foldl (suStep o.pack) (0, 1)).1, (rs.foldl (suStep o.pack) (0, 1)).2⟩
    else let s := rs.foldl (svStep o.pack) ⟨0, 1, []⟩; ⟨s.ps, up s.at_ 8 / 8, s.least⟩
def stepOf (o : Opt) (l : Laid) : Int := match o.align with
  | none => l.least
  | some a => max l.least a
def sizeOf (o : Opt) (l : Laid) : Int := up l.taken (stepOf o l)
mutual
def Kd.sz : Kd → Int
  | .int s _ => s
  | .arr k n => n * k.sz
  | .lay o ms => sizeOf o (laid o ms.rows)
def Kd.al : Kd → Int
  | .int s _ => s
  | .arr k _ => k.al
  | .lay o ms => stepOf o (laid o ms.rows)
def Mbs.rows : Mbs → List Row
  | .nil => []
  | .cons nm k b t => ⟨nm, k.sz, k.al, b⟩ :: t.rows
end
def Mb.row (m : Mb) : Row := ⟨m.nm, m.k.sz, m.k.al, m.b⟩
theorem rows_eq : ∀ ms : Mbs, ms.rows = ms.list.map Mb.row
  | .nil => by simp [Mbs.rows, Mbs.list]
  | .cons nm k b t => by
    rw [Mbs.rows, Mbs.list, List.map_cons, rows_eq t]; rfl
end Ly
/-! what the small functions of the core come to -/
namespace Lw
open PySem L2 Dl Ly
section
variable {S : MS}
@[simp] theorem isX_non {tab : List (Str × List Str)} {ts : List Ty} {cs : List Str} : dIsX tab ts cs .non = M.pure (.bl (ts.any Ty.non.sub)) := rfl
@[simp] theorem isX_bl {tab : List (Str × List Str)} {ts : List Ty} {cs : List Str} {b : Bool} : dIsX tab ts cs (.bl b) = M.pure (.bl (ts.any Ty.bool.sub)) := rfl
@[simp] theorem isX_int {tab : List (Str × List Str)} {ts : List Ty} {cs : List Str} {i : Int} : dIsX tab ts cs (.int i) = M.pure (.bl (ts.any Ty.int.sub)) := rfl
@[simp] theorem isX_str {tab : List (Str × List Str)} {ts : List Ty} {cs : List Str} {x : Str} : dIsX tab ts cs (.str x) = M.pure (.bl (ts.any Ty.str.sub)) := rfl
@[simp] theorem isX_lst {tab : List (Str × List Str)} {ts : List Ty} {cs : List Str} {ds : List D} : dIsX tab ts cs (.lst ds) = M.pure (.bl (ts.any Ty.list.sub)) := rfl
@[simp] theorem isX_tup {tab : List (Str × List Str)} {ts : List Ty} {cs : List Str} {ds : List D} : dIsX tab ts cs (.tup ds) = M.pure (.bl (ts.any Ty.tuple.sub)) := rfl
@[simp] theorem isX_dic {tab : List (Str × List Str)} {ts : List Ty} {cs : List Str} {ks : List Key} {ds : List D} : dIsX tab ts cs (.dic ks ds) = M.pure (.bl (ts.any Ty.dict.sub)) := rfl
@[simp] theorem isX_obj {ts : List Ty} {cs : List Str} {i : Nat} {ns : List Str} {ds : List D} : dIsX tabC ts cs (.obj i "Layout" ns ds) = M.pure (.bl (cs.any (["Layout", "Shape"] : List Str).contains)) := rfl
@[simp] theorem sub_rules : Ty.non.sub .list = false ∧ Ty.str.sub .str = true := ⟨rfl, rfl⟩
/-- a layout -/
abbrev layD (i : Nat) (ds ps : List D) (st ex : Int) (cv en : Str) : D := .obj i "Layout" ["rows", "positions", "step", "extent", "rule", "order"] [.lst ds, .lst ps, .int st, .int ex, .str cv, .str en]
section
variable {i : Nat} {ds ps : List D} {st ex : Int} {cv en : Str}
@[simp] theorem fld_rows : dFld "Layout" "rows" (layD i ds ps st ex cv en) = M.pure (.lst ds) := rfl
@[simp] theorem fld_positions : dFld "Layout" "positions" (layD i ds ps st ex cv en) = M.pure (.lst ps) := rfl
@[simp] theorem fld_step : dFld "Layout" "step" (layD i ds ps st ex cv en) = M.pure (.int st) := rfl
@[simp] theorem fld_extent : dFld "Layout" "extent" (layD i ds ps st ex cv en) = M.pure (.int ex) := rfl
@[simp] theorem fld_rule : dFld "Layout" "rule" (layD i ds ps st ex cv en) = M.pure (.str cv) := rfl
@[simp] theorem fld_order : dFld "Layout" "order" (layD i ds ps st ex cv en) = M.pure (.str en) := rfl
end
theorem ok_prop {cn : Str} {g : D → M D} {i : Nat} {ns : List Str} {ds : List D} {r : D} (h : g (.obj i cn ns ds) = M.pure r) : propM cn (ar1 g) (M.pure (.obj i cn ns ds)) = M.pure r := by
  funext S
  simp [propM, isIns, insOf, h, calmM]
/-! numbers -/
theorem mulOk_l {i j : Int} (h1 : -18446744073709551616 < i) (h2 : i < 18446744073709551616) : mulOk i j = true := by
  unfold mulOk
  simp only [Bool.or_eq_true, Bool.and_eq_true, decide_eq_true_eq]
  left; constructor
  · have : (2 : Int) ^ 64 = 18446744073709551616 := by decide
    omega
  · have : (2 : Int) ^ 64 = 18446744073709551616 := by decide
    omega
theorem mulOk_r {i j : Int} (h1 : -18446744073709551616 < j) (h2 : j < 18446744073709551616) : mulOk i j = true := by
  unfold mulOk
  simp only [Bool.or_eq_true, Bool.and_eq_true, decide_eq_true_eq]
  right; constructor
  · have : (2 : Int) ^ 64 = 18446744073709551616 := by decide
    omega
  · have : (2 : Int) ^ 64 = 18446744073709551616 := by decide
    omega
@[simp] theorem mul8 {x : Int} : dMul (.int 8) (.int x) = M.pure (.int (8 * x)) := by rw [mul_int, mulOk_l (by decide) (by decide)]; rfl
@[simp] theorem mul2 {x : Int} : dMul (.int 2) (.int x) = M.pure (.int (2 * x)) := by rw [mul_int, mulOk_l (by decide) (by decide)]; rfl
@[simp] theorem div8 {x : Int} : dDiv (.int x) (.int 8) = M.pure (.int (x / 8)) := rfl
@[simp] theorem mod8 {x : Int} : dMod (.int x) (.int 8) = M.pure (.int (x % 8)) := rfl
theorem mulR {x y : Int} (h1 : 0 ≤ y) (h2 : y < 1073741824) : dMul (.int x) (.int y) = M.pure (.int (x * y)) := by rw [mul_int, mulOk_r (by omega) (by omega)]; rfl
theorem divR {x y : Int} (h1 : 0 < y) (h2 : y < 1073741824) : dDiv (.int x) (.int y) = M.pure (.int (x / y)) := by
  rw [div_int]
  have h2 : y < 2 ^ 256 := by omega
  simp only [h1, h2, decide_true, Bool.and_true]
  rfl
theorem ok_up {a s : Int} (h1 : 0 < s) (h2 : s < 1073741824) : f_up (.int a) (.int s) = M.pure (.int (up a s)) := by
  funext S
  simp [f_up, divR h1 h2, mulR (Int.le_of_lt h1) h2, up]
@[simp] theorem ok_is_integer {i : Int} : f_is_integer (.int i) = M.pure (.bl true) := by
  funext S; simp [f_is_integer, Ty.sub]
@[simp] theorem ok_is_row_t {ds : List D} : f_is_row (.tup ds) = M.pure (.bl true) := by funext S; simp [f_is_row, Ty.sub]
@[simp] theorem ok_is_row_l {ds : List D} : f_is_row (.lst ds) = M.pure (.bl true) := by funext S; simp [f_is_row, Ty.sub]
@[simp] theorem ok_is_row_o {i : Nat} {ns : List Str} {ds : List D} : f_is_row (.obj i "Layout" ns ds) = M.pure (.bl false) := by funext S; simp [f_is_row]
@[simp] theorem at0 {a : D} {l : List D} : atI (a :: l) 0 = some a := by
  have : (0 : Int) < l.length + 1 := by omega
  simp [atI, ixN, this]
@[simp] theorem at1 {a b : D} {l : List D} : atI (a :: b :: l) 1 = some b := by
  have : (1 : Int) < l.length + 1 + 1 := by omega
  simp [atI, ixN, this]
@[simp] theorem at2 {a b c : D} {l : List D} : atI (a :: b :: c :: l) 2 = some c := by
  have : (2 : Int) < l.length + 1 + 1 + 1 := by omega
  simp [atI, ixN, this]
@[simp] theorem at3 {a b c d : D} {l : List D} : atI (a :: b :: c :: d :: l) 3 = some d := by
  have : (3 : Int) < l.length + 1 + 1 + 1 + 1 := by omega
  simp [atI, ixN, this]
@[simp] theorem guard_true {m : M D} : Dl.guard true m = m := rfl
@[simp] theorem pl_int : (D.str "int").plain = true := by decide +kernel
@[simp] theorem pl_array : (D.str "array").plain = true := by decide +kernel
@[simp] theorem pl_bits : (D.str "bits").plain = true := by decide +kernel
@[simp] theorem pl_field : (D.str "field").plain = true := by decide +kernel
@[simp] theorem pl_room : (D.str "room").plain = true := by decide +kernel
@[simp] theorem pl_zero : (D.str "zero").plain = true := by decide +kernel
@[simp] theorem pl_sysv : (D.str "sysv").plain = true := by decide +kernel
@[simp] theorem pl_msvc : (D.str "msvc").plain = true := by decide +kernel
@[simp] theorem pl_little : (D.str "little").plain = true := by decide +kernel
@[simp] theorem pl_big : (D.str "big").plain = true := by decide +kernel
@[simp] theorem pl_empty : (D.str "").plain = true := by decide +kernel
@[simp] theorem pl_is : (D.str "is").plain = true := by decide +kernel
@[simp] theorem pl_bit : (D.str "bit").plain = true := by decide +kernel
@[simp] theorem ne_str {i j : Str} : dNe (.str i) (.str j) = Dl.guard ((D.str i).plain && (D.str j).plain) (M.pure (.bl (!(i == j)))) := rfl
theorem eq_ns {y : Str} (h : (D.str y).plain = true) : dEq .non (.str y) = M.pure (.bl false) := by
  unfold dEq
  rw [show D.non.plain = true from rfl, h]; rfl
@[simp] theorem eq_ni {y : Int} : dEq .non (.int y) = M.pure (.bl false) := rfl
@[simp] theorem ne_ni {y : Int} : dNe .non (.int y) = M.pure (.bl true) := rfl
@[simp] theorem notn_non : dNotN .non = M.pure (.bl false) := rfl
@[simp] theorem notn_str {x : Str} : dNotN (.str x) = M.pure (.bl true) := rfl
@[simp] theorem notn_int {x : Int} : dNotN (.int x) = M.pure (.bl true) := rfl
@[simp] theorem notn_tup {x : List D} : dNotN (.tup x) = M.pure (.bl true) := rfl
@[simp] theorem isn_str {x : Str} : dIsN (.str x) = M.pure (.bl false) := rfl
@[simp] theorem isn_obj {i : Nat} {c : Str} {ns : List Str} {ds : List D} : dIsN (.obj i c ns ds) = M.pure (.bl false) := rfl
abbrev intD (sz : Int) (sg : Bool) : D := .tup [.str "int", .int sz, .bl sg]
abbrev arrD (d : D) (n : Int) : D := .tup [.str "array", d, .int n]
theorem sizes_in {sz : Int} (h : sz = 1 ∨ sz = 2 ∨ sz = 4 ∨ sz = 8) : f_is_number_of (.int sz) c_SIZES = M.pure (.bl true) := by
  funext S
  rcases h with h | h | h | h <;> subst h <;> simp [f_is_number_of, c_SIZES, dIn, D.thin, inD, D.same0]
theorem ok_int_kind {sz : Int} {sg : Bool} (h : sz = 1 ∨ sz = 2 ∨ sz = 4 ∨ sz = 8) : f_is_integer_kind (intD sz sg) = M.pure (.bl true) := by
  funext S
  simp [f_is_integer_kind, sizes_in h, Ty.sub]
end
end Lw
/-! what is right of kinds, and how great all is -/
namespace Ly
open PySem L2 Dl
def SzOk (s : Int) : Prop := s = 1 ∨ s = 2 ∨ s = 4 ∨ s = 8
def PkOk (p : Option Int) : Prop := ∀ x, p = some x → x = 1 ∨ x = 2 ∨ x = 4 ∨ x = 8 ∨ x = 16
def AlOk (p : Option Int) : Prop := ∀ x, p = some x → x = 1 ∨ x = 2 ∨ x = 4 ∨ x = 8 ∨ x = 16 ∨ x = 32
/-- a name of a member: what the program says of it -/
def NmOk (x : Str) : Prop := (D.str x).plain = true ∧ Lw.f_is_name (.str x) = M.pure (.bl true)
structure MbOk (m : Mb) : Prop where
  nm : ∀ x, m.nm = some x → NmOk x
  bits : ∀ b, m.b = some b → 0 ≤ b ∧ b ≤ 8 * m.k.sz ∧ (b = 0 → m.nm = none) ∧ ∃ s g, m.k = .int s g
  bare : m.b = none → m.nm = none → ∃ o ms, m.k = .lay o ms
mutual
/-- the names by which members are reached -/
def Kd.names : Kd → List Str
  | .lay _ ms => ms.names
  | _ => []
def Mbs.names : Mbs → List Str
  | .nil => []
  | .cons (some x) _ _ t => x :: t.names
  | .cons none k none t => k.names ++ t.names
  | .cons none _ (some _) t => t.names
end
mutual
/-- how many integers -/
def Kd.cnt : Kd → Nat
  | .int _ _ => 1
  | .arr k n => n.toNat * k.cnt
  | .lay _ ms => ms.cnt
def Mbs.cnt : Mbs → Nat
  | .nil => 0
  | .cons _ k _ t => k.cnt + 1 + t.cnt
end
mutual
/-- how many things that are no bit fields -/
def Kd.all : Kd → Nat
  | .int _ _ => 1
  | .arr k n => n.toNat * k.all + 1
  | .lay _ ms => ms.all + 1
def Mbs.all : Mbs → Nat
  | .nil => 0
  | .cons _ k _ t => k.all + 1 + t.all
end
inductive KOk : Kd → Prop
  | int {s : Int} {g : Bool} : SzOk s → KOk (.int s g)
  | arr {k : Kd} {n : Int} : KOk k → 0 ≤ n → n ≤ 65536 → (Kd.arr k n).sz ≤ 65536 → (Kd.arr k n).cnt ≤ 65536 → (Kd.arr k n).all ≤ 65536 → KOk (.arr k n)
  | lay {o : Opt} {ms : Mbs} : PkOk o.pack → AlOk o.align → (∀ m ∈ ms.list, KOk m.k) → (∀ m ∈ ms.list, MbOk m) → ms.names.Nodup → ms.names.length ≤ 65536 → ms.list.length ≤ 4096 → (Kd.lay o ms).sz ≤ 65536 → (Kd.lay o ms).cnt ≤ 65536 → (Kd.lay o ms).all ≤ 65536 → KOk (.lay o ms)
/-! ### numbers -/
theorem up_ge {a s : Int} (h : 0 < s) : a ≤ up a s := by
  unfold up
  have := Int.emod_add_mul_ediv (a + s - 1) s
  have h2 := Int.emod_lt_of_pos (a + s - 1) h
  rw [Int.mul_comm] at this
  omega
theorem up_lt {a s : Int} (h : 0 < s) : up a s < a + s := by
  unfold up
  have := Int.emod_add_mul_ediv (a + s - 1) s
  have h2 := Int.emod_nonneg (a + s - 1) (Int.ne_of_gt h)
  rw [Int.mul_comm] at this
  omega
theorem up_dvd {a s : Int} : up a s % s = 0 := by unfold up; exact Int.mul_emod_left _ _
theorem up_nonneg {a s : Int} (h : 0 < s) (ha : 0 ≤ a) : 0 ≤ up a s := Int.le_trans ha (up_ge h)
def Row.ok (r : Row) : Prop := 0 ≤ r.sz ∧ r.sz ≤ 65536 ∧ 1 ≤ r.al ∧ r.al ≤ 32 ∧ ∀ b, r.b = some b → 0 ≤ b ∧ b ≤ 8 * r.sz ∧ SzOk r.sz
theorem stp_bd {p : Option Int} {al : Int} (hp : PkOk p) (h1 : 1 ≤ al) (h2 : al ≤ 32) : 1 ≤ stp p al ∧ stp p al ≤ 32 := by
  unfold stp
  cases p with
  | none => exact ⟨h1, h2⟩
  | some x =>
    have := hp x rfl
    show 1 ≤ min al x ∧ min al x ≤ 32
    omega
/-! the least alignment -/
theorem least_sv {p : Option Int} (hp : PkOk p) : ∀ (rs : List Row) (s : Sv), (∀ r ∈ rs, r.ok) → 1 ≤ s.least → s.least ≤ 32 → 0 ≤ s.at_ → 1 ≤ (rs.foldl (svStep p) s).least ∧ (rs.foldl (svStep p) s).least ≤ 32 ∧ 0 ≤ (rs.foldl (svStep p) s).at_
  | [], s, _, h1, h2, h3 => ⟨h1, h2, h3⟩
  | r :: rs, s, h, h1, h2, h3 => by
    have hr := h r List.mem_cons_self
    have hs := stp_bd hp hr.2.2.1 hr.2.2.2.1
    refine least_sv hp rs (svStep p s r) (fun x hx => h x (List.mem_cons_of_mem _ hx)) ?_ ?_ ?_
    · show 1 ≤ svLeast p s.least r
      unfold svLeast; split <;> omega
    · show svLeast p s.least r ≤ 32
      unfold svLeast; split <;> omega
    · show 0 ≤ svAt p s.at_ r + svTake r
      have h4 : 0 ≤ svAt p s.at_ r := by
        unfold svAt
        have := up_nonneg (s := 8 * stp p r.al) (by omega) h3
        split
        · exact this
        · split
          · exact this
          · exact h3
      have h5 : 0 ≤ svTake r := by
        unfold svTake
        split
        · have := hr.1; omega
        · rename_i b e; exact (hr.2.2.2.2 b e).1
      omega
theorem least_ms {p : Option Int} (hp : PkOk p) : ∀ (rs : List Row) (s : Ms), (∀ r ∈ rs, r.ok) → 1 ≤ s.least → s.least ≤ 32 → 0 ≤ s.at_ → 1 ≤ (rs.foldl (msStep p) s).least ∧ (rs.foldl (msStep p) s).least ≤ 32 ∧ 0 ≤ (rs.foldl (msStep p) s).at_
  | [], s, _, h1, h2, h3 => ⟨h1, h2, h3⟩
  | r :: rs, s, h, h1, h2, h3 => by
    have hr := h r List.mem_cons_self
    have hs := stp_bd hp hr.2.2.1 hr.2.2.2.1
    have hz := hr.1
    have hu := up_nonneg (s := stp p r.al) (by omega) h3
    have hl : 1 ≤ msLeast p s.least r ∧ msLeast p s.least r ≤ 32 := by unfold msLeast; split <;> omega
    refine least_ms hp rs (msStep p s r) (fun x hx => h x (List.mem_cons_of_mem _ hx)) ?_ ?_ ?_
    · unfold msStep; split
      · exact hl.1
      · split
        · exact hl.1
        · split <;> exact hl.1
    · unfold msStep; split
      · exact hl.2
      · split
        · exact hl.2
        · split <;> exact hl.2
    · unfold msStep; split
      · show 0 ≤ up s.at_ (stp p r.al) + r.sz; omega
      · split
        · exact h3
        · split
          · show 0 ≤ up s.at_ (stp p r.al) + r.sz; omega
          · exact h3
theorem least_su {p : Option Int} (hp : PkOk p) : ∀ (rs : List Row) (s : Int × Int), (∀ r ∈ rs, r.ok) → 1 ≤ s.2 → s.2 ≤ 32 → 0 ≤ s.1 → 1 ≤ (rs.foldl (suStep p) s).2 ∧ (rs.foldl (suStep p) s).2 ≤ 32 ∧ 0 ≤ (rs.foldl (suStep p) s).1
  | [], s, _, h1, h2, h3 => ⟨h1, h2, h3⟩
  | r :: rs, s, h, h1, h2, h3 => by
    have hr := h r List.mem_cons_self
    have hs := stp_bd hp hr.2.2.1 hr.2.2.2.1
    refine least_su hp rs (suStep p s r) (fun x hx => h x (List.mem_cons_of_mem _ hx)) ?_ ?_ ?_
    · show 1 ≤ svLeast p s.2 r
      unfold svLeast; split <;> omega
    · show svLeast p s.2 r ≤ 32
      unfold svLeast; split <;> omega
    · show 0 ≤ max s.1 (suTake r); omega
theorem least_mu {p : Option Int} (hp : PkOk p) : ∀ (rs : List Row) (s : Int × Int), (∀ r ∈ rs, r.ok) → 1 ≤ s.2 → s.2 ≤ 32 → 0 ≤ s.1 → 1 ≤ (rs.foldl (muStep p) s).2 ∧ (rs.foldl (muStep p) s).2 ≤ 32 ∧ 0 ≤ (rs.foldl (muStep p) s).1
  | [], s, _, h1, h2, h3 => ⟨h1, h2, h3⟩
  | r :: rs, s, h, h1, h2, h3 => by
    have hr := h r List.mem_cons_self
    have hs := stp_bd hp hr.2.2.1 hr.2.2.2.1
    refine least_mu hp rs (muStep p s r) (fun x hx => h x (List.mem_cons_of_mem _ hx)) ?_ ?_ ?_
    · unfold muStep; split
      · exact h1
      · show 1 ≤ max s.2 (stp p r.al); omega
    · unfold muStep; split
      · exact h2
      · show max s.2 (stp p r.al) ≤ 32; omega
    · unfold muStep; split
      · exact h3
      · show 0 ≤ max s.1 r.sz; omega
theorem laid_bd {o : Opt} (hp : PkOk o.pack) {rs : List Row} (h : ∀ r ∈ rs, r.ok) : 1 ≤ (laid o rs).least ∧ (laid o rs).least ≤ 32 ∧ 0 ≤ (laid o rs).taken := by
  unfold laid
  split
  · split
    · exact least_mu hp rs (0, 1) h (by decide) (by decide) (by decide)
    · exact least_ms hp rs ⟨0, 1, [], 0, 0⟩ h (by decide) (by decide) (by decide)
  · split
    · exact least_su hp rs (0, 1) h (by decide) (by decide) (by decide)
    · have := least_sv hp rs ⟨0, 1, []⟩ h (by decide) (by decide) (by decide)
      refine ⟨this.1, this.2.1, ?_⟩
      have h8 := up_nonneg (s := 8) (by decide) this.2.2
      show 0 ≤ up (rs.foldl (svStep o.pack) ⟨0, 1, []⟩).at_ 8 / 8
      omega
theorem step_bd {o : Opt} {l : Laid} (ha : AlOk o.align) (h1 : 1 ≤ l.least) (h2 : l.least ≤ 32) : 1 ≤ stepOf o l ∧ stepOf o l ≤ 32 := by
  unfold stepOf
  split
  · exact ⟨h1, h2⟩
  · rename_i a e
    have := ha a e
    omega
/-- how great a right kind is -/
theorem KOk.bd : ∀ {k : Kd}, KOk k → 0 ≤ k.sz ∧ k.sz ≤ 65536 ∧ 1 ≤ k.al ∧ k.al ≤ 32 := by
  intro k h
  induction h with
  | int h => rw [Kd.sz, Kd.al]; unfold SzOk at h; omega
  | arr hk h0 h1 h2 h3 h4 ih =>
    rw [Kd.sz] at *
    rw [Kd.al]
    exact ⟨Int.mul_nonneg h0 ih.1, h2, ih.2.2⟩
  | @lay o ms hp ha hm hb hn h6 h5 h1 h2 h3 ih =>
    have hr : ∀ r ∈ ms.rows, r.ok := fun r hr => by
      rw [rows_eq] at hr
      obtain ⟨m, hm', e⟩ := List.mem_map.mp hr
      subst e
      have b := ih m hm'
      refine ⟨b.1, b.2.1, b.2.2.1, b.2.2.2, fun bb e => ?_⟩
      obtain ⟨q1, q2, q3, s, g, q4⟩ := (hb m hm').bits bb e
      refine ⟨q1, q2, ?_⟩
      have := hm m hm'
      show SzOk m.k.sz
      rw [q4] at this ⊢
      cases this with
      | int h => rw [Kd.sz]; exact h
    have l := laid_bd (o := o) hp hr
    have s := step_bd (o := o) ha l.1 l.2.1
    refine ⟨?_, h1, ?_⟩
    · rw [Kd.sz]
      exact up_nonneg (by show 0 < stepOf o (laid o ms.rows); omega) l.2.2
    · rw [Kd.al]; exact s
theorem KOk.rowsOk {o : Opt} {ms : Mbs} (h : KOk (.lay o ms)) : ∀ r ∈ ms.rows, r.ok := fun r hr => by
  cases h with
  | lay hp ha hm hb hn h6 h5 h1 h2 h3 =>
    rw [rows_eq] at hr
    obtain ⟨m, hm', e⟩ := List.mem_map.mp hr
    subst e
    have b := (hm m hm').bd
    refine ⟨b.1, b.2.1, b.2.2.1, b.2.2.2, fun bb e => ?_⟩
    obtain ⟨q1, q2, q3, s, g, q4⟩ := (hb m hm').bits bb e
    refine ⟨q1, q2, ?_⟩
    have := hm m hm'
    show SzOk m.k.sz
    rw [q4] at this ⊢
    cases this with
    | int h => rw [Kd.sz]; exact h
end Ly
/-! kinds and layouts as data; their sizes and alignments -/
namespace Lw
open PySem L2 Dl Ly
def nmD : Option Str → D
  | none => .non
  | some x => .str x
def optD : Option Int → D
  | none => .non
  | some x => .int x
@[simp] theorem nmD_none : nmD none = .non := rfl
@[simp] theorem nmD_some {x : Str} : nmD (some x) = .str x := rfl
@[simp] theorem optD_none : optD none = .non := rfl
@[simp] theorem optD_some {x : Int} : optD (some x) = .int x := rfl
def cvS (m : Bool) : Str := if m = true then "msvc" else "sysv"
def enS (b : Bool) : Str := if b = true then "big" else "little"
abbrev rowD (x : D × Mb) : D := .tup [nmD x.2.nm, x.1, optD x.2.b]
/-- kinds as data, layouts among them -/
inductive LK : D → Kd → Prop
  | int {s : Int} {g : Bool} : LK (intD s g) (.int s g)
  | arr {d : D} {k : Kd} {n : Int} : LK d k → LK (arrD d n) (.arr k n)
  | lay {i : Nat} {o : Opt} (xs : List (D × Mb)) : (∀ x ∈ xs, LK x.1 x.2.k) →
    LK (layD i (xs.map rowD) ((laid o (Mbs.of (xs.map (·.2))).rows).ps.map D.int) (stepOf o (laid o (Mbs.of (xs.map (·.2))).rows)) (sizeOf o (laid o (Mbs.of (xs.map (·.2))).rows)) (cvS o.msvc) (enS o.big)) (.lay o (Mbs.of (xs.map (·.2))))
@[simp] theorem ok_Layout_size {i : Nat} {ds ps : List D} {st ex : Int} {cv en : Str} : f_Layout_size (layD i ds ps st ex cv en) = M.pure (.int ex) := by funext S; simp [f_Layout_size]
@[simp] theorem ok_Layout_alignment {i : Nat} {ds ps : List D} {st ex : Int} {cv en : Str} : f_Layout_alignment (layD i ds ps st ex cv en) = M.pure (.int st) := by funext S; simp [f_Layout_alignment]
@[simp] theorem ok_Layout_ends {i : Nat} {ds ps : List D} {st ex : Int} {cv en : Str} : f_Layout_ends (layD i ds ps st ex cv en) = M.pure (.str en) := by funext S; simp [f_Layout_ends]
@[simp] theorem prop_size {i : Nat} {ds ps : List D} {st ex : Int} {cv en : Str} : propM "Layout" (ar1 f_Layout_size) (M.pure (layD i ds ps st ex cv en)) = M.pure (.int ex) := ok_prop ok_Layout_size
@[simp] theorem prop_alignment {i : Nat} {ds ps : List D} {st ex : Int} {cv en : Str} : propM "Layout" (ar1 f_Layout_alignment) (M.pure (layD i ds ps st ex cv en)) = M.pure (.int st) := ok_prop ok_Layout_alignment
@[simp] theorem prop_ends {i : Nat} {ds ps : List D} {st ex : Int} {cv en : Str} : propM "Layout" (ar1 f_Layout_ends) (M.pure (layD i ds ps st ex cv en)) = M.pure (.str en) := ok_prop ok_Layout_ends
theorem shape_obj {i : Nat} {ns : List Str} {ds : List D} : dIsX tabC [] ["Shape"] (.obj i "Layout" ns ds) = M.pure (.bl true) := rfl
theorem str_int_ne : (("array" : Str) == "int") = false := by decide
theorem str_arr_ne : (("int" : Str) == "array") = false := by decide
theorem ok_size_of : ∀ (n : Nat) {d : D} {k : Kd}, LK d k → KOk k → k.depth < n → f_size_of n d = M.pure (.int k.sz)
  | 0, _, _, _, _, h => by omega
  | n + 1, d, k, l, ko, h => by
    funext S
    cases l with
    | int => simp [f_size_of, Kd.sz]
    | arr l =>
      cases ko with
      | arr ko h0 h1 h2 h3 h4 =>
        rw [Kd.depth] at h
        have b := ko.bd
        simp [f_size_of, ok_size_of n l ko (by omega), str_int_ne, mulR b.1 (by omega), Kd.sz]
    | lay xs hx => simp [f_size_of, shape_obj, Kd.sz]
theorem ok_alignment_of : ∀ (n : Nat) {d : D} {k : Kd}, LK d k → KOk k → k.depth < n → f_alignment_of n d = M.pure (.int k.al)
  | 0, _, _, _, _, h => by omega
  | n + 1, d, k, l, ko, h => by
    funext S
    cases l with
    | int => simp [f_alignment_of, Kd.al]
    | arr l =>
      cases ko with
      | arr ko h0 h1 h2 h3 h4 =>
        rw [Kd.depth] at h
        simp [f_alignment_of, ok_alignment_of n l ko (by omega), str_int_ne, Kd.al]
    | lay xs hx => simp [f_alignment_of, shape_obj, Kd.al]
end Lw
/-! how the program lays out -/
namespace Lw
open PySem L2 Dl Ly
theorem ite_min {i j : Int} : (if j < i then j else i) = min i j := by rw [Int.min_def]; split <;> split <;> omega
theorem ite_max {i j : Int} : (if j > i then j else i) = max i j := by rw [Int.max_def]; split <;> split <;> omega
@[simp] theorem min_int' {i j : Int} : dMin (.int i) (.int j) = M.pure (.int (min i j)) := by rw [min_int, ite_min]
@[simp] theorem max_int' {i j : Int} : dMax (.int i) (.int j) = M.pure (.int (max i j)) := by rw [max_int, ite_max]
section
variable {d : D} {k : Kd} {pack : Option Int}
theorem ok_step_of (l : LK d k) (ko : KOk k) (hd : k.depth < 12) : f_step_of d (optD pack) = M.pure (.int (stp pack k.al)) := by
  funext S
  cases pack with
  | none => simp [f_step_of, ok_alignment_of 12 l ko hd, stp]
  | some p => simp [f_step_of, ok_alignment_of 12 l ko hd, stp]
theorem ok_is_moved {at_ b : Int} (l : LK d k) (ko : KOk k) (hd : k.depth < 12) (hs : SzOk k.sz) : f_is_moved (.int at_) d (.int b) (optD pack) = M.pure (.bl (svMoved pack at_ k.sz b)) := by
  have h1 : 0 < 8 * k.sz := by unfold SzOk at hs; omega
  have h2 : 8 * k.sz < 1073741824 := by unfold SzOk at hs; omega
  funext S
  cases pack with
  | none =>
    by_cases e : b = 0 <;> simp [f_is_moved, ok_size_of 12 l ko hd, divR h1 h2, svMoved, e, bne]
  | some p =>
    by_cases e : b = 0 <;> simp [f_is_moved, ok_size_of 12 l ko hd, divR h1 h2, svMoved, e, bne]
@[simp] theorem ok_counts0 {nm : Option Str} : f_counts (nmD nm) .non = M.pure (.bl true) := by
  funext S
  cases nm <;> simp [f_counts]
@[simp] theorem ok_counts1 {nm : Option Str} {b : Int} : f_counts (nmD nm) (.int b) = M.pure (.bl nm.isSome) := by
  funext S
  cases nm <;> simp [f_counts]
@[simp] theorem plus_int {i j : Int} : dPlus (.int i) (.int j) = M.pure (.int (i + j)) := rfl
end
theorem szLt_of' {n : Nat} (h : n < 16777216) : szLt n = true := by unfold szLt; simp [h]
theorem szOk_le {n : Nat} (h : n ≤ 16777216) : szOk n = true := by unfold szOk; simp [h]
@[simp] theorem szOk0 : szOk 0 = true := rfl
@[simp] theorem szOk1 : szOk 1 = true := rfl
@[simp] theorem szOk2 : szOk 2 = true := rfl
@[simp] theorem szOk3 : szOk 3 = true := rfl
@[simp] theorem szOk4 : szOk 4 = true := rfl
@[simp] theorem itS_lst {ds : List D} : itemsS (.lst ds) = M.pure ds := rfl
@[simp] theorem itS_tup {ds : List D} : itemsS (.tup ds) = M.pure ds := rfl
@[simp] theorem itS_str {x : Str} : itemsS (.str x) = M.pure (signs x) := rfl
/-- members with their kinds as data, all of them right -/
structure Xs (xs : List (D × Mb)) : Prop where
  lk : ∀ x ∈ xs, LK x.1 x.2.k
  ko : ∀ x ∈ xs, KOk x.2.k
  mo : ∀ x ∈ xs, MbOk x.2
  dp : ∀ x ∈ xs, x.2.k.depth < 12
  ln : xs.length ≤ 4096
theorem Xs.row {xs : List (D × Mb)} (h : Xs xs) {x : D × Mb} (hx : x ∈ xs) : x.2.row.ok := by
  have b := (h.ko x hx).bd
  refine ⟨b.1, b.2.1, b.2.2.1, b.2.2.2, fun bb e => ?_⟩
  obtain ⟨q1, q2, q3, s, g, q4⟩ := (h.mo x hx).bits bb e
  refine ⟨q1, q2, ?_⟩
  have := h.ko x hx
  show SzOk x.2.k.sz
  rw [q4] at this ⊢
  cases this with
  | int h => rw [Kd.sz]; exact h
abbrev svE (s : Sv) : D × D × List D := (.int s.at_, .int s.least, s.ps.map D.int)
theorem foldl_map' {α β γ : Type} (f : α → β) (g : γ → β → γ) : ∀ (l : List α) (a : γ), (l.map f).foldl g a = l.foldl (fun c x => g c (f x)) a
  | [], _ => rfl
  | x :: l, a => by rw [List.map_cons, List.foldl_cons, List.foldl_cons, foldl_map' f g l]
def rowsX (xs : List (D × Mb)) : List Row := xs.map fun x => x.2.row
theorem foldX {γ : Type} (g : γ → Row → γ) (xs : List (D × Mb)) (a : γ) : (rowsX xs).foldl g a = xs.foldl (fun c x => g c x.2.row) a := foldl_map' _ _ _ _
theorem ok_sysv_structure {xs : List (D × Mb)} {pack : Option Int} (h : Xs xs) (hp : PkOk pack) :
    f_sysv_structure (.lst (xs.map rowD)) (optD pack) = M.pure (.tup [.lst (((rowsX xs).foldl (svStep pack) ⟨0, 1, []⟩).ps.map D.int), .int (up ((rowsX xs).foldl (svStep pack) ⟨0, 1, []⟩).at_ 8 / 8), .int ((rowsX xs).foldl (svStep pack) ⟨0, 1, []⟩).least]) := by
  funext S
  simp only [foldX]
  simp [f_sysv_structure]
  rw [show ((D.int 0, D.int 1, ([] : List D)) : D × D × List D) = svE ⟨0, 1, []⟩ from rfl, for_enc rowD svE (fun s x => svStep pack s x.2.row) (fun s t => (∀ x ∈ t, x ∈ xs) ∧ s.ps.length + t.length ≤ 4096) xs ⟨0, 1, []⟩]
  · simp [ok_up (s := 8) (by decide) (by decide)]
  · rintro s x t ⟨hm, hl⟩
    have hx := hm x List.mem_cons_self
    have hr := h.row hx
    have hb := stp_bd hp hr.2.2.1 hr.2.2.2.1
    have hq : szLt s.ps.length = true := szLt_of' (by rw [List.length_cons] at hl; omega)
    have hup : ∀ a : Int, f_up (.int a) (.int (8 * stp pack x.2.k.al)) = M.pure (.int (up a (8 * stp pack x.2.k.al))) := fun a => ok_up (by show 0 < 8 * stp pack x.2.row.al; omega) (by show 8 * stp pack x.2.row.al < _; omega)
    refine ⟨?_, fun y hy => hm y (List.mem_cons_of_mem _ hy), ?_⟩
    · cases eb : x.2.b with
      | none =>
        simp [ok_step_of (h.lk x hx) (h.ko x hx) (h.dp x hx), eb, hup, hq, ok_size_of 12 (h.lk x hx) (h.ko x hx) (h.dp x hx), svStep, svAt, svLeast, svTake, Mb.row]
      | some b =>
        have hs := (hr.2.2.2.2 b eb).2.2
        simp [ok_step_of (h.lk x hx) (h.ko x hx) (h.dp x hx), eb, hup, hq, ok_is_moved (h.lk x hx) (h.ko x hx) (h.dp x hx) hs, svStep, svAt, svLeast, svTake, Mb.row]
        by_cases e1 : svMoved pack s.at_ x.2.k.sz b = true <;> by_cases e2 : x.2.nm.isSome = true <;> simp [e1, e2]
    · show (s.ps ++ [_]).length + t.length ≤ 4096
      rw [List.length_append, List.length_singleton]
      rw [List.length_cons] at hl
      omega
  · exact ⟨fun x hx => hx, by simpa using h.ln⟩
theorem rep1 {d : D} {n : Nat} (h : n ≤ 65536) : dMul (.lst [d]) (.int n) = M.pure (.lst (List.replicate n d)) := by
  have e : dMul (.lst [d]) (.int n) = Dl.guard (decide (-(2 ^ 63) ≤ (n : Int)) && decide ((n : Int) < 2 ^ 63) && szOk (([d] : List D).length * (n : Int).toNat)) (M.pure (.lst (List.replicate (n : Int).toNat [d]).flatten)) := rfl
  have e1 : (2 : Int) ^ 63 = 9223372036854775808 := by decide
  have h1 : decide (-(2 ^ 63) ≤ (n : Int)) = true := by rw [decide_eq_true_eq]; omega
  have h2 : decide ((n : Int) < 2 ^ 63) = true := by rw [decide_eq_true_eq]; omega
  have h3 : szOk (([d] : List D).length * (n : Int).toNat) = true := szOk_le (by simp; omega)
  rw [e, h1, h2, h3]
  have h4 : (List.replicate (n : Int).toNat [d]).flatten = List.replicate n d := by
    rw [Int.toNat_natCast]
    clear e h1 h2 h3 h
    induction n with
    | zero => rfl
    | succ n ih => rw [List.replicate_succ, List.flatten_cons, ih, List.replicate_succ]; rfl
  rw [h4]; rfl
theorem rep_expr {d : D} {ds : List D} (h : ds.length ≤ 65536) : bin dMul (frz (lstM [M.pure d])) (callM (ar1 dLen) [M.pure (.lst ds)]) = M.pure (.lst (List.replicate ds.length d)) := by
  have h1 : frz (lstM [M.pure d]) = M.pure (.lst [d]) := by funext S; simp
  have h2 : callM (ar1 dLen) [M.pure (.lst ds)] = M.pure (.int ds.length) := by funext S; simp
  funext S
  rw [h1, h2, ev_bin, ev_pure, at_ok, ev_pure, at_ok, rep1 h]
abbrev suE (s : Int × Int) : D × D := (.int s.1, .int s.2)
theorem ok_sysv_union {xs : List (D × Mb)} {pack : Option Int} (h : Xs xs) (hp : PkOk pack) :
    f_sysv_union (.lst (xs.map rowD)) (optD pack) = M.pure (.tup [.lst ((List.replicate xs.length (0 : Int)).map D.int), .int ((rowsX xs).foldl (suStep pack) (0, 1)).1, .int ((rowsX xs).foldl (suStep pack) (0, 1)).2]) := by
  funext S
  simp only [foldX]
  simp [f_sysv_union]
  rw [show ((D.int 0, D.int 1) : D × D) = suE (0, 1) from rfl, for_enc rowD suE (fun s x => suStep pack s x.2.row) (fun s t => ∀ x ∈ t, x ∈ xs) xs (0, 1)]
  · simp [rep_expr (d := .int 0) (ds := xs.map rowD) (by have := h.ln; rw [List.length_map]; omega)]
  · rintro s x t hm
    have hx := hm x List.mem_cons_self
    have hr := h.row hx
    refine ⟨?_, fun y hy => hm y (List.mem_cons_of_mem _ hy)⟩
    cases eb : x.2.b with
    | none => simp [ok_step_of (h.lk x hx) (h.ko x hx) (h.dp x hx), eb, ok_size_of 12 (h.lk x hx) (h.ko x hx) (h.dp x hx), suStep, suTake, svLeast, Mb.row]
    | some b =>
      simp [ok_step_of (h.lk x hx) (h.ko x hx) (h.dp x hx), eb, ok_up (s := 8) (by decide) (by decide), suStep, suTake, svLeast, Mb.row]
      by_cases e2 : x.2.nm.isSome = true <;> simp [e2]
  · exact fun x hx => hx
theorem ok_msvc_union {xs : List (D × Mb)} {pack : Option Int} (h : Xs xs) (hp : PkOk pack) :
    f_msvc_union (.lst (xs.map rowD)) (optD pack) = M.pure (.tup [.lst ((List.replicate xs.length (0 : Int)).map D.int), .int ((rowsX xs).foldl (muStep pack) (0, 1)).1, .int ((rowsX xs).foldl (muStep pack) (0, 1)).2]) := by
  funext S
  simp only [foldX]
  simp [f_msvc_union]
  rw [show ((D.int 0, D.int 1) : D × D) = suE (0, 1) from rfl, for_enc rowD suE (fun s x => muStep pack s x.2.row) (fun s t => ∀ x ∈ t, x ∈ xs) xs (0, 1)]
  · simp [rep_expr (d := .int 0) (ds := xs.map rowD) (by have := h.ln; rw [List.length_map]; omega)]
  · rintro s x t hm
    have hx := hm x List.mem_cons_self
    refine ⟨?_, fun y hy => hm y (List.mem_cons_of_mem _ hy)⟩
    cases eb : x.2.b with
    | none => simp [ok_step_of (h.lk x hx) (h.ko x hx) (h.dp x hx), eb, ok_size_of 12 (h.lk x hx) (h.ko x hx) (h.dp x hx), muStep, Mb.row]
    | some b =>
      simp [ok_step_of (h.lk x hx) (h.ko x hx) (h.dp x hx), eb, ok_size_of 12 (h.lk x hx) (h.ko x hx) (h.dp x hx), muStep, Mb.row]
      by_cases e2 : b = 0 <;> simp [e2]
  · exact fun x hx => hx
abbrev msE (s : Ms) : D × D × List D × D × D := (.int s.at_, .int s.least, s.ps.map D.int, .int s.unit, .int s.used)
theorem ok_msvc_structure {xs : List (D × Mb)} {pack : Option Int} (h : Xs xs) (hp : PkOk pack) :
    f_msvc_structure (.lst (xs.map rowD)) (optD pack) = M.pure (.tup [.lst (((rowsX xs).foldl (msStep pack) ⟨0, 1, [], 0, 0⟩).ps.map D.int), .int ((rowsX xs).foldl (msStep pack) ⟨0, 1, [], 0, 0⟩).at_, .int ((rowsX xs).foldl (msStep pack) ⟨0, 1, [], 0, 0⟩).least]) := by
  funext S
  simp only [foldX]
  simp [f_msvc_structure]
  rw [show ((D.int 0, D.int 1, ([] : List D), D.int 0, D.int 0) : D × D × List D × D × D) = msE ⟨0, 1, [], 0, 0⟩ from rfl, for_enc rowD msE (fun s x => msStep pack s x.2.row) (fun s t => (∀ x ∈ t, x ∈ xs) ∧ s.ps.length + t.length ≤ 4096) xs ⟨0, 1, [], 0, 0⟩]
  · simp
  · rintro s x t ⟨hm, hl⟩
    have hx := hm x List.mem_cons_self
    have hr := h.row hx
    have hb := stp_bd hp hr.2.2.1 hr.2.2.2.1
    have hq : szLt s.ps.length = true := szLt_of' (by rw [List.length_cons] at hl; omega)
    have hup : ∀ a : Int, f_up (.int a) (.int (stp pack x.2.k.al)) = M.pure (.int (up a (stp pack x.2.k.al))) := fun a => ok_up (by show 0 < stp pack x.2.row.al; omega) (by show stp pack x.2.row.al < _; omega)
    have hlen : (msStep pack s x.2.row).ps.length = s.ps.length + 1 := by
      unfold msStep
      split
      · simp
      · split
        · simp
        · split <;> simp
    refine ⟨?_, fun y hy => hm y (List.mem_cons_of_mem _ hy), by rw [hlen]; rw [List.length_cons] at hl; omega⟩
    cases eb : x.2.b with
    | none => simp [ok_step_of (h.lk x hx) (h.ko x hx) (h.dp x hx), eb, ok_size_of 12 (h.lk x hx) (h.ko x hx) (h.dp x hx), msStep, msLeast, Mb.row, hup, hq]
    | some b =>
      by_cases e2 : b = 0
      · simp [ok_step_of (h.lk x hx) (h.ko x hx) (h.dp x hx), eb, ok_size_of 12 (h.lk x hx) (h.ko x hx) (h.dp x hx), msStep, msLeast, Mb.row, hup, hq, e2]
      · by_cases e3 : s.unit = x.2.k.sz
        · by_cases e4 : s.used + b > 8 * x.2.k.sz
          · simp [ok_step_of (h.lk x hx) (h.ko x hx) (h.dp x hx), eb, ok_size_of 12 (h.lk x hx) (h.ko x hx) (h.dp x hx), msStep, msLeast, Mb.row, hup, hq, e2, e3, e4]
            done
          · simp [ok_step_of (h.lk x hx) (h.ko x hx) (h.dp x hx), eb, ok_size_of 12 (h.lk x hx) (h.ko x hx) (h.dp x hx), msStep, msLeast, Mb.row, hup, hq, e2, e3, e4]
            done
        · simp [ok_step_of (h.lk x hx) (h.ko x hx) (h.dp x hx), eb, ok_size_of 12 (h.lk x hx) (h.ko x hx) (h.dp x hx), msStep, msLeast, Mb.row, hup, hq, e2, e3]
          done
  · exact ⟨fun x hx => hx, by simpa using h.ln⟩
end Lw
/-! declarations that are right pass the checks -/
namespace Lw
open PySem L2 Dl Ly
theorem word_cv {m : Bool} : f_is_word_of (.str (cvS m)) c_CONVENTIONS = M.pure (.bl true) := by
  funext S
  cases m <;> simp [f_is_word_of, c_CONVENTIONS, cvS, dIn, D.thin, inD, D.same0, Ty.sub]
theorem word_en {m : Bool} : f_is_word_of (.str (enS m)) c_ENDS = M.pure (.bl true) := by
  funext S
  cases m <;> simp [f_is_word_of, c_ENDS, enS, dIn, D.thin, inD, D.same0, Ty.sub]
theorem num_pack {x : Int} (h : x = 1 ∨ x = 2 ∨ x = 4 ∨ x = 8 ∨ x = 16) : f_is_number_of (.int x) c_PACKS = M.pure (.bl true) := by
  funext S
  rcases h with h | h | h | h | h <;> subst h <;> simp [f_is_number_of, c_PACKS, dIn, D.thin, inD, D.same0]
theorem num_align {x : Int} (h : x = 1 ∨ x = 2 ∨ x = 4 ∨ x = 8 ∨ x = 16 ∨ x = 32) : f_is_number_of (.int x) c_ALIGNS = M.pure (.bl true) := by
  funext S
  rcases h with h | h | h | h | h | h <;> subst h <;> simp [f_is_number_of, c_ALIGNS, dIn, D.thin, inD, D.same0]
theorem ok_checked_options {o : Opt} (hp : PkOk o.pack) (ha : AlOk o.align) : f_checked_options (.str (cvS o.msvc)) (optD o.pack) (optD o.align) (.str (enS o.big)) = M.pure (.tup [.str (cvS o.msvc), optD o.pack, optD o.align, .str (enS o.big)]) := by
  funext S
  cases e1 : o.pack with
  | none =>
    cases e2 : o.align with
    | none => simp [f_checked_options, word_cv, word_en]
    | some a => simp [f_checked_options, word_cv, word_en, num_align (ha a e2)]
  | some p =>
    cases e2 : o.align with
    | none => simp [f_checked_options, word_cv, word_en, num_pack (hp p e1)]
    | some a => simp [f_checked_options, word_cv, word_en, num_pack (hp p e1), num_align (ha a e2)]
theorem shape_tup {ds : List D} : dIsX tabC [] ["Shape"] (.tup ds) = M.pure (.bl false) := rfl
theorem no_int_kind {d : D} {n : Int} : f_is_integer_kind (arrD d n) = M.pure (.bl false) := by
  funext S
  simp [f_is_integer_kind, Ty.sub, str_int_ne]
theorem ok_arr_kind {d : D} {n : Int} (h : 0 ≤ n) : f_is_array_kind (arrD d n) = M.pure (.bl true) := by
  funext S
  simp [f_is_array_kind, Ty.sub, h]
theorem tuple_tup {ds : List D} : dTuple (.tup ds) = M.pure (.tup ds) := rfl
theorem ok_checked_kind : ∀ (n : Nat) {d : D} {k : Kd}, LK d k → KOk k → k.depth < n → f_checked_kind n d = M.pure d
  | 0, _, _, _, _, h => by omega
  | n + 1, d, k, l, ko, h => by
    funext S
    cases l with
    | int =>
      cases ko with
      | int hs => simp [f_checked_kind, shape_tup, ok_int_kind hs, tuple_tup]
    | arr l =>
      cases ko with
      | arr ko h0 h1 h2 h3 h4 =>
        rw [Kd.depth] at h
        simp [f_checked_kind, shape_tup, no_int_kind, ok_arr_kind h0, ok_checked_kind n l ko (by omega)]
    | lay xs hx => simp [f_checked_kind, shape_obj]
/-- a member as it is passed -/
def memD (x : D × Mb) : D := match x.2.b with
  | none => .tup [nmD x.2.nm, x.1]
  | some b => .tup [nmD x.2.nm, x.1, .int b]
theorem notn_name {x : Str} (h : NmOk x) : f_is_name (.str x) = M.pure (.bl true) := h.2
theorem in23 {i : Int} : (dIn true (.int i) (.tup [.int 2, .int 3]) : M D) = M.pure (.bl (!((2 == i) || (3 == i)))) := by
  have : dIn true (.int i) (.tup [.int 2, .int 3]) = Dl.guard ((D.int i).thin && [D.int 2, D.int 3].all D.thin) (M.pure (.bl (if true = true then !inD (.int i) [.int 2, .int 3] else inD (.int i) [.int 2, .int 3]))) := rfl
  rw [this]
  simp [D.thin, inD, D.same0]
theorem ok_checked_member {x : D × Mb} {p : D} (l : LK x.1 x.2.k) (ko : KOk x.2.k) (mo : MbOk x.2) (hd : x.2.k.depth < 12) : f_checked_member p (memD x) = M.pure (rowD x) := by
  funext S
  have hk := ok_checked_kind 12 l ko hd
  unfold memD
  cases eb : x.2.b with
  | none =>
    cases en : x.2.nm with
    | none =>
      obtain ⟨o, ms, ek⟩ := mo.bare eb en
      rw [ek] at l
      have hs : dIsX tabC [] ["Shape"] x.1 = M.pure (.bl true) := by
        revert l
        generalize x.1 = d
        intro l
        cases l; exact shape_obj
      simp [f_checked_member, hk, eb, en, in23, hs]
    | some y =>
      simp [f_checked_member, hk, eb, en, in23, notn_name (mo.nm y en)]
  | some b =>
    obtain ⟨h1, h2, h3, s, g, ek⟩ := mo.bits b eb
    rw [ek] at l ko h2
    rw [Kd.sz] at h2
    have ex : x.1 = intD s g := by
      revert l
      generalize x.1 = d
      intro l
      cases l; rfl
    have hz : SzOk s := by cases ko with | int h => exact h
    rw [ex] at hk
    cases en : x.2.nm with
    | none =>
      by_cases e0 : b = 0
      · subst e0
        simp [f_checked_member, hk, eb, en, in23, ex, ok_int_kind hz, h1, h2]
        done
      · simp [f_checked_member, hk, eb, en, in23, ex, ok_int_kind hz, h1, h2, e0]
        done
    | some y =>
      have e0 : b ≠ 0 := fun e => by have := h3 e; rw [en] at this; cases this
      simp [f_checked_member, hk, eb, en, in23, notn_name (mo.nm y en), ex, ok_int_kind hz, h1, h2, e0]
      done
end Lw
/-! layouts are made -/
namespace Lw
open PySem L2 Dl Ly
theorem enum_lst' {ds : List D} : enumM (.lst ds) = M.pure (enumD ds) := rfl
theorem enum_map {α : Type} (f : α → D) (xs : List α) : enumD (xs.map f) = ((List.range xs.length).zip xs).map fun p => .tup [.int (p.1 : Nat), f p.2] := by
  unfold enumD
  rw [List.length_map, List.zip_map, List.map_map]
  rfl
theorem zip_snd {α β : Type} : ∀ (l : List β) (xs : List α), xs.length ≤ l.length → (l.zip xs).map (·.2) = xs
  | _, [], _ => by simp
  | [], _ :: _, h => nomatch h
  | b :: l, x :: xs, h => by
    rw [List.zip_cons_cons, List.map_cons, zip_snd l xs (by simpa using h)]
theorem ok_checked_members {xs : List (D × Mb)} (h : Xs xs) : f_checked_members (.lst (xs.map memD)) = M.pure (.lst (xs.map rowD)) := by
  funext S
  have hz : szOk (List.map (fun (p : Nat × (D × Mb)) => D.tup [.int (p.1 : Nat), memD p.2]) ((List.range xs.length).zip xs)).length = true := by
    refine szOk_le ?_
    have := h.ln
    simp; omega
  simp only [f_checked_members, ev_fin, ev_ret, ev_frz, ev_mapX, ev_bind, ev_pure, at_ok, enum_lst', enum_map, hz, if_true]
  rw [map_enc (fun (p : Nat × (D × Mb)) => D.tup [.int (p.1 : Nat), memD p.2]) (fun p => rowD p.2)]
  · simp only [at_ok, fnR_ret]
    rw [show (fun (p : Nat × (D × Mb)) => rowD p.2) = rowD ∘ (·.2) from rfl, ← List.map_map, zip_snd _ _ (by simp)]
  · intro p hp
    have hx : p.2 ∈ xs := List.of_mem_zip hp |>.2
    simp [ok_checked_member (h.lk _ hx) (h.ko _ hx) (h.mo _ hx) (h.dp _ hx)]
/-- the names that a member brings -/
def Mb.names (m : Mb) : List Str := match m.nm, m.b with
  | some x, _ => [x]
  | none, none => m.k.names
  | none, some _ => []
theorem names_cons {nm : Option Str} {k : Kd} {b : Option Int} {t : Mbs} : (Mbs.cons nm k b t).names = Mb.names ⟨nm, k, b⟩ ++ t.names := by
  cases nm with
  | some x => rw [Mbs.names]; rfl
  | none =>
    cases b with
    | none => rw [Mbs.names]; rfl
    | some b => rw [Mbs.names]; rfl
theorem names_of_list : ∀ l : List Mb, (Mbs.of l).names = l.flatMap Mb.names
  | [] => by rw [Mbs.of, Mbs.names]; rfl
  | m :: l => by rw [Mbs.of, names_cons, names_of_list l]; rfl
theorem asLst_lst {ds : List D} : asLst (.lst ds) = M.pure ds := rfl
abbrev strD (l : List Str) : List D := l.map D.str
theorem foldl_app {α β : Type} (f : α → List β) : ∀ (xs : List α) (acc : List β), xs.foldl (fun c x => c ++ f x) acc = acc ++ xs.flatMap f
  | [], acc => by simp
  | x :: xs, acc => by rw [List.foldl_cons, foldl_app f xs, List.flatMap_cons, List.append_assoc]
theorem ok_names_of : ∀ (n : Nat) {xs : List (D × Mb)}, (∀ x ∈ xs, LK x.1 x.2.k) → (∀ x ∈ xs, MbOk x.2) → (∀ x ∈ xs, KOk x.2.k) → (∀ x ∈ xs, x.2.k.depth < n.succ) → (xs.flatMap fun x => Mb.names x.2).length ≤ 65536 →
    f_names_of n.succ (.lst (xs.map rowD)) = M.pure (.lst (strD (xs.flatMap fun x => Mb.names x.2)))
  | n, xs, lk, mo, ko, dp, hl => by
    funext S
    simp [f_names_of]
    rw [show ([] : List D) = strD [] from rfl, for_enc rowD strD (fun acc x => acc ++ Mb.names x.2) (fun acc t => (∀ x ∈ t, x ∈ xs) ∧ acc.length + (t.flatMap fun x => Mb.names x.2).length ≤ 65536) xs []]
    · rw [foldl_app]; simp
    · rintro acc x t ⟨hm, hc⟩
      have hx := hm x List.mem_cons_self
      rw [List.flatMap_cons, List.length_append] at hc
      refine ⟨?_, fun y hy => hm y (List.mem_cons_of_mem _ hy), by rw [List.length_append]; omega⟩
      cases en : x.2.nm with
      | some y =>
        have e : Mb.names x.2 = [y] := by unfold Mb.names; rw [en]
        rw [e] at hc ⊢
        have hq : szLt acc.length = true := szLt_of' (by simp at hc; omega)
        simp [en, hq]
      | none =>
        cases eb : x.2.b with
        | some b =>
          have e : Mb.names x.2 = [] := by unfold Mb.names; rw [en, eb]
          rw [e]
          simp [en, eb]
        | none =>
          have e : Mb.names x.2 = x.2.k.names := by unfold Mb.names; rw [en, eb]
          rw [e] at hc ⊢
          obtain ⟨o, ms, ek⟩ := (mo x hx).bare eb en
          have l := lk x hx
          have k1 := ko x hx
          have d1 := dp x hx
          obtain ⟨d, m⟩ := x
          simp only at ek l k1 d1 hc en eb ⊢
          obtain ⟨nm, k, b⟩ := m
          simp only at ek l k1 d1 hc en eb ⊢
          subst ek en eb
          cases l with
          | @lay i o ys hy =>
            rw [Kd.depth] at d1
            rw [Kd.names, names_of_list, List.flatMap_map] at hc ⊢
            cases k1 with
            | lay hp ha hm' hb' hn h6 h5 h1 h2 h3 =>
              rw [of_list] at hm' hb'
              match n, d1 with
              | n + 1, d1 =>
                have ih := ok_names_of n (xs := ys) hy (fun y hy' => hb' y.2 (List.mem_map_of_mem hy')) (fun y hy' => hm' y.2 (List.mem_map_of_mem hy')) (fun y hy' => by
                  have := depth_mem (Mbs.of (ys.map (·.2))) y.2 (by rw [of_list]; exact List.mem_map_of_mem hy')
                  omega) (by omega)
                have hq : szOk (acc.length + (ys.flatMap fun x => Mb.names x.2).length) = true := szOk_le (by omega)
                simp [ih, asLst_lst, hq, -List.length_flatMap]
    · exact ⟨fun x hx => hx, by simpa using hl⟩
theorem for_enc' {C L A X : Type} {S : MS} {body : C → D → M (Fl C C)} (e : X → D) (emb : A → C) (g : A → X → A) (I : A → List X → Prop) (xs : List X) (a : A) {c0 : C} (hc : c0 = emb a) (h : ∀ a x t, I a (x :: t) → body (emb a) (e x) S = .ok (.nx (emb (g a x))) S ∧ I (g a x) t) (hi : I a xs) :
    (Dl.forM body (xs.map e) c0 : M (Fl C L)) S = .ok (.nx (emb (xs.foldl g a))) S := by rw [hc]; exact for_enc e emb g I xs a h hi
theorem in_strs {x : Str} {acc : List Str} : dIn false (.str x) (.lst (strD acc)) = M.pure (.bl (acc.any fun y => y == x)) := by
  have e : dIn false (.str x) (.lst (strD acc)) = Dl.guard ((D.str x).thin && (strD acc).all D.thin) (M.pure (.bl (if false = true then !inD (.str x) (strD acc) else inD (.str x) (strD acc)))) := rfl
  have h1 : (strD acc).all D.thin = true := by
    rw [List.all_eq_true]; intro d hd
    obtain ⟨y, _, rfl⟩ := List.mem_map.mp hd
    rfl
  have h2 : inD (.str x) (strD acc) = acc.any fun y => y == x := by
    unfold inD strD
    rw [List.any_map]; rfl
  rw [e, h1, h2]; rfl
theorem ok_checked_names {xs : List (D × Mb)} (h : Xs xs) (hn : (xs.flatMap fun x => Mb.names x.2).Nodup) (hl : (xs.flatMap fun x => Mb.names x.2).length ≤ 65536) : f_checked_names (.lst (xs.map rowD)) = M.pure (.lst (strD (xs.flatMap fun x => Mb.names x.2))) := by
  funext S
  have hk := ok_names_of 11 (xs := xs) h.lk h.mo h.ko h.dp hl
  simp [f_checked_names, hk]
  generalize (xs.flatMap fun x => Mb.names x.2) = ns at hn hl ⊢
  rw [for_enc' D.str strD (fun acc x => acc ++ [x]) (fun acc t => acc ++ t = ns) ns [] (c0 := []) rfl]
  · have e : ∀ (l acc : List Str), l.foldl (fun acc x => acc ++ [x]) acc = acc ++ l := fun l => by
      induction l with
      | nil => intro acc; simp
      | cons x l ih => intro acc; rw [List.foldl_cons, ih]; simp
    simp [e]
  · rintro acc x t e
    have nd : (acc ++ x :: t).Nodup := by rw [e]; exact hn
    have hx : (acc.any fun y => y == x) = false := by
      rw [List.any_eq_false]
      intro y hy q
      have q : y = x := by simpa using q
      subst q
      exact (List.nodup_append.mp nd).2.2 y hy y List.mem_cons_self rfl
    have hq : szLt acc.length = true := szLt_of' (by
      have := congrArg List.length e
      rw [List.length_append] at this
      omega)
    refine ⟨?_, by rw [List.append_assoc]; exact e⟩
    simp [in_strs, hx, hq]
  · rfl
end Lw
/-! a layout is made: an object of its own -/
namespace Lw
open PySem L2 Dl Ly
/-- a state with one cell more -/
abbrev more (S : MS) (c : Cell) : MS := { S with cells := S.cells ++ [c] }
theorem more_put {S : MS} {c c' : Cell} : (more S c).put S.cells.length c' = more S c' := by
  unfold MS.put more
  simp
theorem set_more {S : MS} {f : Str} {v : D} {fs : List (Str × D)} (h : fs.length < 900) : setF "Layout" f (.ptr S.cells.length) v (more S (.ins "Layout" fs)) = .ok () (more S (.ins "Layout" (putFD f v fs))) := by
  unfold setF
  simp only [List.getElem?_concat_length, if_true, h, more_put]
theorem fld_more {S : MS} {f : Str} {v : D} {fs : List (Str × D)} (h : fs.lookup f = some v) : dFld "Layout" f (.ptr S.cells.length) (more S (.ins "Layout" fs)) = .ok v (more S (.ins "Layout" fs)) := by
  unfold dFld insOf
  simp only [List.getElem?_concat_length, if_true, h]
theorem frz_more {S : MS} {fs : List (Str × D)} : frzP (.ptr S.cells.length) (more S (.ins "Layout" fs)) = .ok (.obj S.cells.length "Layout" (fs.map Prod.fst) (fs.map Prod.snd)) (more S .out) := by
  unfold frzP
  simp only [List.getElem?_concat_length, more_put]
theorem ok_init {S : MS} {rows ps : List D} {taken least : Int} {o : Opt} (h1 : 1 ≤ least) (h2 : least ≤ 32) (ha : AlOk o.align) :
    f_Layout_init (.ptr S.cells.length) (.lst rows) (.tup [.lst ps, .int taken, .int least]) (.str (cvS o.msvc)) (optD o.align) (.str (enS o.big)) (more S (.ins "Layout" [])) =
      .ok .non (more S (.ins "Layout" [("rows", .lst rows), ("positions", .lst ps), ("step", .int (stepOf o ⟨[], taken, least⟩)), ("extent", .int (up taken (stepOf o ⟨[], taken, least⟩))), ("rule", .str (cvS o.msvc)), ("order", .str (enS o.big))])) := by
  have hs := step_bd (o := o) (l := ⟨[], taken, least⟩) ha h1 h2
  have hup : f_up (.int taken) (.int (stepOf o ⟨[], taken, least⟩)) = M.pure (.int (up taken (stepOf o ⟨[], taken, least⟩))) := ok_up (by omega) (by omega)
  have e0 : putFD "rows" (.lst rows) [] = [(("rows" : Str), D.lst rows)] := rfl
  have e1 : putFD "positions" (.lst ps) [(("rows" : Str), D.lst rows)] = [(("rows" : Str), D.lst rows), ("positions", .lst ps)] := rfl
  have e2 : ∀ v : D, putFD "step" v [(("rows" : Str), D.lst rows), ("positions", .lst ps)] = [(("rows" : Str), D.lst rows), ("positions", .lst ps), ("step", v)] := fun _ => rfl
  have e3 : ∀ v w : D, putFD "extent" w [(("rows" : Str), D.lst rows), ("positions", .lst ps), ("step", v)] = [(("rows" : Str), D.lst rows), ("positions", .lst ps), ("step", v), ("extent", w)] := fun _ _ => rfl
  have e4 : ∀ v w x : D, putFD "rule" x [(("rows" : Str), D.lst rows), ("positions", .lst ps), ("step", v), ("extent", w)] = [(("rows" : Str), D.lst rows), ("positions", .lst ps), ("step", v), ("extent", w), ("rule", x)] := fun _ _ _ => rfl
  have hst : ∀ S', (ifM (tst (una dIsN (M.pure (optD o.align)))) (M.pure (D.int least)) (callM (ar2 dMax) [M.pure (D.int least), M.pure (optD o.align)]) : M D) S' = .ok (.int (stepOf o ⟨[], taken, least⟩)) S' := by
    intro S'
    cases e : o.align with
    | none => simp [stepOf, e]
    | some a => simp [stepOf, e]
  unfold f_Layout_init
  rw [ev_fin, ev_bind, ev_pure, at_ok, ev_un3, ev_bind, ev_pure, at_ok, ev_bind, ev_pure, at_ok, ev_bind, set_more (by simp), at_ok, ev_bind, ev_pure, at_ok, ev_bind, ev_pure, at_ok, ev_bind, e0, set_more (by simp), at_ok, e1, ev_bind, hst, at_ok, ev_bind, ev_pure, at_ok, ev_bind, set_more (by simp), at_ok, ev_bind, ev_call, ev_args1, ev_pure, at_ok, ev_args1, ev_una, ev_pure, at_ok]
  rw [fld_more (v := .int (stepOf o ⟨[], taken, least⟩)) rfl]
  simp only [at_ok, ev_args0, ev_ar2, hup, ev_pure, ev_bind]
  rw [e2, set_more (by simp)]
  simp only [at_ok]
  rw [e3, set_more (by simp)]
  simp only [at_ok]
  rw [e4, set_more (by simp)]
  rfl
theorem ok_new {S : MS} {rows ps : List D} {taken least : Int} {o : Opt} (h1 : 1 ≤ least) (h2 : least ≤ 32) (ha : AlOk o.align) :
    (M.bind (newM "Layout" (ar6 f_Layout_init) [(M.pure (.lst rows)), (M.pure (.tup [.lst ps, .int taken, .int least])), (M.pure (.str (cvS o.msvc))), (M.pure (optD o.align)), (M.pure (.str (enS o.big)))]) frzP) S =
      .ok (layD S.cells.length rows ps (stepOf o ⟨[], taken, least⟩) (up taken (stepOf o ⟨[], taken, least⟩)) (cvS o.msvc) (enS o.big)) (more S .out) := by
  have e : newM "Layout" (ar6 f_Layout_init) [(M.pure (.lst rows)), (M.pure (.tup [.lst ps, .int taken, .int least])), (M.pure (.str (cvS o.msvc))), (M.pure (optD o.align)), (M.pure (.str (enS o.big)))] S = .ok (.ptr S.cells.length) (more S (.ins "Layout" [("rows", .lst rows), ("positions", .lst ps), ("step", .int (stepOf o ⟨[], taken, least⟩)), ("extent", .int (up taken (stepOf o ⟨[], taken, least⟩))), ("rule", .str (cvS o.msvc)), ("order", .str (enS o.big))])) := by
    unfold newM
    rw [ev_bind]
    simp only [ev_args1, ev_args0, ev_pure, at_ok]
    have := ok_init (S := S) (rows := rows) (ps := ps) (taken := taken) (o := o) h1 h2 ha
    simp only [ev_ar6, this]
  rw [ev_bind, e, at_ok, frz_more]
  rfl
@[simp] theorem cv_plain {m : Bool} : (D.str (cvS m)).plain = true := by cases m <;> decide +kernel
@[simp] theorem en_plain {m : Bool} : (D.str (enS m)).plain = true := by cases m <;> decide +kernel
@[simp] theorem cv_msvc {m : Bool} : (cvS m = "msvc") = (m = true) := by
  cases m with
  | true => simp [cvS]
  | false => simp [cvS]; decide
@[simp] theorem cv_sysv {m : Bool} : (cvS m = "sysv") = (m = false) := by
  cases m with
  | true => simp [cvS]; decide
  | false => simp [cvS]
@[simp] theorem en_little {m : Bool} : (enS m = "little") = (m = false) := by
  cases m with
  | true => simp [enS]; decide
  | false => simp [enS]
/-- the layout of right members -/
theorem ok_layout_of {S : MS} {xs : List (D × Mb)} {o : Opt} (h : Xs xs) (hp : PkOk o.pack) (ha : AlOk o.align) (hn : (xs.flatMap fun x => Mb.names x.2).Nodup) (hl : (xs.flatMap fun x => Mb.names x.2).length ≤ 65536) :
    f_layout_of (.lst (xs.map memD)) (.str (cvS o.msvc)) (optD o.pack) (optD o.align) (.str (enS o.big)) (.bl o.union) S =
      .ok (layD S.cells.length (xs.map rowD) ((laid o (rowsX xs)).ps.map D.int) (stepOf o (laid o (rowsX xs))) (Ly.sizeOf o (laid o (rowsX xs))) (cvS o.msvc) (enS o.big)) (more S .out) := by
  have hr : ∀ r ∈ rowsX xs, r.ok := fun r hr => by
    obtain ⟨x, hx, rfl⟩ := List.mem_map.mp hr
    exact h.row hx
  have hb := laid_bd (o := o) hp hr
  have hnew := ok_new (S := S) (rows := xs.map rowD) (ps := (laid o (rowsX xs)).ps.map D.int) (taken := (laid o (rowsX xs)).taken) (least := (laid o (rowsX xs)).least) (o := o) hb.1 hb.2.1 ha
  have hst : ∀ l : Laid, stepOf o ⟨[], l.taken, l.least⟩ = stepOf o l := fun l => rfl
  have hl2 : (rowsX xs).length = xs.length := by unfold rowsX; rw [List.length_map]
  rw [hst] at hnew
  rw [ev_bind] at hnew
  obtain ⟨m, p, a, b, u⟩ := o
  cases m <;> cases u
  · simp [laid] at hnew
    simp [f_layout_of, ok_checked_options (o := ⟨false, p, a, b, false⟩) hp ha, ok_checked_members h, ok_checked_names h hn hl, ok_sysv_structure h hp, laid, Ly.sizeOf, hnew]
  · simp [laid] at hnew
    simp [f_layout_of, ok_checked_options (o := ⟨false, p, a, b, true⟩) hp ha, ok_checked_members h, ok_checked_names h hn hl, ok_sysv_union h hp, laid, Ly.sizeOf, hl2, hnew]
    rw [hl2] at hnew
    simp [hnew]
  · simp [laid] at hnew
    simp [f_layout_of, ok_checked_options (o := ⟨true, p, a, b, false⟩) hp ha, ok_checked_members h, ok_checked_names h hn hl, ok_msvc_structure h hp, laid, Ly.sizeOf, hnew]
  · simp [laid] at hnew
    simp [f_layout_of, ok_checked_options (o := ⟨true, p, a, b, true⟩) hp ha, ok_checked_members h, ok_checked_names h hn hl, ok_msvc_union h hp, laid, Ly.sizeOf, hl2, hnew]
    rw [hl2] at hnew
    simp [hnew]
end Lw
/-! the law's own way to count is the same -/
namespace Ly
open PySem L2 Dl
def Row.ok2 (r : Row) : Prop := ∀ b, r.b = some b → 0 ≤ b ∧ (b = 0 → r.nm = none)
end Ly
/-! the law's own ways to lay out -/
namespace Lw
open PySem L2 Dl Ly
@[simp] theorem int_bl {b : Bool} : dInt (.bl b) = M.pure (.int (if b = true then 1 else 0)) := rfl
end Lw
/-! plans: what the law lays out by itself -/
namespace Lw
open PySem L2 Dl Ly
structure PlanD (d : D) (o : Opt) (ms : List D) : Prop where
  dic : ∃ ks vs, d = .dic ks vs
  mem : dGetK d (.str "members") = M.pure (.lst ms)
  cv : dGetK d (.str "convention") = M.pure (.str (cvS o.msvc))
  pk : dGetK d (.str "pack") = M.pure (optD o.pack)
  al : dGetK d (.str "align") = M.pure (optD o.align)
  en : dGetK d (.str "ends") = M.pure (.str (enS o.big))
  un : dGetK d (.str "union") = M.pure (.bl o.union)
theorem PlanD.isd {d : D} {o : Opt} {ms : List D} (h : PlanD d o ms) : dIsX tabC [.dict] [] d = M.pure (.bl true) := by
  obtain ⟨ks, vs, e⟩ := h.dic
  rw [e]; rfl
/-- kinds of plans as data -/
inductive PD : D → Kd → Prop
  | int {s : Int} {g : Bool} : PD (intD s g) (.int s g)
  | arr {d : D} {k : Kd} {n : Int} : PD d k → PD (arrD d n) (.arr k n)
  | lay {d : D} {o : Opt} (xs : List (D × Mb)) : PlanD d o (xs.map rowD) → (∀ x ∈ xs, PD x.1 x.2.k) → PD d (.lay o (Mbs.of (xs.map (·.2))))
@[simp] theorem get_places {a b c : D} : dGetK (.dic [.inr "places", .inr "size", .inr "step"] [a, b, c]) (.str "places") = M.pure a := rfl
@[simp] theorem get_size {a b c : D} : dGetK (.dic [.inr "places", .inr "size", .inr "step"] [a, b, c]) (.str "size") = M.pure b := rfl
@[simp] theorem get_step {a b c : D} : dGetK (.dic [.inr "places", .inr "size", .inr "step"] [a, b, c]) (.str "step") = M.pure c := rfl
theorem nodict {ds : List D} : dIsX tabC [.dict] [] (.tup ds) = M.pure (.bl false) := rfl
/-- members of a plan with their kinds as data, all of them right -/
structure Ps (xs : List (D × Mb)) : Prop where
  pd : ∀ x ∈ xs, PD x.1 x.2.k
  ko : ∀ x ∈ xs, KOk x.2.k
  mo : ∀ x ∈ xs, MbOk x.2
  ln : xs.length ≤ 4096
theorem Ps.row {xs : List (D × Mb)} (h : Ps xs) {x : D × Mb} (hx : x ∈ xs) : x.2.row.ok := by
  have b := (h.ko x hx).bd
  refine ⟨b.1, b.2.1, b.2.2.1, b.2.2.2, fun bb e => ?_⟩
  obtain ⟨q1, q2, q3, s, g, q4⟩ := (h.mo x hx).bits bb e
  refine ⟨q1, q2, ?_⟩
  have := h.ko x hx
  show SzOk x.2.k.sz
  rw [q4] at this ⊢
  cases this with
  | int h => rw [Kd.sz]; exact h
theorem Ps.row2 {xs : List (D × Mb)} (h : Ps xs) {x : D × Mb} (hx : x ∈ xs) : x.2.row.ok2 := fun b e => by
  obtain ⟨q1, q2, q3, _⟩ := (h.mo x hx).bits b e
  exact ⟨q1, q3⟩
theorem Ps.rows {xs : List (D × Mb)} (h : Ps xs) : (∀ r ∈ rowsX xs, r.ok) ∧ (∀ r ∈ rowsX xs, r.ok2) ∧ (rowsX xs).length ≤ 4096 := by
  refine ⟨fun r hr => ?_, fun r hr => ?_, by unfold rowsX; rw [List.length_map]; exact h.ln⟩
  · obtain ⟨x, hx, rfl⟩ := List.mem_map.mp hr; exact h.row hx
  · obtain ⟨x, hx, rfl⟩ := List.mem_map.mp hr; exact h.row2 hx
theorem Ps.of {d : D} {o : Opt} {xs : List (D × Mb)} (ko : KOk (.lay o (Mbs.of (xs.map (·.2))))) (hx : ∀ x ∈ xs, PD x.1 x.2.k) : Ps xs := by
  cases ko with
  | lay hp ha hm hb hn h6 h5 h1 h2 h3 =>
    rw [of_list] at hm hb h5
    exact ⟨hx, fun x hx => hm _ (List.mem_map_of_mem hx), fun x hx => hb _ (List.mem_map_of_mem hx), by rw [List.length_map] at h5; exact h5⟩
theorem rowsX_of {xs : List (D × Mb)} : (Mbs.of (xs.map (·.2))).rows = rowsX xs := by
  rw [rows_eq, of_list, List.map_map]; rfl
end Lw
/-! sizes and alignments of plans -/
/-! positions; bits; berths; shapes -/
namespace Ly
open PySem L2 Dl
/-! ### positions lie within -/
theorem sv_ps {p : Option Int} (hp : PkOk p) : ∀ (rs : List Row) (s : Sv), (∀ r ∈ rs, r.ok) → 0 ≤ s.at_ → (∀ x ∈ s.ps, 0 ≤ x ∧ x ≤ s.at_) → (∀ x ∈ (rs.foldl (svStep p) s).ps, 0 ≤ x ∧ x ≤ (rs.foldl (svStep p) s).at_) ∧ (rs.foldl (svStep p) s).ps.length = s.ps.length + rs.length
  | [], s, _, _, h => ⟨h, rfl⟩
  | r :: rs, s, h, h0, hx => by
    have hr := h r List.mem_cons_self
    have hs := stp_bd hp hr.2.2.1 hr.2.2.2.1
    have a0 : s.at_ ≤ svAt p s.at_ r := by
      unfold svAt
      have := up_ge (a := s.at_) (s := 8 * stp p r.al) (by omega)
      split
      · exact this
      · split
        · exact this
        · exact Int.le_refl _
    have a1 : 0 ≤ svTake r := by
      unfold svTake
      split
      · have := hr.1; omega
      · rename_i b e; exact (hr.2.2.2.2 b e).1
    have ih := sv_ps hp rs (svStep p s r) (fun x hx => h x (List.mem_cons_of_mem _ hx)) (by show 0 ≤ svAt p s.at_ r + svTake r; omega) (fun x hx' => by
      have hx' : x ∈ s.ps ++ [svAt p s.at_ r] := hx'
      show 0 ≤ x ∧ x ≤ svAt p s.at_ r + svTake r
      rcases List.mem_append.mp hx' with q | q
      · have := hx x q; omega
      · have : x = svAt p s.at_ r := by simpa using q
        omega)
    refine ⟨ih.1, ih.2.trans ?_⟩
    show (s.ps ++ [_]).length + rs.length = _
    rw [List.length_append, List.length_singleton, List.length_cons]; omega
theorem ms_ps {p : Option Int} (hp : PkOk p) : ∀ (rs : List Row) (s : Ms), (∀ r ∈ rs, r.ok) → 0 ≤ s.at_ → (s.unit ≠ 0 → s.unit ≤ s.at_ ∧ 0 ≤ s.used ∧ s.used ≤ 8 * s.unit) → (∀ x ∈ s.ps, 0 ≤ x ∧ x ≤ 8 * s.at_) → (∀ x ∈ (rs.foldl (msStep p) s).ps, 0 ≤ x ∧ x ≤ 8 * (rs.foldl (msStep p) s).at_) ∧ (rs.foldl (msStep p) s).ps.length = s.ps.length + rs.length
  | [], s, _, _, _, h => ⟨h, rfl⟩
  | r :: rs, s, h, h0, hu, hx => by
    have hr := h r List.mem_cons_self
    have hs := stp_bd hp hr.2.2.1 hr.2.2.2.1
    have a0 := up_ge (a := s.at_) (s := stp p r.al) (by omega)
    have z0 := hr.1
    have key : 0 ≤ (msStep p s r).at_ ∧ ((msStep p s r).unit ≠ 0 → (msStep p s r).unit ≤ (msStep p s r).at_ ∧ 0 ≤ (msStep p s r).used ∧ (msStep p s r).used ≤ 8 * (msStep p s r).unit) ∧ (∀ x ∈ (msStep p s r).ps, 0 ≤ x ∧ x ≤ 8 * (msStep p s r).at_) ∧ (msStep p s r).ps.length = s.ps.length + 1 := by
      unfold msStep
      cases eb : r.b with
      | none =>
        refine ⟨by simp only; omega, fun z => absurd rfl z, fun x hx' => ?_, by simp⟩
        rcases List.mem_append.mp hx' with q | q
        · have := hx x q; simp only; omega
        · have : x = 8 * up s.at_ (stp p r.al) := by simpa using q
          simp only; omega
      | some b =>
        obtain ⟨b0, b1, bz⟩ := hr.2.2.2.2 b eb
        by_cases e0 : b = 0
        · simp only [e0, if_true]
          refine ⟨h0, fun z => absurd rfl z, fun x hx' => ?_, by simp⟩
          rcases List.mem_append.mp hx' with q | q
          · exact hx x q
          · have : x = 8 * s.at_ := by simpa using q
            omega
        · simp only [e0, if_false]
          by_cases e3 : s.unit ≠ r.sz ∨ s.used + b > 8 * r.sz
          · simp only [e3, if_true]
            refine ⟨by omega, fun _ => ⟨by omega, by omega, by omega⟩, fun x hx' => ?_, by simp⟩
            rcases List.mem_append.mp hx' with q | q
            · have := hx x q; omega
            · have : x = 8 * (up s.at_ (stp p r.al) + r.sz - r.sz) + 0 := by simpa using q
              omega
          · simp only [e3, if_false]
            have e6 : s.unit = r.sz := by
              refine Classical.byContradiction fun q => e3 (.inl q)
            have e7 : ¬ s.used + b > 8 * r.sz := fun q => e3 (.inr q)
            have hz : s.unit ≠ 0 := by unfold SzOk at bz; omega
            have := hu hz
            refine ⟨h0, fun _ => ⟨by omega, by omega, by omega⟩, fun x hx' => ?_, by simp⟩
            rcases List.mem_append.mp hx' with q | q
            · exact hx x q
            · have : x = 8 * (s.at_ - r.sz) + s.used := by simpa using q
              omega
    have ih := ms_ps hp rs (msStep p s r) (fun x hx => h x (List.mem_cons_of_mem _ hx)) key.1 key.2.1 key.2.2.1
    refine ⟨ih.1, ih.2.trans ?_⟩
    rw [key.2.2.2, List.length_cons]; omega
theorem laid_ps {o : Opt} (hp : PkOk o.pack) {rs : List Row} (h : ∀ r ∈ rs, r.ok) : (∀ x ∈ (laid o rs).ps, 0 ≤ x ∧ x ≤ 8 * (laid o rs).taken) ∧ (laid o rs).ps.length = rs.length := by
  have bd := laid_bd (o := o) hp h
  have rep : ∀ t : Int, 0 ≤ t → (∀ x ∈ List.replicate rs.length (0 : Int), 0 ≤ x ∧ x ≤ 8 * t) ∧ (List.replicate rs.length (0 : Int)).length = rs.length := fun t ht => ⟨fun x hx => by
    have := List.eq_of_mem_replicate hx
    omega, List.length_replicate⟩
  unfold laid at bd ⊢
  split
  · rename_i hm
    rw [if_pos hm] at bd
    split
    · rename_i hu
      rw [if_pos hu] at bd
      exact rep _ bd.2.2
    · have := ms_ps hp rs ⟨0, 1, [], 0, 0⟩ h (by decide) (fun z => absurd rfl z) (fun x hx => nomatch hx)
      exact ⟨this.1, by rw [this.2]; simp⟩
  · rename_i hm
    rw [if_neg hm] at bd
    split
    · rename_i hu
      rw [if_pos hu] at bd
      exact rep _ bd.2.2
    · have := sv_ps hp rs ⟨0, 1, []⟩ h (by decide) (fun x hx => nomatch hx)
      refine ⟨fun x hx => ?_, by rw [this.2]; simp⟩
      have q := this.1 x hx
      have u := up_ge (a := (rs.foldl (svStep o.pack) ⟨0, 1, []⟩).at_) (s := 8) (by decide)
      have d8 := up_dvd (a := (rs.foldl (svStep o.pack) ⟨0, 1, []⟩).at_) (s := 8)
      refine ⟨q.1, ?_⟩
      show x ≤ 8 * (up (rs.foldl (svStep o.pack) ⟨0, 1, []⟩).at_ 8 / 8)
      omega
theorem KOk.pos {o : Opt} {ms : Mbs} (h : KOk (.lay o ms)) : ∀ x ∈ (laid o ms.rows).ps, 0 ≤ x ∧ x ≤ 524288 := fun x hx => by
  have hr := h.rowsOk
  cases h with
  | lay hp ha hm hb hn h6 h5 h1 h2 h3 =>
    have bd := laid_bd (o := o) hp hr
    have sb := step_bd (o := o) (l := laid o ms.rows) ha bd.1 bd.2.1
    have ps := (laid_ps (o := o) hp hr).1 x hx
    have u := up_ge (a := (laid o ms.rows).taken) (s := stepOf o (laid o ms.rows)) (by omega)
    rw [Kd.sz] at h1
    have h1 : up (laid o ms.rows).taken (stepOf o (laid o ms.rows)) ≤ 65536 := h1
    omega
theorem KOk.psLen {o : Opt} {ms : Mbs} (h : KOk (.lay o ms)) : (laid o ms.rows).ps.length = ms.list.length := by
  have hr := h.rowsOk
  cases h with
  | lay hp ha hm hb hn h6 h5 h1 h2 h3 =>
    rw [(laid_ps (o := o) hp hr).2, rows_eq, List.length_map]
/-! ### bits -/
def mir (p : Int) : Int := p + 7 - 2 * (p % 8)
def bitsOf (h m : Int) (big : Bool) : List Int := if big = true then (((List.range m.toNat).map fun (i : Nat) => h + i).map mir).reverse else (List.range m.toNat).map fun (i : Nat) => h + i
theorem bits_len {h m : Int} {big : Bool} : (bitsOf h m big).length = m.toNat := by
  unfold bitsOf; split <;> simp
/-! ### berths -/
structure Ber where
  path : List D
  bits : List Int
  sg : Bool
  fld : Bool
def Ber.pre (d : D) (b : Ber) : Ber := { b with path := d :: b.path }
def Ber.preN (nm : Option Str) (b : Ber) : Ber := match nm with
  | none => b
  | some x => { b with path := .str x :: b.path }
def Kd.sg : Kd → Bool
  | .int _ g => g
  | _ => false
mutual
def Kd.ber : Kd → Int → Bool → List Ber
  | .int s g, h, o => [⟨[], bitsOf h (8 * s) o, g, false⟩]
  | .arr k n, h, o => (List.range n.toNat).flatMap fun (i : Nat) => (k.ber (h + 8 * i * k.sz) o).map (Ber.pre (.int i))
  | .lay op ms, h, _ => ms.ber (laid op ms.rows).ps h op.big
def Mbs.ber : Mbs → List Int → Int → Bool → List Ber
  | .nil, _, _, _ => []
  | .cons _ _ _ _, [], _, _ => []
  | .cons nm k none t, p :: ps, h, o => (k.ber (h + p) o).map (Ber.preN nm) ++ t.ber ps h o
  | .cons none _ (some _) t, _ :: ps, h, o => t.ber ps h o
  | .cons (some x) k (some b) t, p :: ps, h, o => ⟨[.str x], bitsOf (h + p) b o, k.sg, true⟩ :: t.ber ps h o
end
def Mb.ber (m : Mb) (p h : Int) (o : Bool) : List Ber := match m.b with
  | none => (m.k.ber (h + p) o).map (Ber.preN m.nm)
  | some b => match m.nm with
    | none => []
    | some x => [⟨[.str x], bitsOf (h + p) b o, m.k.sg, true⟩]
mutual
theorem ber_len : ∀ (k : Kd) (h : Int) (o : Bool), (k.ber h o).length ≤ k.cnt
  | .int s g, h, o => by rw [Kd.ber, Kd.cnt]; exact Nat.le_refl _
  | .arr k n, h, o => by
    rw [Kd.ber, Kd.cnt]
    have key : ∀ l : List Nat, (l.flatMap fun (i : Nat) => (k.ber (h + 8 * i * k.sz) o).map (Ber.pre (.int i))).length ≤ l.length * k.cnt := fun l => by
      induction l with
      | nil => simp
      | cons i l ih =>
        rw [List.flatMap_cons, List.length_append, List.length_map, List.length_cons]
        have := ber_len k (h + 8 * i * k.sz) o
        rw [Nat.succ_mul]; omega
    have := key (List.range n.toNat)
    rw [List.length_range] at this
    exact this
  | .lay op ms, h, o => by rw [Kd.ber, Kd.cnt]; exact bers_len ms _ _ _
theorem bers_len : ∀ (ms : Mbs) (ps : List Int) (h : Int) (o : Bool), (ms.ber ps h o).length ≤ ms.cnt
  | .nil, ps, h, o => by rw [Mbs.ber]; exact Nat.zero_le _
  | .cons _ _ _ _, [], h, o => by rw [Mbs.ber]; exact Nat.zero_le _
  | .cons nm k none t, p :: ps, h, o => by
    rw [Mbs.ber, Mbs.cnt, List.length_append, List.length_map]
    have := ber_len k (h + p) o
    have := bers_len t ps h o
    omega
  | .cons none k (some b) t, p :: ps, h, o => by
    rw [Mbs.ber, Mbs.cnt]
    have := bers_len t ps h o
    omega
  | .cons (some x) k (some b) t, p :: ps, h, o => by
    rw [Mbs.ber, Mbs.cnt, List.length_cons]
    have := bers_len t ps h o
    omega
end
/-! paths are short -/
/-! ### what is no bit field -/
structure Shp where
  path : List D
  pos : Int
def Shp.pre (d : D) (b : Shp) : Shp := { b with path := d :: b.path }
mutual
def Kd.shp : Kd → Int → List Shp
  | .int _ _, h => [⟨[], h⟩]
  | .arr k n, h => ⟨[], h⟩ :: (List.range n.toNat).flatMap fun (i : Nat) => (k.shp (h + 8 * i * k.sz)).map (Shp.pre (.int i))
  | .lay op ms, h => ⟨[], h⟩ :: ms.shp (laid op ms.rows).ps h
def Mbs.shp : Mbs → List Int → Int → List Shp
  | .nil, _, _ => []
  | .cons _ _ _ _, [], _ => []
  | .cons none k none t, p :: ps, h => (k.shp (h + p)).drop 1 ++ t.shp ps h
  | .cons (some x) k none t, p :: ps, h => (k.shp (h + p)).map (Shp.pre (.str x)) ++ t.shp ps h
  | .cons _ _ (some _) t, _ :: ps, h => t.shp ps h
end
def Mb.shp (m : Mb) (p h : Int) : List Shp := match m.b with
  | none => (match m.nm with
    | none => (m.k.shp (h + p)).drop 1
    | some x => (m.k.shp (h + p)).map (Shp.pre (.str x)))
  | some _ => []
end Ly
/-! bits, berths and shapes of plans -/
/-! berths of plans -/
namespace Lw
open PySem L2 Dl Ly
@[simp] theorem add_tup {xs ys : List D} : dAdd (.tup xs) (.tup ys) = Dl.guard (szOk (xs.length + ys.length)) (M.pure (.tup (xs ++ ys))) := rfl
@[simp] theorem tuple_lst {ds : List D} : dTuple (.lst ds) = M.pure (.tup ds) := rfl
@[simp] theorem rep_0 {t : D} : dMul (.lst [t]) (.int 0) = M.pure (.lst []) := rfl
@[simp] theorem rep_1 {t : D} : dMul (.lst [t]) (.int 1) = M.pure (.lst [t]) := rfl
theorem zipD_map {α β : Type} (f : α → D) (g : β → D) (xs : List α) (ys : List β) : zipD (xs.map f) (ys.map g) = (xs.zip ys).map fun q => .tup [f q.1, g q.2] := by
  unfold zipD
  rw [List.zip_map, List.map_map]; rfl
theorem zip_lst' {ds es : List D} : zipM [.lst ds, .lst es] = M.pure (zipD ds es) := rfl
theorem ok_rng1 {j : Int} (h0 : 0 ≤ j) (h1 : j ≤ 1048576) : rng1 (.int j) = M.pure ((List.range j.toNat).map fun (i : Nat) => D.int i) := by
  have e62 : (2 : Int) ^ 62 = 4611686018427387904 := by decide
  show rng1i j = _
  unfold rng1i
  rw [if_pos (by simp only [Bool.and_eq_true, decide_eq_true_eq]; omega)]
theorem put_rows {f : D → M D} {rs es acc : List D} {S : MS} (hz : szOk rs.length = true) (hm : mapXC f rs S = .ok es S) (hz2 : szOk (acc.length + es.length) = true) : (M.bind (frz (mapX (M.bind (M.pure (.lst rs)) itemsS) f)) fun v_d26 => M.bind (asLst v_d26) fun v_es27 => gd (szOk (List.length acc + List.length v_es27)) (M.pure (.nx (acc ++ v_es27))) : M (Fl (List D) (List D))) S = .ok (.nx (acc ++ es)) S := by
  simp only [ev_bind, ev_frz, ev_mapX, ev_pure, at_ok, itS_lst, hz, if_true, hm, asLst_lst, ev_gd, hz2]
theorem cnt_mem : ∀ (l : List Mb) (m : Mb), m ∈ l → m.k.cnt ≤ (Mbs.of l).cnt
  | [], m, h => nomatch h
  | q :: l, m, h => by
    rw [Mbs.of, Mbs.cnt]
    rcases List.mem_cons.mp h with h | h
    · subst h; omega
    · have := cnt_mem l m h; omega
end Lw
/-! shapes of plans -/
/-! layouts of plans -/
namespace Lw
open PySem L2 Dl Ly
def Ext (S S' : MS) : Prop := S'.st = S.st ∧ ∃ l, S'.cells = S.cells ++ l
theorem Ext.refl (S : MS) : Ext S S := ⟨rfl, [], (List.append_nil _).symm⟩
theorem Ext.trans {S S1 S2 : MS} (h : Ext S S1) (h2 : Ext S1 S2) : Ext S S2 := by
  obtain ⟨a, l, b⟩ := h
  obtain ⟨c, l2, e⟩ := h2
  exact ⟨c.trans a, l ++ l2, by rw [e, b, List.append_assoc]⟩
end Lw
/-! paths; what a name finds -/
namespace Ly
open PySem L2 Dl
def aheadOf (nm : Option Str) (p : List D) : List D := nm.toList.map D.str ++ p
mutual
def Kd.pths : Kd → List (List D)
  | .int _ _ => [[]]
  | .arr k n => (List.range n.toNat).flatMap fun (i : Nat) => k.pths.map (.int i :: ·)
  | .lay _ ms => ms.pths
def Mbs.pths : Mbs → List (List D)
  | .nil => []
  | .cons nm k none t => k.pths.map (aheadOf nm) ++ t.pths
  | .cons none _ (some _) t => t.pths
  | .cons (some x) _ (some _) t => [.str x] :: t.pths
end
def Mb.pths (m : Mb) : List (List D) := match m.b with
  | none => m.k.pths.map (aheadOf m.nm)
  | some _ => m.nm.toList.map fun x => [.str x]
theorem pths_list : ∀ l : List Mb, (Mbs.of l).pths = l.flatMap Mb.pths
  | [] => by rw [Mbs.of, Mbs.pths]; rfl
  | m :: l => by
    obtain ⟨nm, k, b⟩ := m
    rw [Mbs.of, List.flatMap_cons, ← pths_list l]
    cases b with
    | none => rw [Mbs.pths]; rfl
    | some b =>
      cases nm with
      | none => rw [Mbs.pths]; rfl
      | some x => rw [Mbs.pths]; rfl
mutual
theorem pths_len : ∀ k : Kd, k.pths.length ≤ k.cnt
  | .int s g => by rw [Kd.pths, Kd.cnt]; exact Nat.le_refl _
  | .arr k n => by
    rw [Kd.pths, Kd.cnt]
    have ih := pths_len k
    have key : ∀ l : List Nat, (l.flatMap fun (i : Nat) => k.pths.map (D.int i :: ·)).length ≤ l.length * k.cnt := fun l => by
      induction l with
      | nil => simp
      | cons i l ih2 =>
        rw [List.flatMap_cons, List.length_append, List.length_map, List.length_cons, Nat.succ_mul]; omega
    have := key (List.range n.toNat)
    rw [List.length_range] at this
    exact this
  | .lay op ms => by rw [Kd.pths, Kd.cnt]; exact pthss_len ms
theorem pthss_len : ∀ ms : Mbs, ms.pths.length ≤ ms.cnt
  | .nil => by rw [Mbs.pths]; exact Nat.zero_le _
  | .cons nm k none t => by
    rw [Mbs.pths, Mbs.cnt, List.length_append, List.length_map]
    have := pths_len k
    have := pthss_len t
    omega
  | .cons none k (some b) t => by
    rw [Mbs.pths, Mbs.cnt]
    have := pthss_len t
    omega
  | .cons (some x) k (some b) t => by
    rw [Mbs.pths, Mbs.cnt, List.length_cons]
    have := pthss_len t
    omega
end
mutual
theorem pths_path : ∀ (k : Kd) (b : List D), b ∈ k.pths → b.length ≤ k.depth
  | .int s g, b, hb => by
    rw [Kd.pths] at hb
    rw [List.mem_singleton.mp hb]; exact Nat.zero_le _
  | .arr k n, b, hb => by
    rw [Kd.pths] at hb
    obtain ⟨i, _, hb⟩ := List.mem_flatMap.mp hb
    obtain ⟨c, hc, rfl⟩ := List.mem_map.mp hb
    rw [Kd.depth]
    exact Nat.succ_le_succ (pths_path k c hc)
  | .lay op ms, b, hb => by
    rw [Kd.pths] at hb
    rw [Kd.depth]
    exact pthss_path ms b hb
theorem pthss_path : ∀ (ms : Mbs) (b : List D), b ∈ ms.pths → b.length ≤ ms.depth + 1
  | .nil, b, hb => by rw [Mbs.pths] at hb; cases hb
  | .cons nm k none t, b, hb => by
    rw [Mbs.pths] at hb
    rw [Mbs.depth]
    rcases List.mem_append.mp hb with q | q
    · obtain ⟨c, hc, rfl⟩ := List.mem_map.mp q
      have := pths_path k c hc
      cases nm with
      | none => show c.length ≤ _; omega
      | some x => show c.length + 1 ≤ _; omega
    · have := pthss_path t b q
      omega
  | .cons none k (some bb) t, b, hb => by
    rw [Mbs.pths] at hb
    rw [Mbs.depth]
    have := pthss_path t b hb
    omega
  | .cons (some x) k (some bb) t, b, hb => by
    rw [Mbs.pths] at hb
    rw [Mbs.depth]
    rcases List.mem_cons.mp hb with q | q
    · rw [q]; show 1 ≤ _; omega
    · have := pthss_path t b q
      omega
end
theorem of_of : ∀ ms : Mbs, Mbs.of ms.list = ms
  | .nil => rfl
  | .cons nm k b t => by rw [Mbs.list, Mbs.of, of_of t]
/-! the berths' paths are the paths -/
theorem ms_pths {ps : List Int} {h : Int} {o : Bool} : ∀ (l : List Mb) (ps : List Int), ps.length = l.length → (∀ m ∈ l, ∀ h, (m.k.ber h o).map (·.path) = m.k.pths) → ((Mbs.of l).ber ps h o).map (·.path) = (Mbs.of l).pths
  | [], ps, _, _ => by rw [Mbs.of, Mbs.ber, Mbs.pths]; rfl
  | m :: l, [], e, _ => nomatch e
  | m :: l, p :: ps, e, hm => by
    have ih := ms_pths (ps := ps) (h := h) l ps (Nat.succ.inj e) fun m hx => hm m (List.mem_cons_of_mem _ hx)
    have e1 := hm m List.mem_cons_self (h + p)
    obtain ⟨nm, k, b⟩ := m
    rw [Mbs.of]
    cases b with
    | none =>
      rw [Mbs.ber, Mbs.pths, List.map_append, ih, ← e1, List.map_map, List.map_map]
      congr 1
      refine List.map_congr_left fun b _ => ?_
      cases nm <;> rfl
    | some b =>
      cases nm with
      | none => rw [Mbs.ber, Mbs.pths, ih]
      | some x => rw [Mbs.ber, Mbs.pths, List.map_cons, ih]
theorem KOk.pths {k : Kd} (ko : KOk k) : ∀ (h : Int) (o : Bool), (k.ber h o).map (·.path) = k.pths := by
  induction ko with
  | int hs => intro h o; rw [Kd.ber, Kd.pths]; rfl
  | @arr k n ko h0 h1 h2 h3 h4 ih =>
    intro h o
    rw [Kd.ber, Kd.pths, List.map_flatMap]
    refine congrArg (fun f => (List.range n.toNat).flatMap f) ?_
    funext i
    rw [← ih (h + 8 * i * k.sz) o, List.map_map, List.map_map]; rfl
  | @lay op ms hp ha hm hb hn h6 h5 h1 h2 h3 ih =>
    intro h o
    have ko : KOk (.lay op ms) := .lay hp ha hm hb hn h6 h5 h1 h2 h3
    rw [Kd.ber, Kd.pths]
    have e : ms = Mbs.of ms.list := (of_of ms).symm
    have hl := ko.psLen
    generalize (laid op ms.rows).ps = ps at hl
    rw [e] at hl ⊢
    rw [of_list] at hl
    exact ms_pths (ps := ps) ms.list ps hl fun m hx h => ih m hx h op.big
end Ly
/-! what a name finds -/
namespace Ly
open PySem L2 Dl
structure Fnd where
  k : Kd
  b : Option Int
  p : Int
  o : Bool
def Fnd.at_ (f : Fnd) (p : Int) : Fnd := ⟨f.k, f.b, p + f.p, f.o⟩
mutual
def Kd.find : Kd → Str → Option Fnd
  | .lay o ms, x => ms.find (laid o ms.rows).ps x o.big
  | .int _ _, _ => none
  | .arr _ _, _ => none
def Mbs.find : Mbs → List Int → Str → Bool → Option Fnd
  | .nil, _, _, _ => none
  | .cons _ _ _ _, [], _, _ => none
  | .cons (some y) k b t, p :: ps, x, o => if y = x then some ⟨k, b, p, o⟩ else t.find ps x o
  | .cons none k none t, p :: ps, x, o => match k.find x with
    | some f => some (f.at_ p)
    | none => t.find ps x o
  | .cons none _ (some _) t, _ :: ps, x, o => t.find ps x o
end
def Mb.find (m : Mb) (p : Int) (x : Str) (o : Bool) : Option Fnd := match m.nm with
  | some y => if y = x then some ⟨m.k, m.b, p, o⟩ else none
  | none => match m.b with
    | none => (m.k.find x).map fun f => f.at_ p
    | some _ => none
theorem find_list : ∀ (l : List Mb) (ps : List Int) (x : Str) (o : Bool), (Mbs.of l).find ps x o = (l.zip ps).findSome? fun q => q.1.find q.2 x o
  | [], ps, x, o => by rw [Mbs.of, Mbs.find]; rfl
  | m :: l, [], x, o => by rw [Mbs.of, Mbs.find]; rfl
  | m :: l, p :: ps, x, o => by
    obtain ⟨nm, k, b⟩ := m
    rw [Mbs.of, List.zip_cons_cons, List.findSome?_cons, ← find_list l ps x o]
    cases nm with
    | some y =>
      rw [Mbs.find]
      simp only [Mb.find]
      by_cases e : y = x <;> simp [e]
    | none =>
      cases b with
      | none =>
        rw [Mbs.find]
        simp only [Mb.find]
        cases k.find x <;> rfl
      | some b => rw [Mbs.find]; rfl
mutual
theorem find_none : ∀ (k : Kd) (x : Str), ¬ x ∈ k.names → k.find x = none
  | .lay o ms, x, h => by rw [Kd.find]; rw [Kd.names] at h; exact finds_none ms _ x _ h
  | .int _ _, x, h => by rw [Kd.find]
  | .arr _ _, x, h => by rw [Kd.find]
theorem finds_none : ∀ (ms : Mbs) (ps : List Int) (x : Str) (o : Bool), ¬ x ∈ ms.names → ms.find ps x o = none
  | .nil, ps, x, o, h => by rw [Mbs.find]
  | .cons _ _ _ _, [], x, o, h => by rw [Mbs.find]
  | .cons (some y) k b t, p :: ps, x, o, h => by
    rw [Mbs.names] at h
    rw [Mbs.find, if_neg (fun e => h (by rw [e]; exact List.mem_cons_self)), finds_none t ps x o fun q => h (List.mem_cons_of_mem _ q)]
  | .cons none k none t, p :: ps, x, o, h => by
    rw [Mbs.names] at h
    rw [Mbs.find, find_none k x fun q => h (List.mem_append_left _ q)]
    exact finds_none t ps x o fun q => h (List.mem_append_right _ q)
  | .cons none k (some b) t, p :: ps, x, o, h => by
    rw [Mbs.names] at h
    rw [Mbs.find]
    exact finds_none t ps x o h
end
/-- a berth is found by the first name of its path -/
structure FB (d : Nat) (h : Int) (b : Ber) (x : Str) (rest : List D) (f : Fnd) : Prop where
  path : b.path = .str x :: rest
  ko : KOk f.k
  dp : f.k.depth ≤ d
  mo : MbOk ⟨some x, f.k, f.b⟩
  whole : f.b = none → (⟨rest, b.bits, b.sg, b.fld⟩ : Ber) ∈ f.k.ber (h + f.p) f.o
  part : ∀ m, f.b = some m → rest = [] ∧ b.bits = bitsOf (h + f.p) m f.o ∧ b.sg = f.k.sg ∧ b.fld = true
theorem FB.mono {d e : Nat} {h : Int} {b : Ber} {x : Str} {rest : List D} {f : Fnd} (q : FB d h b x rest f) (l : d ≤ e) : FB e h b x rest f := ⟨q.path, q.ko, Nat.le_trans q.dp l, q.mo, q.whole, q.part⟩
theorem bers_find {h : Int} {o : Bool} {b : Ber} : ∀ (l : List Mb) (ps : List Int), (∀ m ∈ l, KOk m.k) → (∀ m ∈ l, MbOk m) → (Mbs.of l).names.Nodup →
    (∀ m ∈ l, ∀ oi mi, m.k = .lay oi mi → ∀ (h : Int) (b : Ber), b ∈ m.k.ber h o → ∃ x rest f, x ∈ m.k.names ∧ m.k.find x = some f ∧ FB mi.depth h b x rest f) →
    b ∈ (Mbs.of l).ber ps h o → ∃ x rest f, x ∈ (Mbs.of l).names ∧ (Mbs.of l).find ps x o = some f ∧ FB (Mbs.of l).depth h b x rest f
  | [], ps, _, _, _, _, hb => by rw [Mbs.of, Mbs.ber] at hb; cases hb
  | _ :: _, [], _, _, _, _, hb => by rw [Mbs.of, Mbs.ber] at hb; cases hb
  | m :: l, p :: ps, hk, hm, hn, hi, hb => by
    have ih := bers_find (h := h) (o := o) (b := b) l ps (fun m hx => hk m (List.mem_cons_of_mem _ hx)) (fun m hx => hm m (List.mem_cons_of_mem _ hx))
    have hi2 : ∀ m ∈ l, ∀ oi mi, m.k = .lay oi mi → ∀ (h : Int) (b : Ber), b ∈ m.k.ber h o → ∃ x rest f, x ∈ m.k.names ∧ m.k.find x = some f ∧ FB mi.depth h b x rest f := fun m hx => hi m (List.mem_cons_of_mem _ hx)
    have hk1 := hk m List.mem_cons_self
    have hm1 := hm m List.mem_cons_self
    have hi1 := hi m List.mem_cons_self
    clear hk hm hi
    obtain ⟨nm, k, bb⟩ := m
    rw [Mbs.of] at hn hb ⊢
    dsimp only at hn hb hk1 hi1 ⊢
    have dl : k.depth ≤ (Mbs.cons nm k bb (Mbs.of l)).depth := by rw [Mbs.depth]; exact Nat.le_max_left _ _
    have dr : (Mbs.of l).depth ≤ (Mbs.cons nm k bb (Mbs.of l)).depth := by rw [Mbs.depth]; exact Nat.le_max_right _ _
    cases nm with
    | some y =>
      rw [Mbs.names] at hn ⊢
      have hn := List.nodup_cons.mp hn
      have tail : b ∈ (Mbs.of l).ber ps h o → ∃ x rest f, x ∈ y :: (Mbs.of l).names ∧ (Mbs.cons (some y) k bb (Mbs.of l)).find (p :: ps) x o = some f ∧ FB (Mbs.cons (some y) k bb (Mbs.of l)).depth h b x rest f := fun q => by
        obtain ⟨x, rest, f, q1, q2, q3⟩ := ih hn.2 hi2 q
        exact ⟨x, rest, f, List.mem_cons_of_mem _ q1, by rw [Mbs.find, if_neg (fun e => hn.1 (by rw [e]; exact q1))]; exact q2, q3.mono dr⟩
      cases bb with
      | none =>
        rw [Mbs.ber] at hb
        rcases List.mem_append.mp hb with q | q
        · obtain ⟨c, hc, rfl⟩ := List.mem_map.mp q
          exact ⟨y, c.path, ⟨k, none, p, o⟩, List.mem_cons_self, by rw [Mbs.find, if_pos rfl], ⟨rfl, hk1, dl, hm1, fun _ => hc, fun m e => nomatch e⟩⟩
        · exact tail q
      | some m =>
        rw [Mbs.ber] at hb
        rcases List.mem_cons.mp hb with q | q
        · subst q
          refine ⟨y, [], ⟨k, some m, p, o⟩, List.mem_cons_self, by rw [Mbs.find, if_pos rfl], ⟨rfl, hk1, dl, hm1, fun e => (nomatch e), fun m' e => ?_⟩⟩
          cases e
          exact ⟨rfl, rfl, rfl, rfl⟩
        · exact tail q
    | none =>
      cases bb with
      | some m =>
        rw [Mbs.ber] at hb
        rw [Mbs.names] at hn ⊢
        obtain ⟨x, rest, f, q1, q2, q3⟩ := ih hn hi2 hb
        exact ⟨x, rest, f, q1, by rw [Mbs.find]; exact q2, q3.mono dr⟩
      | none =>
        rw [Mbs.ber] at hb
        rw [Mbs.names] at hn ⊢
        have hn := List.nodup_append.mp hn
        rcases List.mem_append.mp hb with q | q
        · obtain ⟨c, hc, rfl⟩ := List.mem_map.mp q
          obtain ⟨oi, mi, ek⟩ := hm1.bare rfl rfl
          have ek : k = .lay oi mi := ek
          obtain ⟨x, rest, f, q1, q2, q3⟩ := hi1 oi mi ek (h + p) c hc
          have dk : k.depth = mi.depth + 1 := by rw [ek, Kd.depth]
          refine ⟨x, rest, f.at_ p, List.mem_append_left _ q1, by rw [Mbs.find, q2], ⟨q3.path, q3.ko, ?_, q3.mo, fun e => ?_, fun m e => ?_⟩⟩
          · have := q3.dp
            show f.k.depth ≤ _
            omega
          · have := q3.whole e
            rw [Int.add_assoc] at this
            exact this
          · have := q3.part m e
            rw [Int.add_assoc] at this
            exact this
        · obtain ⟨x, rest, f, q1, q2, q3⟩ := ih hn.2.1 hi2 q
          refine ⟨x, rest, f, List.mem_append_right _ q1, ?_, q3.mono dr⟩
          rw [Mbs.find, find_none _ x fun z => hn.2.2 x z x q1 rfl]
          exact q2
theorem KOk.berFind {k : Kd} (ko : KOk k) : ∀ oi mi, k = .lay oi mi → ∀ (h : Int) (o : Bool) (b : Ber), b ∈ k.ber h o → ∃ x rest f, x ∈ k.names ∧ k.find x = some f ∧ FB mi.depth h b x rest f := by
  induction ko with
  | int _ => intro oi mi e; cases e
  | arr _ _ _ _ _ _ _ => intro oi mi e; cases e
  | @lay op ms hp ha hm hb hn h6 h5 h1 h2 h3 ih =>
    intro oi mi e h o b hx
    cases e
    rw [Kd.ber] at hx
    rw [Kd.names]
    simp only [Kd.find]
    generalize (laid op ms.rows).ps = ps at hx ⊢
    have := bers_find (h := h) (o := op.big) (b := b) ms.list ps hm hb (by rw [of_of]; exact hn) (fun m hx oi mi e h b hb => ih m hx oi mi e h op.big b hb) (by rw [of_of]; exact hx)
    rw [of_of] at this
    exact this
/-- a shape is found by the first name of its path -/
structure FS (d : Nat) (h : Int) (b : Shp) (x : Str) (rest : List D) (f : Fnd) : Prop where
  path : b.path = .str x :: rest
  ko : KOk f.k
  dp : f.k.depth ≤ d
  nb : f.b = none
  mo : MbOk ⟨some x, f.k, f.b⟩
  whole : (⟨rest, b.pos⟩ : Shp) ∈ f.k.shp (h + f.p)
theorem FS.mono {d e : Nat} {h : Int} {b : Shp} {x : Str} {rest : List D} {f : Fnd} (q : FS d h b x rest f) (l : d ≤ e) : FS e h b x rest f := ⟨q.path, q.ko, Nat.le_trans q.dp l, q.nb, q.mo, q.whole⟩
theorem shps_find {h : Int} {o : Bool} {b : Shp} : ∀ (l : List Mb) (ps : List Int), (∀ m ∈ l, KOk m.k) → (∀ m ∈ l, MbOk m) → (Mbs.of l).names.Nodup →
    (∀ m ∈ l, ∀ oi mi, m.k = .lay oi mi → ∀ (h : Int) (b : Shp), b ∈ (m.k.shp h).drop 1 → ∃ x rest f, x ∈ m.k.names ∧ m.k.find x = some f ∧ FS mi.depth h b x rest f) →
    b ∈ (Mbs.of l).shp ps h → ∃ x rest f, x ∈ (Mbs.of l).names ∧ (Mbs.of l).find ps x o = some f ∧ FS (Mbs.of l).depth h b x rest f
  | [], ps, _, _, _, _, hb => by rw [Mbs.of, Mbs.shp] at hb; cases hb
  | _ :: _, [], _, _, _, _, hb => by rw [Mbs.of, Mbs.shp] at hb; cases hb
  | m :: l, p :: ps, hk, hm, hn, hi, hb => by
    have ih := shps_find (h := h) (o := o) (b := b) l ps (fun m hx => hk m (List.mem_cons_of_mem _ hx)) (fun m hx => hm m (List.mem_cons_of_mem _ hx))
    have hi2 : ∀ m ∈ l, ∀ oi mi, m.k = .lay oi mi → ∀ (h : Int) (b : Shp), b ∈ (m.k.shp h).drop 1 → ∃ x rest f, x ∈ m.k.names ∧ m.k.find x = some f ∧ FS mi.depth h b x rest f := fun m hx => hi m (List.mem_cons_of_mem _ hx)
    have hk1 := hk m List.mem_cons_self
    have hm1 := hm m List.mem_cons_self
    have hi1 := hi m List.mem_cons_self
    clear hk hm hi
    obtain ⟨nm, k, bb⟩ := m
    rw [Mbs.of] at hn hb ⊢
    dsimp only at hn hb hk1 hi1 ⊢
    have dl : k.depth ≤ (Mbs.cons nm k bb (Mbs.of l)).depth := by rw [Mbs.depth]; exact Nat.le_max_left _ _
    have dr : (Mbs.of l).depth ≤ (Mbs.cons nm k bb (Mbs.of l)).depth := by rw [Mbs.depth]; exact Nat.le_max_right _ _
    cases nm with
    | some y =>
      rw [Mbs.names] at hn ⊢
      have hn := List.nodup_cons.mp hn
      have tail : b ∈ (Mbs.of l).shp ps h → ∃ x rest f, x ∈ y :: (Mbs.of l).names ∧ (Mbs.cons (some y) k bb (Mbs.of l)).find (p :: ps) x o = some f ∧ FS (Mbs.cons (some y) k bb (Mbs.of l)).depth h b x rest f := fun q => by
        obtain ⟨x, rest, f, q1, q2, q3⟩ := ih hn.2 hi2 q
        exact ⟨x, rest, f, List.mem_cons_of_mem _ q1, by rw [Mbs.find, if_neg (fun e => hn.1 (by rw [e]; exact q1))]; exact q2, q3.mono dr⟩
      cases bb with
      | none =>
        rw [Mbs.shp] at hb
        rcases List.mem_append.mp hb with q | q
        · obtain ⟨c, hc, rfl⟩ := List.mem_map.mp q
          exact ⟨y, c.path, ⟨k, none, p, o⟩, List.mem_cons_self, by rw [Mbs.find, if_pos rfl], ⟨rfl, hk1, dl, rfl, hm1, hc⟩⟩
        · exact tail q
      | some m =>
        rw [Mbs.shp] at hb
        exact tail hb
    | none =>
      cases bb with
      | some m =>
        rw [Mbs.shp] at hb
        rw [Mbs.names] at hn ⊢
        obtain ⟨x, rest, f, q1, q2, q3⟩ := ih hn hi2 hb
        exact ⟨x, rest, f, q1, by rw [Mbs.find]; exact q2, q3.mono dr⟩
      | none =>
        rw [Mbs.shp] at hb
        rw [Mbs.names] at hn ⊢
        have hn := List.nodup_append.mp hn
        rcases List.mem_append.mp hb with q | q
        · obtain ⟨oi, mi, ek⟩ := hm1.bare rfl rfl
          have ek : k = .lay oi mi := ek
          obtain ⟨x, rest, f, q1, q2, q3⟩ := hi1 oi mi ek (h + p) b q
          have dk : k.depth = mi.depth + 1 := by rw [ek, Kd.depth]
          refine ⟨x, rest, f.at_ p, List.mem_append_left _ q1, by rw [Mbs.find, q2], ⟨q3.path, q3.ko, ?_, q3.nb, q3.mo, ?_⟩⟩
          · have := q3.dp
            show f.k.depth ≤ _
            omega
          · have := q3.whole
            rw [Int.add_assoc] at this
            exact this
        · obtain ⟨x, rest, f, q1, q2, q3⟩ := ih hn.2.1 hi2 q
          refine ⟨x, rest, f, List.mem_append_right _ q1, ?_, q3.mono dr⟩
          rw [Mbs.find, find_none _ x fun z => hn.2.2 x z x q1 rfl]
          exact q2
theorem KOk.shpFind {k : Kd} (ko : KOk k) : ∀ oi mi, k = .lay oi mi → ∀ (h : Int) (b : Shp), b ∈ (k.shp h).drop 1 → ∃ x rest f, x ∈ k.names ∧ k.find x = some f ∧ FS mi.depth h b x rest f := by
  induction ko with
  | int _ => intro oi mi e; cases e
  | arr _ _ _ _ _ _ _ => intro oi mi e; cases e
  | @lay op ms hp ha hm hb hn h6 h5 h1 h2 h3 ih =>
    intro oi mi e h b hx
    cases e
    rw [Kd.shp, List.drop_one, List.tail_cons] at hx
    rw [Kd.names]
    simp only [Kd.find]
    generalize (laid op ms.rows).ps = ps at hx ⊢
    have := shps_find (h := h) (o := op.big) (b := b) ms.list ps hm hb (by rw [of_of]; exact hn) (fun m hx oi mi e h b hb => ih m hx oi mi e h b hb) (by rw [of_of]; exact hx)
    rw [of_of] at this
    exact this
end Ly
/-! paths of layouts -/
namespace Lw
open PySem L2 Dl Ly
theorem tpre_map {S : MS} (as : List D) (l : List (List D)) (ha : as.length ≤ 1) (hb : ∀ b ∈ l, b.length ≤ 64) {m : M D} (hm : ∀ S, m S = .ok (.tup as) S) : mapXC (unT (.nm 7) (on1 fun v_path9 => (bin dAdd m (M.pure v_path9)))) (l.map D.tup) S = .ok (l.map fun b => D.tup (as ++ b)) S := by
  refine map_enc _ _ _ fun b hx => ?_
  have := hb b hx
  have hz : szOk (as.length + b.length) = true := szOk_le (by omega)
  simp [hz, hm]
def PthH (n : Nat) : Prop := ∀ {d : D} {k : Kd}, LK d k → KOk k → k.depth < n → k.depth < 12 → f_all_paths n d = M.pure (.lst (k.pths.map D.tup))
theorem pth_int {n : Nat} {s : Int} {g : Bool} : f_all_paths (n + 1) (intD s g) = M.pure (.lst ((Kd.int s g).pths.map D.tup)) := by
  funext S
  rw [f_all_paths]
  generalize f_all_paths n = fb
  simp [Kd.pths, str_arr_ne]
theorem pth_arr {n : Nat} (ih : PthH n) {d : D} {k : Kd} {c : Int} (l : LK d k) (ko : KOk (.arr k c)) (hd : k.depth < n) (hd2 : k.depth + 1 < 12) : f_all_paths (n + 1) (arrD d c) = M.pure (.lst ((Kd.arr k c).pths.map D.tup)) := by
  funext S
  cases ko with
  | arr ko1 c0 c1 c2 c3 c4 =>
    have hlen := pths_len (.arr k c)
    have ih := ih l ko1 hd (by omega)
    rw [Kd.pths] at hlen ⊢
    rw [f_all_paths]
    generalize f_all_paths n = fb at ih ⊢
    have hp : ∀ b ∈ k.pths, b.length ≤ 64 := fun b hb => by have := pths_path k b hb; omega
    have hfor : (Dl.forM (fun (v_c15 : List D) v_index16 => (M.bind (frz (mapX (M.bind (M.pure (.lst (k.pths.map D.tup))) itemsS) (unT (.nm 7) (on1 fun v_path17 => (bin dAdd (tupM [(M.pure v_index16)]) (M.pure v_path17)))))) fun v_d18 => M.bind (asLst v_d18) fun v_es19 => gd (szOk (List.length v_c15 + List.length v_es19)) (M.pure (.nx (v_c15 ++ v_es19))))) ((List.range c.toNat).map fun (i : Nat) => D.int i) [] : M (Fl (List D) Empty)) S = .ok (.nx (((List.range c.toNat).flatMap fun (i : Nat) => k.pths.map (.int i :: ·)).map D.tup)) S := by
      rw [for_enc' (fun (i : Nat) => D.int i) (fun (acc : List (List D)) => acc.map D.tup) (fun acc i => acc ++ k.pths.map (.int i :: ·)) (fun acc t => acc.length + (t.flatMap fun (i : Nat) => k.pths.map (D.int i :: ·)).length ≤ 65536 ∧ ∀ i ∈ t, k.pths.length ≤ 65536) (List.range c.toNat) [] (c0 := []) rfl]
      · rw [foldl_app]; rfl
      · rintro acc i t ⟨hc, hc2⟩
        rw [List.flatMap_cons, List.length_append, List.length_map] at hc
        refine ⟨?_, by rw [List.length_append, List.length_map]; omega, fun j hj => hc2 j (List.mem_cons_of_mem _ hj)⟩
        have hpm := tpre_map (S := S) [.int i] k.pths (Nat.le_refl _) hp (m := tupM [M.pure (.int i)]) (fun S => by simp)
        rw [put_rows (by rw [List.length_map]; exact szOk_le (by omega)) hpm (by rw [List.length_map, List.length_map]; exact szOk_le (by omega)), List.map_append, List.map_map]
        rfl
      · refine ⟨by rw [List.length_nil, Nat.zero_add]; exact Nat.le_trans hlen c3, fun i hi => ?_⟩
        have := pths_len k
        rw [Kd.cnt] at c3
        have hi := List.mem_range.mp hi
        have : 1 * k.cnt ≤ c.toNat * k.cnt := Nat.mul_le_mul_right _ (by omega)
        omega
    have t1 : (tst (una (dIsX tabC [] ["Shape"]) (M.pure (arrD d c))) : M Bool) S = .ok false S := by simp
    have t2 : (tst (bin dNe (bin dItem (M.pure (arrD d c)) (M.pure (D.int 0))) (M.pure (D.str "array"))) : M Bool) S = .ok false S := by simp
    have t3 : (M.bind (bin dItem (M.pure (arrD d c)) (M.pure (D.int 2))) rng1) S = .ok ((List.range c.toNat).map fun (i : Nat) => D.int i) S := by simp [ok_rng1 c0 (by omega)]
    have t4 : (callM (ar1 fb) [(bin dItem (M.pure (arrD d c)) (M.pure (D.int 1)))]) S = .ok (.lst (k.pths.map D.tup)) S := by simp [ih]
    rw [ev_fin, ev_ifM, t1, at_ok, if_neg (by decide), ev_ifM, t2, at_ok, if_neg (by decide), ev_bind, t4, at_ok, ev_bind, ev_lst, ev_args0, at_ok, if_pos (szOk_le (by simp)), at_ok, ev_bind, t3, at_ok, ev_then, hfor]
    rfl
abbrev pthB (fb : D → M D) : List D → D → M (Fl (List D) (List D)) := fun (v_c2 : List D) => un3 fun v_name3 v_inner4 v_bits5 => (ifM (tst (una dNotN (M.pure v_bits5))) (M.bind (ifM (tst (una dIsN (M.pure v_name3))) (frz (lstM [])) (frz (lstM [(tupM [(M.pure v_name3)])]))) fun v_d6 => M.bind (asLst v_d6) fun v_es7 => gd (szOk (List.length v_c2 + List.length v_es7)) (M.pure (.nx (v_c2 ++ v_es7)))) (M.bind (ifM (tst (una dIsN (M.pure v_name3))) (tupM []) (tupM [(M.pure v_name3)])) fun v_ahead8 => (M.bind (frz (mapX (M.bind (callM (ar1 fb) [(M.pure v_inner4)]) itemsS) (unT (.nm 7) (on1 fun v_path9 => (bin dAdd (M.pure v_ahead8) (M.pure v_path9)))))) fun v_d10 => M.bind (asLst v_d10) fun v_es11 => gd (szOk (List.length v_c2 + List.length v_es11)) (M.pure (.nx (v_c2 ++ v_es11))))))
theorem put_rows' {f : D → M D} {mi : M D} {rs es acc : List D} {S : MS} (hi : mi S = .ok (.lst rs) S) (hz : szOk rs.length = true) (hm : mapXC f rs S = .ok es S) (hz2 : szOk (acc.length + es.length) = true) : (M.bind (frz (mapX (M.bind mi itemsS) f)) fun v_d26 => M.bind (asLst v_d26) fun v_es27 => gd (szOk (List.length acc + List.length v_es27)) (M.pure (.nx (acc ++ v_es27))) : M (Fl (List D) (List D))) S = .ok (.nx (acc ++ es)) S := by
  simp only [ev_bind, ev_frz, ev_mapX, hi, ev_pure, at_ok, itS_lst, hz, if_true, hm, asLst_lst, ev_gd, hz2]
theorem pth_mem {fb : D → M D} {x : D × Mb} {acc : List (List D)} {S : MS} (hd : x.2.k.depth ≤ 12) (hb : fb x.1 = M.pure (.lst (x.2.k.pths.map D.tup))) (hc : acc.length + (Mb.pths x.2).length ≤ 65536) (hk : x.2.k.cnt ≤ 65536) : pthB fb (acc.map D.tup) (rowD x) S = .ok (.nx ((acc ++ Mb.pths x.2).map D.tup)) S := by
  have hl := Nat.le_trans (pths_len x.2.k) hk
  have hp : ∀ b ∈ x.2.k.pths, b.length ≤ 64 := fun b hb => by have := pths_path _ b hb; omega
  obtain ⟨d0, nm, k, b⟩ := x
  dsimp only at hb hc hl hp
  rw [pthB, ev_un3, ev_ifM]
  dsimp only
  cases b with
  | some b =>
    have t1 : (tst (una dNotN (M.pure (optD (some b)))) : M Bool) S = .ok true S := by simp
    have t2 : (ifM (tst (una dIsN (M.pure (nmD nm)))) (frz (lstM [])) (frz (lstM [(tupM [(M.pure (nmD nm))])]))) S = .ok (.lst ((Mb.pths ⟨nm, k, some b⟩).map D.tup)) S := by
      cases nm <;> simp [Mb.pths]
    rw [t1, at_ok, if_pos rfl, ev_bind, t2, at_ok, ev_bind, asLst_lst, ev_pure, at_ok, ev_gd, if_pos (by rw [List.length_map, List.length_map]; exact szOk_le (by omega)), ev_pure, List.map_append]
  | none =>
    have t1 : (tst (una dNotN (M.pure (optD none))) : M Bool) S = .ok false S := by simp
    have t2 : (ifM (tst (una dIsN (M.pure (nmD nm)))) (tupM []) (tupM [(M.pure (nmD nm))])) S = .ok (.tup (nm.toList.map D.str)) S := by
      cases nm <;> simp
    have e : Mb.pths ⟨nm, k, none⟩ = k.pths.map (aheadOf nm) := rfl
    rw [e, List.length_map] at hc
    rw [t1, at_ok, if_neg (by decide), ev_bind, t2, at_ok, e,
      put_rows' (acc := acc.map D.tup) (mi := callM (ar1 fb) [M.pure d0]) (rs := k.pths.map D.tup) (by simp [hb]) (by rw [List.length_map]; exact szOk_le (by omega)) (tpre_map (nm.toList.map D.str) _ (by cases nm <;> simp) hp (m := M.pure (.tup (nm.toList.map D.str))) (fun _ => rfl)) (by rw [List.length_map, List.length_map]; exact szOk_le (by omega)), List.map_append, List.map_map]
    rfl
theorem pth_lay {n : Nat} (ih : PthH n) {i : Nat} {op : Opt} {xs : List (D × Mb)} {ps : List D} {st ex : Int} {cv en : Str} (px : ∀ x ∈ xs, LK x.1 x.2.k) (ko : KOk (.lay op (Mbs.of (xs.map (·.2))))) (hd : (Mbs.of (xs.map (·.2))).depth < n) (hd2 : (Mbs.of (xs.map (·.2))).depth + 1 < 12) : f_all_paths (n + 1) (layD i (xs.map rowD) ps st ex cv en) = M.pure (.lst ((Kd.lay op (Mbs.of (xs.map (·.2)))).pths.map D.tup)) := by
  funext S
  have hlen := pths_len (.lay op (Mbs.of (xs.map (·.2))))
  have dm : ∀ x ∈ xs, x.2.k.depth ≤ (Mbs.of (xs.map (·.2))).depth := fun x hx => depth_mem _ _ (by rw [of_list]; exact List.mem_map_of_mem hx)
  cases ko with
  | lay hp ha hm hb hn h6 h5 q1 q2 q3 =>
    rw [of_list] at hm
    rw [Kd.cnt] at hlen q2
    rw [Kd.pths, pths_list, List.flatMap_map] at hlen ⊢
    rw [f_all_paths]
    unfold PthH at ih
    generalize f_all_paths n = fb at ih ⊢
    have hfor : (Dl.forM (pthB fb) (xs.map rowD) [] : M (Fl (List D) Empty)) S = .ok (.nx ((xs.flatMap fun x => Mb.pths x.2).map D.tup)) S := by
      rw [for_enc' rowD (fun (acc : List (List D)) => acc.map D.tup) (fun acc x => acc ++ Mb.pths x.2) (fun acc t => (∀ x ∈ t, x ∈ xs) ∧ acc.length + (t.flatMap fun x => Mb.pths x.2).length ≤ 65536) xs [] (c0 := []) rfl]
      · rw [foldl_app]; rfl
      · rintro acc x t ⟨hmm, hc⟩
        have hx := hmm x List.mem_cons_self
        rw [List.flatMap_cons, List.length_append] at hc
        have hdx := dm x hx
        have hcx := cnt_mem (xs.map (·.2)) x.2 (List.mem_map_of_mem hx)
        refine ⟨?_, fun y hy => hmm y (List.mem_cons_of_mem _ hy), by rw [List.length_append]; omega⟩
        exact pth_mem (by omega) (ih (px x hx) (hm _ (List.mem_map_of_mem hx)) (by omega) (by omega)) (by omega) (by omega)
      · exact ⟨fun x hx => hx, by rw [List.length_nil, Nat.zero_add]; exact Nat.le_trans hlen q2⟩
    have t1 : (tst (una (dIsX tabC [] ["Shape"]) (M.pure (layD i (xs.map rowD) ps st ex cv en))) : M Bool) S = .ok true S := by simp [shape_obj]
    have t2 : (M.bind (una (dFld "Layout" "rows") (M.pure (layD i (xs.map rowD) ps st ex cv en))) itemsS) S = .ok (xs.map rowD) S := by simp
    rw [ev_fin, ev_ifM, t1, at_ok, if_pos rfl, ev_out, ev_bind, ev_lst, ev_args0, at_ok, if_pos (szOk_le (by simp)), at_ok, ev_bind, t2, at_ok, ev_then, hfor]
    rfl
theorem ok_all_paths : ∀ n : Nat, PthH n
  | 0 => fun _ _ h => by omega
  | n + 1 => by
    intro l ko hd hd2
    have ih : PthH n := @ok_all_paths n
    cases l with
    | int => exact pth_int
    | arr l =>
      rw [Kd.depth] at hd hd2
      exact pth_arr ih l ko (by omega) (by omega)
    | lay xs px =>
      rw [Kd.depth] at hd hd2
      exact pth_lay ih px ko (by omega) (by omega)
end Lw
/-! rows by name -/
namespace Lw
open PySem L2 Dl Ly
def rnD : Option (D × Fnd) → D
  | none => .non
  | some q => .tup [q.1, optD q.2.b, .int q.2.p, .str (enS q.2.o)]
/-- the function finds what the model finds -/
def RN (fb : D → D → M D) (d : D) (k : Kd) (x : Str) : Prop := ∃ r : Option (D × Fnd), r.map (·.2) = k.find x ∧ (∀ q, r = some q → LK q.1 q.2.k) ∧ fb d (.str x) = M.pure (rnD r)
abbrev rnB (fb : D → D → M D) (d : D) (x : Str) : Unit → D → M (Fl Unit Unit) := fun (_ : Unit) => unT (.tp [(.tp [(.nm 3), (.nm 4), (.nm 5)]), (.nm 2)]) (on4 fun v_own2 v_kind3 v_bits4 v_position5 => (ifM (tst (bin dEq (M.pure v_own2) (M.pure (.str x)))) (outM (retM (tupM [(M.pure v_kind3), (M.pure v_bits4), (M.pure v_position5), (propM "Layout" (ar1 f_Layout_ends) (M.pure d))]))) (thenM (ifM (andT (tst (una dIsN (M.pure v_own2))) (tst (una dIsN (M.pure v_bits4)))) (M.bind (callM (ar2 fb) [(M.pure v_kind3), (M.pure (.str x))]) fun v_inner7 => (ifM (tst (una dNotN (M.pure v_inner7))) (retM (tupM [(bin dItem (M.pure v_inner7) (M.pure (D.int 0))), (bin dItem (M.pure v_inner7) (M.pure (D.int 1))), (bin dAdd (M.pure v_position5) (bin dItem (M.pure v_inner7) (M.pure (D.int 2)))), (bin dItem (M.pure v_inner7) (M.pure (D.int 3)))])) (M.pure (.nx ())))) (M.pure (.nx ()))) (fun (_ : Unit) => (M.pure (.nx ()))))))
/-- how the loop goes at one row -/
theorem rn_mem {fb : D → D → M D} {d : D} {x : Str} {o : Bool} (he : ∀ S, propM "Layout" (ar1 f_Layout_ends) (M.pure d) S = .ok (.str (enS o)) S) {m : D × Mb} {p : Int} (lk : LK m.1 m.2.k) (hx : (D.str x).plain = true) (mo : MbOk m.2) (hb : m.2.nm = none → m.2.b = none → RN fb m.1 m.2.k x) :
    ∃ r : Option (D × Fnd), r.map (·.2) = m.2.find p x o ∧ (∀ q, r = some q → LK q.1 q.2.k) ∧ ∀ S, rnB fb d x () (.tup [rowD m, .int p]) S = .ok (match r with | none => .nx () | some q => .ret (rnD (some q))) S := by
  obtain ⟨d0, nm, k, b⟩ := m
  dsimp only at lk hb ⊢
  cases nm with
  | some y =>
    have hy := (mo.nm y rfl).1
    by_cases e : y = x
    · subst e
      refine ⟨some (d0, ⟨k, b, p, o⟩), by simp [Mb.find], fun q e => by cases e; exact lk, fun S => ?_⟩
      have t1 : (tst (bin dEq (M.pure (nmD (some y))) (M.pure (.str y))) : M Bool) S = .ok true S := by simp [hx]
      rw [rnB, ev_unT31, ev_on4, ev_ifM, t1, at_ok, if_pos rfl]
      simp [he, rnD]
    · refine ⟨none, by simp [Mb.find, e], fun q e => (nomatch e), fun S => ?_⟩
      have t1 : (tst (bin dEq (M.pure (nmD (some y))) (M.pure (.str x))) : M Bool) S = .ok false S := by simp [e, hx, hy]
      rw [rnB, ev_unT31, ev_on4, ev_ifM, t1, at_ok, if_neg (by decide)]
      simp
  | none =>
    have t1 : ∀ S, (tst (bin dEq (M.pure (nmD none)) (M.pure (.str x))) : M Bool) S = .ok false S := fun S => by simp [eq_ns hx]
    cases b with
    | some b =>
      refine ⟨none, by simp [Mb.find], fun q e => (nomatch e), fun S => ?_⟩
      rw [rnB, ev_unT31, ev_on4, ev_ifM, t1, at_ok, if_neg (by decide)]
      simp
    | none =>
      obtain ⟨r, e1, e2, e3⟩ := hb rfl rfl
      cases r with
      | none =>
        have e1 : none = k.find x := e1
        refine ⟨none, by simp [Mb.find, ← e1], fun q e => (nomatch e), fun S => ?_⟩
        rw [rnB, ev_unT31, ev_on4, ev_ifM, t1, at_ok, if_neg (by decide)]
        simp [e3, rnD]
      | some q =>
        have e1 : some q.2 = k.find x := e1
        refine ⟨some (q.1, q.2.at_ p), by simp [Mb.find, ← e1], fun q' e => by cases e; exact e2 q rfl, fun S => ?_⟩
        rw [rnB, ev_unT31, ev_on4, ev_ifM, t1, at_ok, if_neg (by decide)]
        simp [e3, rnD, Fnd.at_]
theorem rn_loop {fb : D → D → M D} {d : D} {x : Str} (hx : (D.str x).plain = true) {o : Bool} (he : ∀ S, propM "Layout" (ar1 f_Layout_ends) (M.pure d) S = .ok (.str (enS o)) S) : ∀ t : List ((D × Mb) × Int), (∀ q ∈ t, LK q.1.1 q.1.2.k) → (∀ q ∈ t, MbOk q.1.2) → (∀ q ∈ t, q.1.2.nm = none → q.1.2.b = none → RN fb q.1.1 q.1.2.k x) →
    ∃ r : Option (D × Fnd), r.map (·.2) = t.findSome? (fun q => q.1.2.find q.2 x o) ∧ (∀ q, r = some q → LK q.1 q.2.k) ∧ ∀ S, (Dl.forM (rnB fb d x) (t.map fun q => .tup [rowD q.1, .int q.2]) () : M (Fl Unit Empty)) S = .ok (match r with | none => .nx () | some q => .ret (rnD (some q))) S
  | [], _, _, _ => ⟨none, rfl, fun q e => (nomatch e), fun S => rfl⟩
  | (m, p) :: t, h1, h3, h2 => by
    obtain ⟨r, e1, e2, e3⟩ := rn_mem he (m := m) (p := p) (h1 _ List.mem_cons_self) hx (h3 _ List.mem_cons_self) (h2 _ List.mem_cons_self)
    cases r with
    | some q =>
      refine ⟨some q, ?_, e2, fun S => ?_⟩
      · rw [List.findSome?_cons]
        dsimp only
        rw [← e1]; rfl
      · rw [List.map_cons, ev_for1, e3, at_ok, foR_ret]
    | none =>
      obtain ⟨r, q1, q2, q3⟩ := rn_loop hx he t (fun q hq => h1 q (List.mem_cons_of_mem _ hq)) (fun q hq => h3 q (List.mem_cons_of_mem _ hq)) (fun q hq => h2 q (List.mem_cons_of_mem _ hq))
      refine ⟨r, ?_, q2, fun S => ?_⟩
      · rw [List.findSome?_cons]
        dsimp only
        rw [← e1]; exact q1
      · rw [List.map_cons, ev_for1, e3, at_ok, foR_nx, q3]
theorem rn_lay {n : Nat} {i : Nat} {o : Opt} {xs : List (D × Mb)} {x : Str} (hx : (D.str x).plain = true) (px : ∀ y ∈ xs, LK y.1 y.2.k) (mo : ∀ y ∈ xs, MbOk y.2) (hk : ∀ y ∈ xs, y.2.nm = none → y.2.b = none → RN (f_row_named n) y.1 y.2.k x) {st ex : Int} {cv : Str} :
    RN (f_row_named (n + 1)) (layD i (xs.map rowD) ((laid o (rowsX xs)).ps.map D.int) st ex cv (enS o.big)) (.lay o (Mbs.of (xs.map (·.2)))) x := by
  unfold RN
  rw [Kd.find, find_list, rowsX_of]
  have ez : ((xs.map (·.2)).zip (laid o (rowsX xs)).ps).findSome? (fun q => q.1.find q.2 x o.big) = (xs.zip (laid o (rowsX xs)).ps).findSome? fun q => q.1.2.find q.2 x o.big := by
    rw [List.zip_map_left, List.findSome?_map]; rfl
  rw [ez]
  rw [f_row_named]
  generalize f_row_named n = fb at hk ⊢
  have he : ∀ S, propM "Layout" (ar1 f_Layout_ends) (M.pure (layD i (xs.map rowD) ((laid o (rowsX xs)).ps.map D.int) st ex cv (enS o.big))) S = .ok (.str (enS o.big)) S := fun S => by rw [prop_ends]; rfl
  have hit : ∀ S, (M.bind (argsM [(una (dFld "Layout" "rows") (M.pure (layD i (xs.map rowD) ((laid o (rowsX xs)).ps.map D.int) st ex cv (enS o.big)))), (una (dFld "Layout" "positions") (M.pure (layD i (xs.map rowD) ((laid o (rowsX xs)).ps.map D.int) st ex cv (enS o.big))))]) zipM) S = .ok ((xs.zip (laid o (rowsX xs)).ps).map fun q => .tup [rowD q.1, .int q.2]) S := fun S => by
    rw [← zipD_map rowD D.int]
    simp [zip_lst']
  obtain ⟨r, e1, e2, e3⟩ := rn_loop (fb := fb) hx he (xs.zip (laid o (rowsX xs)).ps) (fun q hq => px _ (List.of_mem_zip hq).1) (fun q hq => mo _ (List.of_mem_zip hq).1) (fun q hq => hk _ (List.of_mem_zip hq).1)
  refine ⟨r, e1, e2, ?_⟩
  funext S
  rw [ev_fin, ev_bind, hit, at_ok, ev_then, e3, at_ok]
  cases r <;> rfl
theorem ok_row_named : ∀ (n : Nat) {d : D} {o : Opt} {ms : Mbs} (x : Str), (D.str x).plain = true → LK d (.lay o ms) → KOk (.lay o ms) → ms.depth < n → RN (f_row_named n) d (.lay o ms) x
  | 0, _, _, _, _, _, _, _, h => by omega
  | n + 1, d, o, ms, x, hx, l, ko, h => by
    have ih := fun {d : D} {o : Opt} {ms : Mbs} => @ok_row_named n d o ms x hx
    generalize ek : Kd.lay o ms = k at l ko ⊢
    cases l with
    | int => cases ek
    | arr _ => cases ek
    | @lay i o' xs px =>
      cases ek
      cases ko with
      | lay hp ha hm hb hn h6 h5 q1 q2 q3 =>
        rw [of_list] at hm hb
        have dm : ∀ x ∈ xs, x.2.k.depth ≤ (Mbs.of (xs.map (·.2))).depth := fun x hx => depth_mem _ _ (by rw [of_list]; exact List.mem_map_of_mem hx)
        have hkm : ∀ y ∈ xs, y.2.nm = none → y.2.b = none → RN (f_row_named n) y.1 y.2.k x := fun y hy e1 e2 => by
          obtain ⟨oi, mi, ek⟩ := (hb _ (List.mem_map_of_mem hy)).bare e2 e1
          have l := px y hy
          have k1 := hm _ (List.mem_map_of_mem hy)
          have d1 := dm y hy
          rw [ek] at l k1 d1 ⊢
          rw [Kd.depth] at d1
          exact ih l k1 (by omega)
        rw [rowsX_of]
        exact rn_lay hx px (fun y hy => hb _ (List.mem_map_of_mem hy)) hkm
end Lw
/-! spots -/
namespace Lw
open PySem L2 Dl Ly
structure Sp where
  d : D
  h : Int
  o : Bool
abbrev spD (s : Sp) : D := .tup [s.d, .int s.h, .str (enS s.o)]
theorem lay_obj {d : D} {o : Opt} {ms : Mbs} (l : LK d (.lay o ms)) : ∃ i ds ps st ex cv en, d = layD i ds ps st ex cv en := by
  generalize ek : Kd.lay o ms = k at l
  cases l with
  | int => cases ek
  | arr _ => cases ek
  | lay xs px => exact ⟨_, _, _, _, _, _, _, rfl⟩
theorem isx_lay {i : Nat} {ds ps : List D} {st ex : Int} {cv en : Str} : dIsX tabC [] ["Shape"] (layD i ds ps st ex cv en) = M.pure (.bl true) := rfl
theorem isx_tup {ds : List D} : dIsX tabC [] ["Shape"] (.tup ds) = M.pure (.bl false) := rfl
theorem isx_str {x : Str} : dIsX tabC [.str] [] (.str x) = M.pure (.bl true) := rfl
theorem step_name {d : D} {o : Opt} {ms : Mbs} {x : Str} {f : Fnd} (hx : (D.str x).plain = true) (l : LK d (.lay o ms)) (ko : KOk (.lay o ms)) (hd : ms.depth < 12) (e : (Kd.lay o ms).find x = some f) (mo : MbOk ⟨some x, f.k, f.b⟩) {h : Int} {oo : Bool} :
    ∃ d', LK d' f.k ∧ ((f.b = none ∧ f_step_from (spD ⟨d, h, oo⟩) (.str x) = M.pure (spD ⟨d', h + f.p, f.o⟩)) ∨ ∃ s g m, f.b = some m ∧ f.k = .int s g ∧ f_step_from (spD ⟨d, h, oo⟩) (.str x) = M.pure (spD ⟨.tup [.str "bits", .int s, .bl g, .int m], h + f.p, f.o⟩)) := by
  obtain ⟨r, e1, e2, e3⟩ := ok_row_named 12 x hx l ko hd
  rw [e] at e1
  cases r with
  | none => cases e1
  | some q =>
    obtain ⟨d', f'⟩ := q
    have e1 : some f' = some f := e1
    cases e1
    have lk := e2 _ rfl
    refine ⟨d', lk, ?_⟩
    obtain ⟨i, ds, ps, st, ex, cv, en, rfl⟩ := lay_obj l
    have e3 : f_row_named 12 (layD i ds ps st ex cv en) (.str x) = M.pure (.tup [d', optD f.b, .int f.p, .str (enS f.o)]) := e3
    unfold f_step_from
    generalize f_row_named 12 = fr at e3 ⊢
    cases eb : f.b with
    | none =>
      refine .inl ⟨rfl, ?_⟩
      rw [eb] at e3
      funext S
      simp [isx_lay, isx_str, e3]
    | some m =>
      obtain ⟨_, _, _, s, g, ek⟩ := mo.bits m eb
      have ek : f.k = .int s g := ek
      refine .inr ⟨s, g, m, rfl, ek, ?_⟩
      rw [eb] at e3
      rw [ek] at lk
      cases lk
      funext S
      simp [isx_lay, isx_str, e3]
theorem step_idx {d : D} {k : Kd} {c i : Int} (l : LK d k) (ko : KOk k) (hd : k.depth < 12) (h0 : 0 ≤ i) (h1 : i < c) {h : Int} {o : Bool} (hi : i ≤ 65536) : f_step_from (spD ⟨arrD d c, h, o⟩) (.int i) = M.pure (spD ⟨d, h + 8 * i * k.sz, o⟩) := by
  have hs := ok_size_of 12 l ko hd
  have b := ko.bd
  have hml : dMul (.int (8 * k.sz)) (.int i) = M.pure (.int (8 * i * k.sz)) := by rw [mulR h0 (by omega), Int.mul_assoc, Int.mul_assoc, Int.mul_comm i]
  unfold f_step_from
  generalize f_row_named 12 = fr
  generalize f_size_of 12 = fz at hs ⊢
  funext S
  simp [isx_tup, hs, hml, h0, h1]
inductive Steps : Sp → List D → Sp → Prop
  | nil (s : Sp) : Steps s [] s
  | cons {s t u : Sp} {x : D} {p : List D} : f_step_from (spD s) x = M.pure (spD t) → Steps t p u → Steps s (x :: p) u
theorem steps_loop {S : MS} : ∀ {s t : Sp} {p : List D}, Steps s p t → (Dl.forM (fun (v_c2 : D) v_step3 => (M.bind (callM (ar2 f_step_from) [(M.pure v_c2), (M.pure v_step3)]) fun v_spot4 => (ifM (tst (una dIsN (M.pure v_spot4))) (retM (M.pure D.non)) (M.pure (.nx v_spot4))))) p (spD s) : M (Fl D Empty)) S = .ok (.nx (spD t)) S := by
  intro s t p h
  induction h with
  | nil s => rfl
  | cons e _ ih =>
    rw [ev_for1]
    generalize f_step_from = fs at e ih ⊢
    rw [← ih]
    simp [e]
theorem ok_lead {d : D} {o : Bool} {p : List D} {t : Sp} (h : Steps ⟨d, 0, o⟩ p t) : f_lead d (.tup p) (.str (enS o)) = M.pure (spD t) := by
  funext S
  have hl := steps_loop (S := S) h
  unfold f_lead
  generalize f_step_from = fs at hl ⊢
  have t1 : (notT (tst (callM (ar1 f_is_row) [(M.pure (.tup p))])) : M Bool) S = .ok false S := by simp
  have t2 : (tupM [(M.pure d), (M.pure (D.int 0)), (M.pure (.str (enS o)))]) S = .ok (spD ⟨d, 0, o⟩) S := by simp
  have t3 : (M.bind (M.pure (.tup p)) itemsS) S = .ok p S := rfl
  rw [ev_fin, ev_ifM, t1, at_ok, if_neg (by decide), ev_bind, t2, at_ok, ev_bind, t3, at_ok, ev_then, hl]
  rfl
theorem ok_spot {i : Nat} {ds ps : List D} {st ex : Int} {cv en : Str} {p : List D} {t : Sp} (h : Steps ⟨layD i ds ps st ex cv en, 0, false⟩ p t) : f_Layout_checked_spot (layD i ds ps st ex cv en) (.tup p) = M.pure (spD t) := by
  have hl := ok_lead h
  have e : enS false = "little" := rfl
  rw [e] at hl
  funext S
  unfold f_Layout_checked_spot f_spot_of
  generalize f_lead = fl at hl ⊢
  simp [hl]
/-- what lies at the end of a berth's path -/
def Num (w : Sp) (b : Ber) : Prop := (∃ s g, w.d = intD s g ∧ SzOk s ∧ b.bits = bitsOf w.h (8 * s) w.o ∧ b.sg = g) ∨ (∃ s g m, w.d = .tup [.str "bits", .int s, .bl g, .int m] ∧ 0 ≤ m ∧ m ≤ 64 ∧ b.bits = bitsOf w.h m w.o ∧ b.sg = g)
theorem ber_steps : ∀ (n : Nat) {d : D} {k : Kd} {h : Int} {o : Bool} {b : Ber}, LK d k → KOk k → k.depth < n → n ≤ 12 → b ∈ k.ber h o → ∃ w, Steps ⟨d, h, o⟩ b.path w ∧ Num w b
  | 0, _, _, _, _, _, _, _, h, _, _ => by omega
  | n + 1, d, k, h, o, b, l, ko, hd, hn, hb => by
    cases l with
    | @int s g =>
      rw [Kd.ber] at hb
      have := List.mem_singleton.mp hb
      subst this
      cases ko with
      | int hs => exact ⟨⟨intD s g, h, o⟩, .nil _, .inl ⟨s, g, rfl, hs, rfl, rfl⟩⟩
    | @arr d k c l =>
      rw [Kd.depth] at hd
      rw [Kd.ber] at hb
      obtain ⟨i, hi, hb⟩ := List.mem_flatMap.mp hb
      obtain ⟨c', hc, rfl⟩ := List.mem_map.mp hb
      have hi := List.mem_range.mp hi
      cases ko with
      | arr ko h0 h1 h2 h3 h4 =>
        obtain ⟨w, st, nu⟩ := ber_steps n l ko (by omega) (by omega) hc
        exact ⟨w, .cons (step_idx l ko (by omega) (by omega) (by omega) (by omega)) st, nu⟩
    | @lay i op xs px =>
      rw [Kd.depth] at hd
      obtain ⟨x, rest, f, q1, q2, q3⟩ := ko.berFind _ _ rfl h o b hb
      have hx := (q3.mo.nm x rfl).1
      obtain ⟨d', lk, e⟩ := step_name (h := h) (oo := o) hx (LK.lay (i := i) (o := op) xs px) ko (by omega) q2 q3.mo
      rw [q3.path]
      rcases e with ⟨eb, e⟩ | ⟨s, g, m, eb, ek, e⟩
      · obtain ⟨w, st, nu⟩ := ber_steps n lk q3.ko (by have := q3.dp; omega) (by omega) (q3.whole eb)
        exact ⟨w, .cons e st, nu⟩
      · obtain ⟨r1, r2, r3, r4⟩ := q3.part m eb
        subst r1
        obtain ⟨m0, m1, _, _⟩ := q3.mo.bits m eb
        have k1 := q3.ko
        have m1 : m ≤ 8 * f.k.sz := m1
        rw [ek] at k1 m1 r3
        rw [Kd.sz] at m1
        cases k1 with
        | int hs =>
          unfold SzOk at hs
          exact ⟨_, .cons e (.nil _), .inr ⟨s, g, m, rfl, m0, by omega, r2, r3⟩⟩
/-- what lies at the end of a shape's path -/
theorem shp_steps : ∀ (n : Nat) {d : D} {k : Kd} {h : Int} {o : Bool} {b : Shp}, LK d k → KOk k → k.depth < n → n ≤ 12 → b ∈ k.shp h → ∃ w k', Steps ⟨d, h, o⟩ b.path w ∧ w.h = b.pos ∧ LK w.d k'
  | 0, _, _, _, _, _, _, _, h, _, _ => by omega
  | n + 1, d, k, h, o, b, l, ko, hd, hn, hb => by
    have base : b = ⟨[], h⟩ → ∃ w k', Steps ⟨d, h, o⟩ b.path w ∧ w.h = b.pos ∧ LK w.d k' := fun e => by
      subst e
      exact ⟨⟨d, h, o⟩, k, .nil _, rfl, l⟩
    cases l with
    | @int s g =>
      rw [Kd.shp] at hb
      exact base (List.mem_singleton.mp hb)
    | @arr d k c l =>
      rw [Kd.depth] at hd
      rw [Kd.shp] at hb
      rcases List.mem_cons.mp hb with q | hb
      · exact base q
      obtain ⟨i, hi, hb⟩ := List.mem_flatMap.mp hb
      obtain ⟨c', hc, rfl⟩ := List.mem_map.mp hb
      have hi := List.mem_range.mp hi
      cases ko with
      | arr ko h0 h1 h2 h3 h4 =>
        obtain ⟨w, k', st, nu, lw⟩ := shp_steps n (o := o) l ko (by omega) (by omega) hc
        exact ⟨w, k', .cons (step_idx l ko (by omega) (by omega) (by omega) (by omega)) st, nu, lw⟩
    | @lay i op xs px =>
      rw [Kd.depth] at hd
      have hb' : b = ⟨[], h⟩ ∨ b ∈ ((Kd.lay op (Mbs.of (xs.map (·.2)))).shp h).drop 1 := by
        rw [Kd.shp] at hb ⊢
        rw [List.drop_one, List.tail_cons]
        exact List.mem_cons.mp hb
      rcases hb' with q | hb
      · exact base q
      obtain ⟨x, rest, f, q1, q2, q3⟩ := ko.shpFind _ _ rfl h b hb
      have hx := (q3.mo.nm x rfl).1
      obtain ⟨d', lk, e⟩ := step_name (h := h) (oo := o) hx (LK.lay (i := i) (o := op) xs px) ko (by omega) q2 q3.mo
      rw [q3.path]
      rcases e with ⟨eb, e⟩ | ⟨s, g, m, eb, ek, e⟩
      · obtain ⟨w, k', st, nu, lw⟩ := shp_steps n (o := f.o) lk q3.ko (by have := q3.dp; omega) (by omega) q3.whole
        exact ⟨w, k', .cons e st, nu, lw⟩
      · rw [q3.nb] at eb; cases eb
/-! berths -/
theorem bits_int_ne : (("int" : Str) == "bits") = false := by decide
theorem bits_arr_ne : (("bits" : Str) == "array") = false := by decide
theorem ok_bit_at {p : Int} {o : Bool} : f_bit_at (.int p) (.str (enS o)) = M.pure (.int (if o = true then mir p else p)) := by
  funext S
  cases o with
  | false => simp [f_bit_at]
  | true =>
    have hm : dMod (.int p) (.int 8) = M.pure (.int (p % 8)) := rfl
    simp [f_bit_at, hm, mir]
theorem ev_revL {ds : List D} {S : MS} : revM (M.pure (.lst ds)) S = .ok ds.reverse S := rfl
theorem ok_bits_at {w : D} {n : Int} {h : Int} {o : Bool} (h0 : 0 ≤ n) (h1 : n ≤ 1048576) (hw : ∀ S, (ifM (tst (bin dEq (bin dItem (M.pure w) (M.pure (D.int 0))) (M.pure (D.str "bits")))) (bin dItem (M.pure w) (M.pure (D.int 3))) (bin dMul (M.pure (D.int 8)) (bin dItem (M.pure w) (M.pure (D.int 1))))) S = .ok (.int n) S) : f_bits_at w (.int h) (.str (enS o)) = M.pure (.tup ((bitsOf h n o).map D.int)) := by
  funext S
  have mp : ∀ S, mapXC (unT (.nm 5) (on1 fun v_more3 => (callM (ar2 f_bit_at) [(bin dAdd (M.pure (.int h)) (M.pure v_more3)), (M.pure (.str (enS o)))]))) ((List.range n.toNat).map fun (i : Nat) => D.int i) S = .ok ((List.range n.toNat).map fun (i : Nat) => D.int (if o = true then mir (h + i) else h + i)) S := fun S => by
    refine map_enc (fun (i : Nat) => D.int i) _ _ fun i _ => ?_
    have := ok_bit_at (p := h + i) (o := o)
    generalize f_bit_at = fb at this ⊢
    generalize (i : Int) = j at this ⊢
    simp [this]
  have t1 : (mapX (M.bind (M.pure (.int n)) rng1) (unT (.nm 5) (on1 fun v_more3 => (callM (ar2 f_bit_at) [(bin dAdd (M.pure (.int h)) (M.pure v_more3)), (M.pure (.str (enS o)))])))) S = .ok ((List.range n.toNat).map fun (i : Nat) => D.int (if o = true then mir (h + i) else h + i)) S := by
    rw [ev_mapX, ev_bind, ev_pure, at_ok, ok_rng1 h0 h1, ev_pure, at_ok, if_pos (by rw [List.length_map, List.length_range]; exact szOk_le (by omega)), mp]
  unfold f_bits_at
  rw [ev_fin, ev_bind, hw, at_ok, ev_bind, t1, at_ok, ev_ret]
  cases o with
  | false =>
    simp [bitsOf]
  | true =>
    simp [bitsOf, ev_revL, Function.comp_def]
theorem isA_checked_spot {i : Nat} {ds ps : List D} {st ex : Int} {cv en : Str} {S : MS} : isA "Layout" "checked_spot" (layD i ds ps st ex cv en) S = .ok () S := rfl
theorem isA_paths {i : Nat} {ds ps : List D} {st ex : Int} {cv en : Str} {S : MS} : isA "Layout" "paths" (layD i ds ps st ex cv en) S = .ok () S := rfl
theorem isA_berth {i : Nat} {ds ps : List D} {st ex : Int} {cv en : Str} {S : MS} : isA "Layout" "berth" (layD i ds ps st ex cv en) S = .ok () S := rfl
theorem isA_octet_at {i : Nat} {ds ps : List D} {st ex : Int} {cv en : Str} {S : MS} : isA "Layout" "octet_at" (layD i ds ps st ex cv en) S = .ok () S := rfl
theorem ok_berth {i : Nat} {ds ps : List D} {st ex : Int} {cv en : Str} {p : List D} {w : Sp} {b : Ber} (h : Steps ⟨layD i ds ps st ex cv en, 0, false⟩ p w) (nu : Num w b) : f_Layout_berth (layD i ds ps st ex cv en) (.tup p) = M.pure (.tup [.tup (b.bits.map D.int), .bl b.sg]) := by
  funext S
  have hs := ok_spot h
  unfold f_Layout_berth
  generalize f_Layout_checked_spot = fc at hs ⊢
  obtain ⟨wd, wh, wo⟩ := w
  have t1 : ∀ S, (methM "Layout" "checked_spot" (ar2 fc) (M.pure (layD i ds ps st ex cv en)) [(M.pure (.tup p))]) S = .ok (spD ⟨wd, wh, wo⟩) S := fun S => by
    rw [ev_meth, ev_pure, at_ok, isA_checked_spot, at_ok]
    simp [hs]
  rw [ev_fin, ev_bind, t1, at_ok, ev_un3]
  rcases nu with ⟨s, g, e1, e2, e3, e4⟩ | ⟨s, g, m, e1, e2, e3, e4, e5⟩
  · have e1 : wd = intD s g := e1
    subst e1
    unfold SzOk at e2
    have hb := ok_bits_at (w := intD s g) (n := 8 * s) (h := wh) (o := wo) (by omega) (by omega) (fun S => by simp [bits_int_ne])
    rw [← e3] at hb
    generalize f_bits_at = fb at hb ⊢
    simp [f_is_number_kind, isx_tup, str_arr_ne, hb, e4]
  · have e1 : wd = .tup [.str "bits", .int s, .bl g, .int m] := e1
    subst e1
    have hb := ok_bits_at (w := .tup [.str "bits", .int s, .bl g, .int m]) (n := m) (h := wh) (o := wo) (by omega) (by omega) (fun S => by simp)
    rw [← e4] at hb
    generalize f_bits_at = fb at hb ⊢
    simp [f_is_number_kind, isx_tup, bits_arr_ne, hb, e5]
theorem ok_octet {i : Nat} {ds ps : List D} {st ex : Int} {cv en : Str} {p : List D} {w : Sp} {k : Kd} (h : Steps ⟨layD i ds ps st ex cv en, 0, false⟩ p w) (lk : LK w.d k) : f_Layout_octet_at (layD i ds ps st ex cv en) (.tup p) = M.pure (.int (w.h / 8)) := by
  funext S
  have hs := ok_spot h
  unfold f_Layout_octet_at
  generalize f_Layout_checked_spot = fc at hs ⊢
  obtain ⟨wd, wh, wo⟩ := w
  have t1 : ∀ S, (methM "Layout" "checked_spot" (ar2 fc) (M.pure (layD i ds ps st ex cv en)) [(M.pure (.tup p))]) S = .ok (spD ⟨wd, wh, wo⟩) S := fun S => by
    rw [ev_meth, ev_pure, at_ok, isA_checked_spot, at_ok]
    simp [hs]
  rw [ev_fin, ev_bind, t1, at_ok, ev_un3]
  dsimp only at lk ⊢
  cases lk with
  | int => simp [f_is_number_kind, isx_tup, str_arr_ne, bits_int_ne]
  | arr l => simp [f_is_number_kind, isx_tup]
  | lay xs px => simp [f_is_number_kind, isx_lay]
end Lw
/-! what is the same -/
namespace Lw
open PySem L2 Dl Ly
theorem all_rep {n : Nat} {S : MS} : dAll (.lst (List.replicate n (.bl true))) S = .ok (.bl true) S := by
  simp only [dAll, bools_rep]
  rw [List.all_replicate]
  split <;> rfl
end Lw
/-! which bits are used -/
namespace Lw
open PySem L2 Dl Ly
abbrev bitK (i : Int) : Key × D := (.inl i, .bl true)
def addB (kvs : List (Key × D)) (bits : List Int) : List (Key × D) := mergeKD kvs (mergeKD [] (bits.map bitK))
theorem put_len {kvs : List (Key × D)} {k : Key} {v : D} : (putKD kvs k v).length ≤ kvs.length + 1 := by
  unfold putKD
  split
  · rw [List.length_map]; omega
  · rw [List.length_append, List.length_singleton]; exact Nat.le_refl _
theorem merge_len : ∀ (l kvs : List (Key × D)), (mergeKD kvs l).length ≤ kvs.length + l.length
  | [], kvs => Nat.le_refl _
  | p :: l, kvs => by
    have h1 := merge_len l (putKD kvs p.1 p.2)
    have h2 := put_len (kvs := kvs) (k := p.1) (v := p.2)
    rw [List.length_cons]
    exact Nat.le_trans h1 (by omega)
theorem more_len {bits : List Int} : (mergeKD [] (bits.map bitK)).length ≤ bits.length := by
  have := merge_len (bits.map bitK) []
  rw [List.length_map, List.length_nil, Nat.zero_add] at this
  exact this
theorem addB_len {kvs : List (Key × D)} {bits : List Int} : (addB kvs bits).length ≤ kvs.length + bits.length := by
  have h1 := merge_len (mergeKD [] (bits.map bitK)) kvs
  have h2 := more_len (bits := bits)
  unfold addB; omega
theorem pairs_bits : ∀ bits : List Int, pairsD (bits.map fun i => D.tup [.int i, .bl true]) = some (bits.map bitK)
  | [] => rfl
  | i :: l => by rw [List.map_cons, pairsD, pairs_bits l]; rfl
theorem zip_fs {α β : Type} : ∀ l : List (α × β), (l.map Prod.fst).zip (l.map Prod.snd) = l
  | [] => rfl
  | p :: l => by rw [List.map_cons, List.map_cons, List.zip_cons_cons, zip_fs l]
theorem end_cell {S : MS} {c : Cell} : (S.cells ++ [c])[S.cells.length]? = some c := by simp
theorem end_put {S : MS} {c c' : Cell} : (more S c).put S.cells.length c' = more S c' := by
  show (⟨(S.cells ++ [c]).set S.cells.length c', S.st⟩ : MS) = ⟨S.cells ++ [c'], S.st⟩
  simp
theorem bits_dict {S : MS} {mi : M D} {v : D} {bits : List Int} {n : Nat} (hm : mi S = .ok v S) (hv : itemsS v = M.pure (bits.map D.int)) (hl : bits.length ≤ 65536) : (frzD (M.bind (frz (mapX (M.bind mi itemsS) (unT (.nm n) (on1 fun v_bit4 => (tupM [(M.pure v_bit4), (M.pure (D.bl true))]))))) dictP)) S = .ok (.dic ((mergeKD [] (bits.map bitK)).map Prod.fst) ((mergeKD [] (bits.map bitK)).map Prod.snd)) S := by
  have mp : mapXC (unT (.nm n) (on1 fun v_bit4 => (tupM [(M.pure v_bit4), (M.pure (D.bl true))]))) (bits.map D.int) S = .ok (bits.map fun i => D.tup [.int i, .bl true]) S := by
    refine map_enc D.int _ _ fun i _ => ?_
    simp
  have hd : dictP (.lst (bits.map fun i => D.tup [.int i, .bl true])) S = .ok (mergeKD [] (bits.map bitK)) S := by
    unfold dictP
    rw [ev_bind, asLst_lst, ev_pure, at_ok, ev_bind, pairs_bits]
    rfl
  rw [ev_frzD, ev_bind, ev_frz, ev_mapX, ev_bind, hm, at_ok, hv, ev_pure, at_ok, if_pos (by rw [List.length_map]; exact szOk_le (by omega)), mp, at_ok, at_ok, hd, at_ok]
theorem upd_used {S : MS} {kvs : List (Key × D)} {md : M D} {bits : List Int} (hd : md (more S (.dic kvs)) = .ok (.dic ((mergeKD [] (bits.map bitK)).map Prod.fst) ((mergeKD [] (bits.map bitK)).map Prod.snd)) (more S (.dic kvs))) (hl : kvs.length + bits.length ≤ 16777216) :
    updM (M.pure (.ptr S.cells.length)) md (more S (.dic kvs)) = .ok .non (more S (.dic (addB kvs bits))) := by
  unfold updM
  rw [ev_bind, ev_pure, at_ok, ev_bind]
  have h1 : isDicP (.ptr S.cells.length) (more S (.dic kvs)) = .ok () (more S (.dic kvs)) := by
    unfold isDicP dicAt
    simp only [end_cell]
  rw [h1, at_ok, ev_bind, hd, at_ok]
  have ml := more_len (bits := bits)
  unfold addB
  generalize mergeKD [] (bits.map bitK) = mo at ml
  unfold updP dicAt
  simp only [end_cell, zip_fs, offP, Bool.and_true]
  rw [if_pos (szOk_le (by omega)), end_put]
theorem for_used {α : Type} {S : MS} {e : α → D} {bt : α → List Int} {body : Unit → D → M (Fl Unit Unit)} {L : Type} : ∀ (l : List α) (kvs : List (Key × D)), kvs.length + 64 * l.length ≤ 16777216 → (∀ x ∈ l, (bt x).length ≤ 64) →
    (∀ x ∈ l, ∀ kvs : List (Key × D), kvs.length + (bt x).length ≤ 16777216 → body () (e x) (more S (.dic kvs)) = .ok (.nx ()) (more S (.dic (addB kvs (bt x))))) →
    (Dl.forM body (l.map e) () : M (Fl Unit L)) (more S (.dic kvs)) = .ok (.nx ()) (more S (.dic (l.foldl (fun k x => addB k (bt x)) kvs)))
  | [], kvs, _, _, _ => rfl
  | x :: l, kvs, hl, hb, h => by
    have h1 := hb x List.mem_cons_self
    rw [List.length_cons] at hl
    rw [List.map_cons, ev_for1, h x List.mem_cons_self kvs (by omega), at_ok, foR_nx]
    have := addB_len (kvs := kvs) (bits := bt x)
    exact for_used l _ (by omega) (fun y hy => hb y (List.mem_cons_of_mem _ hy)) fun y hy => h y (List.mem_cons_of_mem _ hy)
end Lw
/-! holes -/
namespace Lw
open PySem L2 Dl Ly
def freeD (kvs : List (Key × D)) (n : Int) : List D := ((List.range n.toNat).filter fun (i : Nat) => !(valD kvs (.inl (i : Int))).isSome).map fun (i : Nat) => D.int i
theorem fil_used {T : MS} {k : Nat} {kvs : List (Key × D)} (hc : T.cells[k]? = some (.dic kvs)) {mn : M D} {n : Int} {a : Nat} (hn : mn T = .ok (.int n) T) (h0 : 0 ≤ n) (h1 : n ≤ 1048576) :
    (frz (filX (M.bind mn rng1) (unT (.nm a) (on1 fun v_bit5 => (tst (bin (dInK true) (M.pure v_bit5) (M.pure (.ptr k)))))) (unT (.nm a) (on1 fun v_bit5 => (M.pure v_bit5))))) T = .ok (.lst (freeD kvs n)) T := by
  have hf : filXC (unT (.nm a) (on1 fun v_bit5 => (tst (bin (dInK true) (M.pure v_bit5) (M.pure (.ptr k)))))) (unT (.nm a) (on1 fun v_bit5 => (M.pure v_bit5))) ((List.range n.toNat).map fun (i : Nat) => D.int i) T = .ok (freeD kvs n) T := by
    refine fil_enc (fun (i : Nat) => D.int i) (fun (i : Nat) => !(valD kvs (.inl (i : Int))).isSome) (fun (i : Nat) => D.int i) _ fun i _ => ⟨?_, rfl⟩
    generalize (i : Int) = j
    have hk : dInK true (.int j) (.ptr k) T = .ok (.bl (!(valD kvs (.inl j)).isSome)) T := by
      unfold dInK dicAt
      simp only [hc, keyOf]
      rfl
    rw [ev_unN, ev_on1, ev_tst, ev_bin, ev_pure, at_ok, ev_pure, at_ok, hk, at_ok]
    rfl
  rw [ev_frz, ev_filX, ev_bind, hn, at_ok, ok_rng1 h0 h1, ev_pure, at_ok, if_pos (by rw [List.length_map, List.length_range]; exact szOk_le (by omega)), hf, at_ok]
theorem Num.len {w : Sp} {b : Ber} (h : Num w b) : b.bits.length ≤ 64 := by
  rcases h with ⟨s, g, e1, e2, e3, e4⟩ | ⟨s, g, m, e1, e2, e3, e4, e5⟩
  · rw [e3, bits_len]
    unfold SzOk at e2; omega
  · rw [e4, bits_len]; omega
def usedK (k : Kd) : List (Key × D) := (k.ber 0 false).foldl (fun kv b => addB kv b.bits) []
theorem paths_eq {k : Kd} (ko : KOk k) : k.pths.map D.tup = (k.ber 0 false).map fun b => .tup b.path := by
  rw [← ko.pths 0 false, List.map_map]; rfl
theorem lay_bd {o : Opt} {ms : Mbs} (ko : KOk (.lay o ms)) : 0 ≤ Ly.sizeOf o (laid o ms.rows) ∧ Ly.sizeOf o (laid o ms.rows) ≤ 65536 := by
  have := ko.bd
  rw [Kd.sz] at this
  exact ⟨this.1, this.2.1⟩
theorem ok_paths {d : D} {k : Kd} (l : LK d k) (ko : KOk k) (hd : k.depth < 12) : f_Layout_paths d = M.pure (.lst ((k.ber 0 false).map fun b => .tup b.path)) := by
  have h := ok_all_paths 12 l ko hd hd
  rw [paths_eq ko] at h
  funext S
  unfold f_Layout_paths
  generalize f_all_paths 12 = fa at h ⊢
  simp [h]
theorem berth_of {i : Nat} {ds ps : List D} {st ex : Int} {cv en : Str} {k : Kd} (l : LK (layD i ds ps st ex cv en) k) (ko : KOk k) (hd : k.depth < 12) {b : Ber} (hb : b ∈ k.ber 0 false) : f_Layout_berth (layD i ds ps st ex cv en) (.tup b.path) = M.pure (.tup [.tup (b.bits.map D.int), .bl b.sg]) ∧ b.bits.length ≤ 64 := by
  obtain ⟨w, st, nu⟩ := ber_steps 12 l ko hd (Nat.le_refl _) hb
  exact ⟨ok_berth st nu, nu.len⟩
theorem ber_cnt {k : Kd} (ko : KOk k) : 64 * (k.ber 0 false).length ≤ 16777216 := by
  have := ber_len k 0 false
  have : k.cnt ≤ 65536 := by
    cases ko with
    | int _ => rw [Kd.cnt]; omega
    | arr _ _ _ _ h _ => exact h
    | lay _ _ _ _ _ _ _ _ h _ => exact h
  omega
theorem ok_holes {i : Nat} {ds ps : List D} {st ex : Int} {cv en : Str} {k : Kd} (l : LK (layD i ds ps st ex cv en) k) (ko : KOk k) (hd : k.depth < 12) (h0 : 0 ≤ ex) (h1 : ex ≤ 65536) {S : MS} : f_Layout_holes (layD i ds ps st ex cv en) S = .ok (.lst (freeD (usedK k) (8 * ex))) (more S (.dic (usedK k))) := by
  have hp := ok_paths l ko hd
  have hb := fun b (hb : b ∈ k.ber 0 false) => berth_of l ko hd hb
  unfold f_Layout_holes
  generalize f_Layout_paths = fp at hp ⊢
  generalize f_Layout_berth = fb at hb ⊢
  have t0 : (boxD (M.pure [])) S = .ok (.ptr S.cells.length) (more S (.dic [])) := rfl
  have t1 : ∀ S, (M.bind (methM "Layout" "paths" (ar1 fp) (M.pure (layD i ds ps st ex cv en)) []) itemsS) S = .ok ((k.ber 0 false).map fun b => .tup b.path) S := fun S => by
    rw [ev_bind, ev_meth, ev_pure, at_ok, isA_paths, at_ok, ev_args0, at_ok, ev_ar1, hp, ev_pure, at_ok, itS_lst, ev_pure]
  rw [ev_fin, ev_bind, t0, at_ok, ev_bind, t1, at_ok, ev_then, for_used (bt := Ber.bits) (k.ber 0 false) [] (by rw [List.length_nil]; have := ber_cnt ko; omega) (fun b hx => (hb b hx).2), at_ok, thR_nx]
  · have t2 : ∀ S, (bin dMul (M.pure (D.int 8)) (propM "Layout" (ar1 f_Layout_size) (M.pure (layD i ds ps st ex cv en)))) S = .ok (.int (8 * ex)) S := fun S => by
      rw [prop_size]
      simp
    rw [ev_ret, fil_used end_cell (t2 _) (by omega) (by omega)]
    rfl
  · intro b hx kvs hl
    obtain ⟨q1, q2⟩ := hb b hx
    have t3 : ∀ S, (bin dItem (methM "Layout" "berth" (ar2 fb) (M.pure (layD i ds ps st ex cv en)) [(M.pure (.tup b.path))]) (M.pure (D.int 0))) S = .ok (.tup (b.bits.map D.int)) S := fun S => by
      rw [ev_bin, ev_meth, ev_pure, at_ok, isA_berth, at_ok]
      simp [q1]
    rw [ev_bind, upd_used (bits_dict (t3 _) rfl (by omega)) hl]
    rfl
end Lw
/-! the layout is right -/
/-! how great a layout is at most -/
namespace Ly
open PySem L2 Dl
def tot : List Row → Int
  | [] => 0
  | r :: rs => r.sz + 33 + tot rs
theorem tot_nonneg : ∀ rs : List Row, (∀ r ∈ rs, r.ok) → 0 ≤ tot rs
  | [], _ => Int.le_refl _
  | r :: rs, h => by
    have h1 := (h r List.mem_cons_self).1
    have h2 := tot_nonneg rs fun x hx => h x (List.mem_cons_of_mem _ hx)
    rw [tot]; omega
theorem sv_tot {p : Option Int} (hp : PkOk p) : ∀ (rs : List Row) (s : Sv), (∀ r ∈ rs, r.ok) → (rs.foldl (svStep p) s).at_ ≤ s.at_ + 8 * tot rs
  | [], s, _ => by rw [tot]; show s.at_ ≤ _; omega
  | r :: rs, s, h => by
    have hr := h r List.mem_cons_self
    have hs := stp_bd hp hr.2.2.1 hr.2.2.2.1
    have ih := sv_tot hp rs (svStep p s r) fun x hx => h x (List.mem_cons_of_mem _ hx)
    have hz := hr.1
    have a1 : svAt p s.at_ r ≤ s.at_ + 256 := by
      unfold svAt
      have := up_lt (a := s.at_) (s := 8 * stp p r.al) (by omega)
      split
      · omega
      · split <;> omega
    have a2 : svTake r ≤ 8 * r.sz := by
      unfold svTake
      split
      · exact Int.le_refl _
      · rename_i b e; exact (hr.2.2.2.2 b e).2.1
    rw [List.foldl_cons, tot]
    have e : (svStep p s r).at_ = svAt p s.at_ r + svTake r := rfl
    rw [e] at ih
    omega
theorem ms_tot {p : Option Int} (hp : PkOk p) : ∀ (rs : List Row) (s : Ms), (∀ r ∈ rs, r.ok) → (rs.foldl (msStep p) s).at_ ≤ s.at_ + tot rs
  | [], s, _ => by rw [tot]; show s.at_ ≤ _; omega
  | r :: rs, s, h => by
    have hr := h r List.mem_cons_self
    have hs := stp_bd hp hr.2.2.1 hr.2.2.2.1
    have ih := ms_tot hp rs (msStep p s r) fun x hx => h x (List.mem_cons_of_mem _ hx)
    have hz := hr.1
    have u := up_lt (a := s.at_) (s := stp p r.al) (by omega)
    have a1 : (msStep p s r).at_ ≤ s.at_ + r.sz + 33 := by
      unfold msStep
      split
      · show up s.at_ (stp p r.al) + r.sz ≤ _; omega
      · split
        · show s.at_ ≤ _; omega
        · split
          · show up s.at_ (stp p r.al) + r.sz ≤ _; omega
          · show s.at_ ≤ _; omega
    rw [List.foldl_cons, tot]
    omega
theorem su_tot {p : Option Int} : ∀ (rs : List Row) (s : Int × Int), (∀ r ∈ rs, r.ok) → 0 ≤ s.1 → (rs.foldl (suStep p) s).1 ≤ s.1 + tot rs
  | [], s, _, _ => by rw [tot]; show s.1 ≤ _; omega
  | r :: rs, s, h, h0 => by
    have hr := h r List.mem_cons_self
    have hz := hr.1
    have a2 : 0 ≤ suTake r ∧ suTake r ≤ r.sz + 1 := by
      unfold suTake
      split
      · omega
      · rename_i b e
        have hb := hr.2.2.2.2 b e
        have u := up_lt (a := b) (s := 8) (by decide)
        have u2 := up_ge (a := b) (s := 8) (by decide)
        omega
    have ih := su_tot (p := p) rs (suStep p s r) (fun x hx => h x (List.mem_cons_of_mem _ hx)) (by show 0 ≤ max s.1 (suTake r); omega)
    rw [List.foldl_cons, tot]
    have e : (suStep p s r).1 = max s.1 (suTake r) := rfl
    rw [e] at ih
    omega
theorem mu_tot {p : Option Int} : ∀ (rs : List Row) (s : Int × Int), (∀ r ∈ rs, r.ok) → 0 ≤ s.1 → (rs.foldl (muStep p) s).1 ≤ s.1 + tot rs
  | [], s, _, _ => by rw [tot]; show s.1 ≤ _; omega
  | r :: rs, s, h, h0 => by
    have hr := h r List.mem_cons_self
    have hz := hr.1
    have a2 : 0 ≤ (muStep p s r).1 ∧ (muStep p s r).1 ≤ s.1 + r.sz := by
      unfold muStep
      split
      · omega
      · show 0 ≤ max s.1 r.sz ∧ max s.1 r.sz ≤ _; omega
    have ih := mu_tot (p := p) rs (muStep p s r) (fun x hx => h x (List.mem_cons_of_mem _ hx)) a2.1
    rw [List.foldl_cons, tot]
    omega
theorem size_tot {o : Opt} (hp : PkOk o.pack) (ha : AlOk o.align) {rs : List Row} (h : ∀ r ∈ rs, r.ok) : sizeOf o (laid o rs) ≤ tot rs + 33 := by
  have bd := laid_bd (o := o) hp h
  have sb := step_bd (o := o) (l := laid o rs) ha bd.1 bd.2.1
  have key : (laid o rs).taken ≤ tot rs + 1 := by
    unfold laid
    have t0 := tot_nonneg rs h
    split
    · split
      · have := mu_tot (p := o.pack) rs (0, 1) h (by decide)
        show (rs.foldl (muStep o.pack) (0, 1)).1 ≤ _
        dsimp only at this
        omega
      · have := ms_tot hp rs ⟨0, 1, [], 0, 0⟩ h
        show (rs.foldl (msStep o.pack) ⟨0, 1, [], 0, 0⟩).at_ ≤ _
        dsimp only at this
        omega
    · split
      · have := su_tot (p := o.pack) rs (0, 1) h (by decide)
        show (rs.foldl (suStep o.pack) (0, 1)).1 ≤ _
        dsimp only at this
        omega
      · have := sv_tot hp rs ⟨0, 1, []⟩ h
        show up (rs.foldl (svStep o.pack) ⟨0, 1, []⟩).at_ 8 / 8 ≤ _
        dsimp only at this
        have u := up_lt (a := (rs.foldl (svStep o.pack) ⟨0, 1, []⟩).at_) (s := 8) (by decide)
        omega
  unfold sizeOf
  have := up_lt (a := (laid o rs).taken) (s := stepOf o (laid o rs)) (by omega)
  omega
/-- small members, few of them: a right layout -/
structure Sm (m : Mb) : Prop where
  ko : KOk m.k
  mo : MbOk m
  sz : m.k.sz ≤ 64
  cnt : m.k.cnt ≤ 40
  all : m.k.all ≤ 20
theorem tot_le : ∀ l : List Mb, (∀ m ∈ l, Sm m) → tot (l.map Mb.row) ≤ 97 * l.length
  | [], _ => by simp [tot]
  | m :: l, h => by
    have h1 := (h m List.mem_cons_self).sz
    have h2 := tot_le l fun x hx => h x (List.mem_cons_of_mem _ hx)
    rw [List.map_cons, tot, List.length_cons]
    show m.k.sz + 33 + _ ≤ _
    omega
theorem cnt_le : ∀ l : List Mb, (∀ m ∈ l, Sm m) → (Mbs.of l).cnt ≤ 41 * l.length
  | [], _ => by rw [Mbs.of, Mbs.cnt]; exact Nat.zero_le _
  | m :: l, h => by
    have h1 := (h m List.mem_cons_self).cnt
    have h2 := cnt_le l fun x hx => h x (List.mem_cons_of_mem _ hx)
    rw [Mbs.of, Mbs.cnt, List.length_cons]
    omega
theorem all_le : ∀ l : List Mb, (∀ m ∈ l, Sm m) → (Mbs.of l).all ≤ 21 * l.length
  | [], _ => by rw [Mbs.of, Mbs.all]; exact Nat.zero_le _
  | m :: l, h => by
    have h1 := (h m List.mem_cons_self).all
    have h2 := all_le l fun x hx => h x (List.mem_cons_of_mem _ hx)
    rw [Mbs.of, Mbs.all, List.length_cons]
    omega
theorem few_ok {o : Opt} (hp : PkOk o.pack) (ha : AlOk o.align) {l : List Mb} (h : ∀ m ∈ l, Sm m) (hl : l.length ≤ 64) (hn : (Mbs.of l).names.Nodup) (hn2 : (Mbs.of l).names.length ≤ 65536) : KOk (.lay o (Mbs.of l)) := by
  have hr : ∀ r ∈ (Mbs.of l).rows, r.ok := fun r hr => by
    rw [rows_eq, of_list] at hr
    obtain ⟨m, hm, rfl⟩ := List.mem_map.mp hr
    have b := (h m hm).ko.bd
    refine ⟨b.1, b.2.1, b.2.2.1, b.2.2.2, fun bb e => ?_⟩
    obtain ⟨q1, q2, q3, s, g, q4⟩ := (h m hm).mo.bits bb e
    refine ⟨q1, q2, ?_⟩
    have := (h m hm).ko
    show SzOk m.k.sz
    rw [q4] at this ⊢
    cases this with
    | int h => rw [Kd.sz]; exact h
  have h1 := size_tot hp ha hr
  have h2 := tot_le l h
  have h3 := cnt_le l h
  have h4 := all_le l h
  rw [rows_eq, of_list] at h1
  refine .lay hp ha (by rw [of_list]; exact fun m hm => (h m hm).ko) (by rw [of_list]; exact fun m hm => (h m hm).mo) hn hn2 (by rw [of_list]; omega) ?_ ?_ ?_
  · rw [Kd.sz, rows_eq, of_list]; omega
  · rw [Kd.cnt]; omega
  · rw [Kd.all]; omega
end Ly
/-! draws -/
namespace Lw
open PySem L2 Dl Ly
/-- m draws at most n numbers and gives what Q says -/
def Drw (n : Nat) (m : M D) (Q : D → Prop) : Prop := ∀ (cs : List Cell) (s : Strm) (r : Nat), Bud s (n + r) → ∃ d s', m ⟨cs, s⟩ = .ok d ⟨cs, s'⟩ ∧ Q d ∧ Bud s' r
theorem drw_draw {k : Int} (h0 : 0 < k) (h1 : k < 18446744073709551616) : Drw 1 (f_draw .strm (.int k)) fun d => ∃ i, d = .int i ∧ 0 ≤ i ∧ i < k := fun cs s r b => by
  obtain ⟨g, t0, t1, b'⟩ := bud_next (n := r) (by rw [Nat.add_comm] at b; exact b) h0
  refine ⟨.int (s.take k), s.next k, ?_, ⟨_, rfl, t0, t1⟩, b'⟩
  show drawD _ _ _ = _
  unfold drawD
  simp only [g, h0, h1, decide_true, Bool.and_true, if_true]
theorem drw_pick {ds : List D} (h0 : 0 < ds.length) (h1 : ds.length < 1048576) : Drw 1 (f_pick .strm (.lst ds)) fun d => d ∈ ds := fun cs s r b => by
  obtain ⟨d, s', e, ⟨i, rfl, i0, i1⟩, b'⟩ := drw_draw (k := ds.length) (by omega) (by omega) cs s r b
  obtain ⟨a, ea, m, _⟩ := atI_nat i0 i1
  refine ⟨a, s', ?_, m, b'⟩
  unfold f_pick
  generalize f_draw = fd at e ⊢
  simp [e, ea]
theorem Drw.le {n m : Nat} {c : M D} {Q : D → Prop} (h : Drw n c Q) (l : n ≤ m) : Drw m c Q := fun cs s r b => by
  obtain ⟨d, s', e, q, b'⟩ := h cs s (m - n + r) (b.le (by omega))
  exact ⟨d, s', e, q, b'.le (by omega)⟩
/-- kinds without layouts -/
inductive FK : Nat → D → Prop
  | int {n : Nat} {s : Int} {g : Bool} : FK n (intD s g)
  | arr {n : Nat} {d : D} {c : Int} : FK n d → FK (n + 1) (arrD d c)
/-- kinds of small members -/
structure SmK (d : D) (k : Kd) : Prop where
  pd : PD d k
  ko : KOk k
  sz : k.sz ≤ 64
  cnt : k.cnt ≤ 40
  all : k.all ≤ 20
  dp : k.depth ≤ 2
  fk : FK 2 d
end Lw
/-! plans -/
namespace Lw
open PySem L2 Dl Ly
theorem view_ptrL {T : MS} {n k : Nat} {ds : List D} (h : T.cells[k]? = some (.lst ds)) : viewD T (n + 1) (.ptr k) = .lst (ds.map (viewD T n)) := by simp only [viewD, h]
/-! fits -/
end Lw
/-! plans are drawn -/
namespace Lw
open PySem L2 Dl Ly
structure T3 where
  x : Str
  d : D
  k : Kd
abbrev T3.m (t : T3) : D × Mb := (t.d, ⟨some t.x, t.k, none⟩)
structure T3.Ok (t : T3) : Prop where
  nm : NmOk t.x
  sm : SmK t.d t.k
structure Ts (ts : List T3) : Prop where
  ok : ∀ t ∈ ts, t.Ok
  nd : (ts.map (·.x)).Nodup
  ln : ts.length ≤ 12
theorem ts_names : ∀ ts : List T3, (Mbs.of ((ts.map T3.m).map (·.2))).names = ts.map (·.x)
  | [] => by rw [List.map_nil, List.map_nil, Mbs.of, Mbs.names]; rfl
  | t :: ts => by
    rw [List.map_cons, List.map_cons, Mbs.of, Mbs.names, ts_names ts]; rfl
theorem Ts.ko {ts : List T3} (h : Ts ts) {o : Opt} (hp : PkOk o.pack) (ha : AlOk o.align) : KOk (.lay o (Mbs.of ((ts.map T3.m).map (·.2)))) := by
  refine few_ok hp ha (fun m hm => ?_) (by rw [List.length_map, List.length_map]; have := h.ln; omega) (by rw [ts_names]; exact h.nd) (by rw [ts_names, List.length_map]; have := h.ln; omega)
  obtain ⟨y, hy, rfl⟩ := List.mem_map.mp hm
  obtain ⟨t, ht, rfl⟩ := List.mem_map.mp hy
  have q := (h.ok t ht)
  exact ⟨q.sm.ko, ⟨fun x e => by cases e; exact q.nm, fun b e => (nomatch e), fun _ e => (nomatch e)⟩, q.sm.sz, q.sm.cnt, q.sm.all⟩
theorem Ts.pd {ts : List T3} (h : Ts ts) : ∀ x ∈ ts.map T3.m, PD x.1 x.2.k := fun x hx => by
  obtain ⟨t, ht, rfl⟩ := List.mem_map.mp hx
  exact (h.ok t ht).sm.pd
theorem Ts.fk {ts : List T3} (h : Ts ts) : ∀ x ∈ ts.map T3.m, FK 2 x.1 := fun x hx => by
  obtain ⟨t, ht, rfl⟩ := List.mem_map.mp hx
  exact (h.ok t ht).sm.fk
end Lw
/-! plans are drawn (end) -/
/-! kinds of members -/
/-! members of all flat words, and plans of them -/
namespace Lw
open PySem L2 Dl Ly
/-- a flat member with its data -/
structure Fm (y : D × Mb) : Prop where
  pd : PD y.1 y.2.k
  sm : Sm y.2
  dp : y.2.k.depth ≤ 2
  fk : FK 2 y.1
  bare : y.2.nm = none → y.2.b ≠ none
/-- rows of flat members -/
structure Fx (xs : List (D × Mb)) : Prop where
  ok : ∀ y ∈ xs, Fm y
  nd : (xs.filterMap (·.2.nm)).Nodup
  ln : xs.length ≤ 12
theorem fx_names : ∀ xs : List (D × Mb), (∀ y ∈ xs, Fm y) → (Mbs.of (xs.map (·.2))).names = xs.filterMap (·.2.nm)
  | [], _ => by rw [List.map_nil, Mbs.of, Mbs.names]; rfl
  | y :: xs, h => by
    have ih := fx_names xs fun y hy => h y (List.mem_cons_of_mem _ hy)
    have hb := (h y List.mem_cons_self).bare
    obtain ⟨d, nm, k, b⟩ := y
    rw [List.map_cons, Mbs.of]
    cases nm with
    | some x => rw [Mbs.names, ih]; rfl
    | none =>
      cases b with
      | none => exact absurd rfl (hb rfl)
      | some b => rw [Mbs.names, ih]; rfl
theorem fx_dep : ∀ xs : List (D × Mb), (∀ y ∈ xs, Fm y) → (Mbs.of (xs.map (·.2))).depth ≤ 2
  | [], _ => by rw [List.map_nil, Mbs.of, Mbs.depth]; exact Nat.zero_le _
  | y :: xs, h => by
    rw [List.map_cons, Mbs.of, Mbs.depth]
    have h1 := (h y List.mem_cons_self).dp
    have h2 := fx_dep xs fun z hz => h z (List.mem_cons_of_mem _ hz)
    omega
theorem Fx.ko {xs : List (D × Mb)} (h : Fx xs) {o : Opt} (hp : PkOk o.pack) (ha : AlOk o.align) : KOk (.lay o (Mbs.of (xs.map (·.2)))) := by
  refine few_ok hp ha (fun m hm => ?_) (by rw [List.length_map]; have := h.ln; omega) (by rw [fx_names xs h.ok]; exact h.nd) (by rw [fx_names xs h.ok]; have := h.ln; have := List.length_filterMap_le (fun y : D × Mb => y.2.nm) xs; omega)
  obtain ⟨y, hy, rfl⟩ := List.mem_map.mp hm
  exact (h.ok y hy).sm
theorem Fx.pd {xs : List (D × Mb)} (h : Fx xs) : ∀ x ∈ xs, PD x.1 x.2.k := fun x hx => (h.ok x hx).pd
theorem Fx.fk {xs : List (D × Mb)} (h : Fx xs) : ∀ x ∈ xs, FK 2 x.1 := fun x hx => (h.ok x hx).fk
/-! a plan that is drawn, then frozen, laid and asked -/
/-! what is drawn for options -/
end Lw
/-! turns of a law, and layouts that are given in full -/
namespace Lw
open PySem L2 Dl Ly
theorem fk_lk : ∀ {m : Nat} {d : D} {k : Kd}, FK m d → PD d k → LK d k := by
  intro m d k h
  induction h generalizing k with
  | int =>
    intro p
    cases p with
    | int => exact .int
    | lay xs pl px => obtain ⟨ks, vs, e⟩ := pl.dic; cases e
  | arr _ ih =>
    intro p
    cases p with
    | arr p => exact .arr (ih p)
    | lay xs pl px => obtain ⟨ks, vs, e⟩ := pl.dic; cases e
theorem Fx.xs {xs : List (D × Mb)} (h : Fx xs) : Xs xs := ⟨fun x hx => fk_lk (h.ok x hx).fk (h.ok x hx).pd, fun x hx => (h.ok x hx).sm.ko, fun x hx => (h.ok x hx).sm.mo, fun x hx => by have := (h.ok x hx).dp; omega, by have := h.ln; omega⟩
/-- a layout of flat members, as it is made -/
abbrev layX (i : Nat) (xs : List (D × Mb)) (o : Opt) : D := layD i (xs.map rowD) ((laid o (rowsX xs)).ps.map D.int) (stepOf o (laid o (rowsX xs))) (Ly.sizeOf o (laid o (rowsX xs))) (cvS o.msvc) (enS o.big)
theorem lk_flat {i : Nat} {xs : List (D × Mb)} {o : Opt} (h : Fx xs) : LK (layX i xs o) (.lay o (Mbs.of (xs.map (·.2)))) := by
  have res := LK.lay (i := i) (o := o) xs h.xs.lk
  rw [rowsX_of] at res
  exact res
theorem octet_flat {i : Nat} {xs : List (D × Mb)} {o : Opt} {p : List D} {pos : Int} {j : Nat} (h : Fx xs) (hp : PkOk o.pack) (ha : AlOk o.align) (e : ((Kd.lay o (Mbs.of (xs.map (·.2)))).shp 0)[j]? = some ⟨p, pos⟩) : f_Layout_octet_at (layX i xs o) (.tup p) = M.pure (.int (pos / 8)) := by
  have dp := fx_dep xs h.ok
  obtain ⟨w, k', st, eh, lk⟩ := shp_steps 12 (o := false) (lk_flat (i := i) h) (h.ko hp ha) (by rw [Kd.depth]; omega) (by omega) (List.mem_of_getElem? e)
  rw [ok_octet st lk, eh]
theorem holes_flat {i : Nat} {xs : List (D × Mb)} {o : Opt} (h : Fx xs) (hp : PkOk o.pack) (ha : AlOk o.align) (S : MS) : f_Layout_holes (layX i xs o) S = .ok (.lst (freeD (usedK (.lay o (Mbs.of (xs.map (·.2))))) (8 * Ly.sizeOf o (laid o (rowsX xs))))) (more S (.dic (usedK (.lay o (Mbs.of (xs.map (·.2))))))) := by
  have dp := fx_dep xs h.ok
  have ko := h.ko hp ha
  have b := lay_bd ko
  rw [rowsX_of] at b
  exact ok_holes (lk_flat (i := i) h) ko (by rw [Kd.depth]; omega) b.1 b.2
theorem size_prop {i : Nat} {ds ps : List D} {st ex : Int} {cv en : Str} : propM "Layout" (ar1 f_Layout_size) (M.pure (layD i ds ps st ex cv en)) = M.pure (.int ex) := ok_prop ok_Layout_size
theorem al_prop {i : Nat} {ds ps : List D} {st ex : Int} {cv en : Str} : propM "Layout" (ar1 f_Layout_alignment) (M.pure (layD i ds ps st ex cv en)) = M.pure (.int st) := ok_prop ok_Layout_alignment
/-- what is told of a layout that was made -/
structure Made (xs : List (D × Mb)) (o : Opt) (ld : D) : Prop where
  sz : propM "Layout" (ar1 f_Layout_size) (M.pure ld) = M.pure (.int (Ly.sizeOf o (laid o (rowsX xs))))
  al : propM "Layout" (ar1 f_Layout_alignment) (M.pure ld) = M.pure (.int (stepOf o (laid o (rowsX xs))))
  oct : ∀ {x : Str} {pos : Int} (j : Nat), ((Kd.lay o (Mbs.of (xs.map (·.2)))).shp 0)[j]? = some ⟨[.str x], pos⟩ → f_Layout_octet_at ld (.tup [.str x]) = M.pure (.int (pos / 8))
  iso : ∀ S, isA "Layout" "octet_at" ld S = .ok () S
  ish : ∀ S, isA "Layout" "holes" ld S = .ok () S
  isp : ∀ S, isA "Layout" "paths" ld S = .ok () S
  pth : f_Layout_paths ld = M.pure (.lst (((Kd.lay o (Mbs.of (xs.map (·.2)))).ber 0 false).map fun b => .tup b.path))
  hol : ∀ S, ∃ S', f_Layout_holes ld S = .ok (.lst (freeD (usedK (.lay o (Mbs.of (xs.map (·.2))))) (8 * Ly.sizeOf o (laid o (rowsX xs))))) S'
theorem made {i : Nat} {xs : List (D × Mb)} {o : Opt} (h : Fx xs) (hp : PkOk o.pack) (ha : AlOk o.align) : Made xs o (layX i xs o) :=
  ⟨size_prop, al_prop, fun j e => octet_flat h hp ha e, fun _ => rfl, fun _ => rfl, fun _ => rfl, ok_paths (lk_flat h) (h.ko hp ha) (by rw [Kd.depth]; have := fx_dep xs h.ok; omega), fun S => ⟨_, holes_flat h hp ha S⟩⟩
end Lw
/-! what stands at pointers, layouts within layouts -/
namespace Ly
open PySem L2 Dl
/-- bounds of a member -/
structure Bd (A : Int) (B C : Nat) (m : Mb) : Prop where
  ko : KOk m.k
  mo : MbOk m
  sz : m.k.sz ≤ A
  cnt : m.k.cnt ≤ B
  all : m.k.all ≤ C
theorem tot_le2 {A : Int} {B C : Nat} : ∀ l : List Mb, (∀ m ∈ l, Bd A B C m) → tot (l.map Mb.row) ≤ (A + 33) * l.length
  | [], _ => by simp [tot]
  | m :: l, h => by
    have h1 := (h m List.mem_cons_self).sz
    have h2 := tot_le2 l fun x hx => h x (List.mem_cons_of_mem _ hx)
    rw [List.map_cons, tot, List.length_cons]
    show m.k.sz + 33 + _ ≤ _
    have e : (A + 33) * ((l.length + 1 : Nat) : Int) = (A + 33) * l.length + (A + 33) := by rw [Int.natCast_add, Int.mul_add]; simp
    rw [e]
    omega
theorem cnt_le2 {A : Int} {B C : Nat} : ∀ l : List Mb, (∀ m ∈ l, Bd A B C m) → (Mbs.of l).cnt ≤ (B + 1) * l.length
  | [], _ => by rw [Mbs.of, Mbs.cnt]; exact Nat.zero_le _
  | m :: l, h => by
    have h1 := (h m List.mem_cons_self).cnt
    have h2 := cnt_le2 l fun x hx => h x (List.mem_cons_of_mem _ hx)
    rw [Mbs.of, Mbs.cnt, List.length_cons, Nat.mul_succ]
    omega
theorem all_le2 {A : Int} {B C : Nat} : ∀ l : List Mb, (∀ m ∈ l, Bd A B C m) → (Mbs.of l).all ≤ (C + 1) * l.length
  | [], _ => by rw [Mbs.of, Mbs.all]; exact Nat.zero_le _
  | m :: l, h => by
    have h1 := (h m List.mem_cons_self).all
    have h2 := all_le2 l fun x hx => h x (List.mem_cons_of_mem _ hx)
    rw [Mbs.of, Mbs.all, List.length_cons, Nat.mul_succ]
    omega
theorem many_ok {o : Opt} {A : Int} {B C N : Nat} (hp : PkOk o.pack) (ha : AlOk o.align) {l : List Mb} (h : ∀ m ∈ l, Bd A B C m) (hl : l.length ≤ N) (hn : (Mbs.of l).names.Nodup) (hn2 : (Mbs.of l).names.length ≤ 65536)
    (hA : 0 ≤ A) (h1 : (A + 33) * N + 33 ≤ 65536) (h2 : (B + 1) * N ≤ 65536) (h3 : (C + 1) * N + 1 ≤ 65536) (h4 : N ≤ 4096) :
    KOk (.lay o (Mbs.of l)) ∧ (Kd.lay o (Mbs.of l)).sz ≤ (A + 33) * N + 33 ∧ (Kd.lay o (Mbs.of l)).cnt ≤ (B + 1) * N ∧ (Kd.lay o (Mbs.of l)).all ≤ (C + 1) * N + 1 := by
  have hr : ∀ r ∈ (Mbs.of l).rows, r.ok := fun r hr => by
    rw [rows_eq, of_list] at hr
    obtain ⟨m, hm, rfl⟩ := List.mem_map.mp hr
    have b := (h m hm).ko.bd
    refine ⟨b.1, b.2.1, b.2.2.1, b.2.2.2, fun bb e => ?_⟩
    obtain ⟨q1, q2, q3, s, g, q4⟩ := (h m hm).mo.bits bb e
    refine ⟨q1, q2, ?_⟩
    have := (h m hm).ko
    show SzOk m.k.sz
    rw [q4] at this ⊢
    cases this with
    | int h => rw [Kd.sz]; exact h
  have g1 := size_tot hp ha hr
  have g2 := tot_le2 l h
  have g3 := cnt_le2 l h
  have g4 := all_le2 l h
  rw [rows_eq, of_list] at g1
  have n1 : (A + 33) * (l.length : Int) ≤ (A + 33) * N := Int.mul_le_mul_of_nonneg_left (by omega) (by omega)
  have n2 : (B + 1) * l.length ≤ (B + 1) * N := Nat.mul_le_mul_left _ hl
  have n3 : (C + 1) * l.length ≤ (C + 1) * N := Nat.mul_le_mul_left _ hl
  have k1 : (Kd.lay o (Mbs.of l)).sz ≤ (A + 33) * N + 33 := by rw [Kd.sz, rows_eq, of_list]; omega
  have k2 : (Kd.lay o (Mbs.of l)).cnt ≤ (B + 1) * N := by rw [Kd.cnt]; omega
  have k3 : (Kd.lay o (Mbs.of l)).all ≤ (C + 1) * N + 1 := by rw [Kd.all]; omega
  exact ⟨.lay hp ha (by rw [of_list]; exact fun m hm => (h m hm).ko) (by rw [of_list]; exact fun m hm => (h m hm).mo) hn hn2 (by rw [of_list]; omega) (by omega) (by omega) (by omega), k1, k2, k3⟩
end Ly
namespace Lw
open PySem L2 Dl Ly
/-- d shows as pd, by the cells from lo on -/
def Sh (cs : List Cell) (lo n : Nat) (d pd : D) : Prop := (∀ (cs' : List Cell) (st : Strm) (m : Nat), (∀ i, lo ≤ i → i < cs.length → cs'[i]? = cs[i]?) → n ≤ m → viewD ⟨cs', st⟩ m d = pd) ∧ ∀ (T : MS) (m : Nat), viewD T m pd = pd
theorem Sh.mono {cs : List Cell} {lo lo' n n' : Nat} {d pd : D} (h : Sh cs lo n d pd) (hl : lo' ≤ lo) (hn : n ≤ n') : Sh cs lo' n' d pd := ⟨fun cs' st m he hm => h.1 cs' st m (fun i h1 h2 => he i (by omega) h2) (by omega), h.2⟩
/-- other cells in the place of these: the same from lo on -/
theorem Sh.other {cs cs2 : List Cell} {lo n : Nat} {d pd : D} (h : Sh cs lo n d pd) (hl : cs.length ≤ cs2.length) (he : ∀ i, lo ≤ i → i < cs.length → cs2[i]? = cs[i]?) : Sh cs2 lo n d pd := ⟨fun cs' st m h' hm => h.1 cs' st m (fun i h1 h2 => by rw [h' i h1 (by omega), he i h1 h2]) hm, h.2⟩
abbrev Y := D × (D × Mb)
abbrev rawD (y : Y) : D := rowD (y.1, y.2.2)
abbrev planC2 (b : Nat) (o : Opt) : Cell := .dic [(.inr "convention", .str (cvS o.msvc)), (.inr "pack", optD o.pack), (.inr "align", optD o.align), (.inr "ends", .str (enS o.big)), (.inr "union", .bl o.union), (.inr "members", .ptr b)]
end Lw
/-! cells that are read and changed; options; plans that fit -/
namespace Lw
open PySem L2 Dl Ly
section
variable {cs l : List Cell} {s : Strm} {k : Nat} {kvs more : List (Key × D)} {x : Str} {v : D} {ds : List D}
theorem c_setK (h : cs[k]? = some (.dic kvs)) (hl : kvs.length < 16777216) : setK (.ptr k) (.str x) v ⟨cs, s⟩ = .ok () ⟨cs.set k (.dic (putKD kvs (.inr x) v)), s⟩ := by
  unfold setK
  simp only [h, keyOf]
  rw [if_pos (szLt_of' hl)]
  rfl
theorem c_getK (h : cs[k]? = some (.dic kvs)) (hv : valD kvs (.inr x) = some v) : dGetK (.ptr k) (.str x) ⟨cs, s⟩ = .ok v ⟨cs, s⟩ := by
  unfold dGetK dicAt
  simp only [h, keyOf, hv]
theorem c_isL (h : cs[k]? = some (.lst ds)) : isLstP (.ptr k) ⟨cs, s⟩ = .ok () ⟨cs, s⟩ := by
  unfold isLstP asLst
  rw [ev_bind]
  simp only [h]
  rfl
theorem c_app {cs' : List Cell} {s' : Strm} {mo me : M D} {ds' : List D} (ho : mo ⟨cs, s⟩ = .ok (.ptr k) ⟨cs, s⟩) (h : cs[k]? = some (.lst ds')) (hm : me ⟨cs, s⟩ = .ok v ⟨cs', s'⟩) (h' : cs'[k]? = some (.lst ds)) (hl : ds.length < 16777216) : appM mo me ⟨cs, s⟩ = .ok .non ⟨cs'.set k (.lst (ds ++ [v])), s'⟩ := by
  unfold appM
  rw [ev_bind, ho, at_ok, ev_bind, c_isL h, at_ok, ev_bind, hm, at_ok]
  unfold appP
  simp only [h']
  rw [if_pos (szLt_of' hl)]
  rfl
end
/-! fits, of layouts within layouts -/
end Lw
/-! plans at pointers that grow -/
namespace Lw
open PySem L2 Dl Ly
/-- an open plan: its dict at a, its members at a + 1, whatever they hold lies behind these -/
structure OP (cs : List Cell) (a : Nat) (o : Opt) (ys : List Y) (n : Nat) : Prop where
  ck : cs[a]? = some (planC2 (a + 1) o)
  cb : cs[a + 1]? = some (.lst (ys.map rawD))
  sh : ∀ y ∈ ys, Sh cs (a + 2) n y.1 y.2.1
theorem OP.lt {cs : List Cell} {a n : Nat} {o : Opt} {ys : List Y} (h : OP cs a o ys n) : a + 1 < cs.length := (List.getElem?_eq_some_iff.mp h.cb).1
/-- other members in their place -/
theorem OP.put {cs : List Cell} {a n : Nat} {o : Opt} {ys ys' : List Y} (h : OP cs a o ys n) (hs : ∀ y ∈ ys', Sh cs (a + 2) n y.1 y.2.1) : OP (cs.set (a + 1) (.lst (ys'.map rawD))) a o ys' n := by
  have hl := h.lt
  refine ⟨?_, ?_, fun y hy => ?_⟩
  · rw [List.getElem?_set_ne (by omega)]; exact h.ck
  · rw [List.getElem?_set_self hl]
  · refine (hs y hy).other (by simp) fun i h1 h2 => ?_
    rw [List.getElem?_set_ne (by omega)]
/-- cells below do not matter -/
theorem OP.other {cs cs2 : List Cell} {a n : Nat} {o : Opt} {ys : List Y} (h : OP cs a o ys n) (hl : cs.length ≤ cs2.length) (he : ∀ i, a ≤ i → i < cs.length → cs2[i]? = cs[i]?) : OP cs2 a o ys n :=
  ⟨by rw [he a (by omega) (by have := h.lt; omega)]; exact h.ck, by rw [he (a + 1) (by omega) h.lt]; exact h.cb, fun y hy => (h.sh y hy).other hl fun i h1 h2 => he i (by omega) h2⟩
/-- a member with its bounds -/
structure Yk (A : Int) (B C dp : Nat) (y : Y) : Prop where
  pd : PD y.2.1 y.2.2.k
  bd : Bd A B C y.2.2
  dp : y.2.2.k.depth ≤ dp
theorem Yk.mono {A A' : Int} {B B' C C' dp dp' : Nat} {y : Y} (h : Yk A B C dp y) (hA : A ≤ A') (hB : B ≤ B') (hC : C ≤ C') (hd : dp ≤ dp') : Yk A' B' C' dp' y :=
  ⟨h.pd, ⟨h.bd.ko, h.bd.mo, by have := h.bd.sz; omega, by have := h.bd.cnt; omega, by have := h.bd.all; omega⟩, by have := h.dp; omega⟩
/-- all members of a plan, with its names -/
structure Ym (A : Int) (B C dp N : Nat) (ys : List Y) : Prop where
  ok : ∀ y ∈ ys, Yk A B C dp y
  nd : (Mbs.of (ys.map (·.2.2))).names.Nodup
  nl : (Mbs.of (ys.map (·.2.2))).names.length ≤ 65536
  ln : ys.length ≤ N
theorem Ym.ko {A : Int} {B C dp N : Nat} {ys : List Y} (h : Ym A B C dp N ys) {o : Opt} (hp : PkOk o.pack) (ha : AlOk o.align) (hA : 0 ≤ A) (h1 : (A + 33) * N + 33 ≤ 65536) (h2 : (B + 1) * N ≤ 65536) (h3 : (C + 1) * N + 1 ≤ 65536) (h4 : N ≤ 4096) :
    KOk (.lay o (Mbs.of (ys.map (·.2.2)))) ∧ (Kd.lay o (Mbs.of (ys.map (·.2.2)))).sz ≤ (A + 33) * N + 33 ∧ (Kd.lay o (Mbs.of (ys.map (·.2.2)))).cnt ≤ (B + 1) * N ∧ (Kd.lay o (Mbs.of (ys.map (·.2.2)))).all ≤ (C + 1) * N + 1 :=
  many_ok hp ha (fun m hm => by obtain ⟨y, hy, rfl⟩ := List.mem_map.mp hm; exact (h.ok y hy).bd) (by rw [List.length_map]; exact h.ln) h.nd h.nl hA h1 h2 h3 h4
theorem Ym.dp {A : Int} {B C dp N : Nat} : ∀ {ys : List Y}, Ym A B C dp N ys → (Mbs.of (ys.map (·.2.2))).depth ≤ dp := by
  intro ys h
  have key : ∀ ys : List Y, (∀ y ∈ ys, Yk A B C dp y) → (Mbs.of (ys.map (·.2.2))).depth ≤ dp := by
    intro ys
    induction ys with
    | nil => intro _; rw [List.map_nil, Mbs.of, Mbs.depth]; exact Nat.zero_le _
    | cons y ys ih =>
      intro h
      rw [List.map_cons, Mbs.of, Mbs.depth]
      have h1 := (h y List.mem_cons_self).dp
      have h2 := ih fun z hz => h z (List.mem_cons_of_mem _ hz)
      omega
  exact key ys h.ok
theorem Ym.pd {A : Int} {B C dp N : Nat} {ys : List Y} (h : Ym A B C dp N ys) : ∀ x ∈ ys.map (·.2), PD x.1 x.2.k := fun x hx => by
  obtain ⟨y, hy, rfl⟩ := List.mem_map.mp hx
  exact (h.ok y hy).pd
end Lw
/-! names of more than one sign -/
namespace Lw
open PySem L2 Dl Ly
def okL (c : Nat) : Bool := !(Builtin.Str.occurrences "abcdefghijklmnopqrstuvwxyzABCDEFGHIJKLMNOPQRSTUVWXYZ_" ⟨#[c]⟩ 0 (("abcdefghijklmnopqrstuvwxyzABCDEFGHIJKLMNOPQRSTUVWXYZ_" : Str).length) 1).isEmpty
def okN (c : Nat) : Bool := !(Builtin.Str.occurrences "0123456789" ⟨#[c]⟩ 0 (("0123456789" : Str).length) 1).isEmpty
def okName (x : Str) : Bool := (D.str x).plain && !(x == "") && decide (x.cps.size ≤ 1000) && (match x.cps.toList with | [] => false | c :: _ => !okN c) && x.cps.toList.all fun c => okL c || okN c
theorem name_map {S : MS} : ∀ l : List Nat, (∀ c ∈ l, (okL c || okN c) = true) → mapXC (unT (.nm 1) (on1 fun v_sign1 => (orV (bin (dIn false) (M.pure v_sign1) (M.pure c_LETTERS)) (bin (dIn false) (M.pure v_sign1) (M.pure c_DIGITS))))) (l.map fun c => D.str ⟨#[c]⟩) S = .ok (List.replicate l.length (.bl true)) S
  | [], _ => rfl
  | c :: l, h => by
    have e1 : dIn false (.str ⟨#[c]⟩) c_LETTERS = M.pure (.bl (okL c)) := rfl
    have e2 : dIn false (.str ⟨#[c]⟩) c_DIGITS = M.pure (.bl (okN c)) := rfl
    have ih := name_map (S := S) l fun x hx => h x (List.mem_cons_of_mem _ hx)
    have hc := h c List.mem_cons_self
    rw [List.map_cons, ev_map1]
    generalize (⟨#[c]⟩ : Str) = x at e1 e2 ⊢
    have t : (unT (.nm 1) (on1 fun v_sign1 => (orV (bin (dIn false) (M.pure v_sign1) (M.pure c_LETTERS)) (bin (dIn false) (M.pure v_sign1) (M.pure c_DIGITS)))) : D → M D) (.str x) S = .ok (.bl true) S := by
      rw [ev_unN, ev_on1, ev_orV, ev_bin, ev_pure, at_ok, ev_pure, at_ok, e1, ev_pure, at_ok, asB_bl, ev_pure, at_ok]
      cases q : okL c with
      | true => rfl
      | false =>
        rw [q, Bool.false_or] at hc
        rw [if_neg (by decide), ev_bin, ev_pure, at_ok, ev_pure, at_ok, e2, hc]
        rfl
    rw [t, at_ok, ih, at_ok, List.length_cons, List.replicate_succ]
theorem name_of {x : Str} (h : okName x = true) : NmOk x := by
  unfold okName at h
  simp only [Bool.and_eq_true, decide_eq_true_eq, List.all_eq_true] at h
  obtain ⟨⟨⟨⟨hp, h0⟩, hz⟩, hd⟩, ha⟩ := h
  refine ⟨hp, ?_⟩
  funext S
  have e5 : dEq (.str x) (.str "") = M.pure (.bl false) := by
    rw [eq_str, hp, show (D.str "").plain = true by decide +kernel]
    simp only [Bool.not_eq_true'] at h0
    rw [h0]; rfl
  have e1 : ∃ c, dItem (.str x) (.int 0) = M.pure (.str ⟨#[c]⟩) ∧ dIn false (.str ⟨#[c]⟩) c_DIGITS = M.pure (.bl false) := by
    cases q : x.cps.toList with
    | nil => rw [q] at hd; cases hd
    | cons c l =>
      rw [q] at hd
      refine ⟨c, ?_, ?_⟩
      · have : dItem (.str x) (.int 0) = Dl.guard (szOk x.length) (ofOpt ((atI x.cps.toList 0).map fun c => .str ⟨#[c]⟩)) := rfl
        obtain ⟨v, hv, _, hv2⟩ := atI_nat (xs := c :: l) (i := 0) (by decide) (by simp)
        have : c = v := by simpa using hv2
        subst this
        rw [‹dItem _ _ = _›, q, szOk_le (by show x.cps.size ≤ _; omega), hv]
        rfl
      · have : dIn false (.str ⟨#[c]⟩) c_DIGITS = M.pure (.bl (okN c)) := rfl
        rw [this]
        simp only [Bool.not_eq_true'] at hd
        rw [hd]
  obtain ⟨c, e1, e2⟩ := e1
  have e3 : itemsS (.str x) = M.pure (x.cps.toList.map fun c => D.str ⟨#[c]⟩) := rfl
  have e4 := name_map (S := S) x.cps.toList ha
  have zl : szOk (x.cps.toList.map fun c => D.str ⟨#[c]⟩).length = true := szOk_le (by rw [List.length_map, Array.length_toList]; omega)
  have e6 : dAll (.lst (List.replicate x.cps.toList.length (.bl true))) S = .ok (.bl true) S := all_rep
  unfold f_is_name
  generalize (⟨#[c]⟩ : Str) = y at e1 e2
  generalize (x.cps.toList.map fun c => D.str ⟨#[c]⟩) = cl at e3 e4 zl
  have tt : (orT (notT (tst (una (dIsX tabC [.str] []) (M.pure (.str x))))) (orT (tst (bin dEq (M.pure (.str x)) (M.pure (D.str "")))) (tst (bin (dIn false) (bin dItem (M.pure (.str x)) (M.pure (D.int 0))) (M.pure c_DIGITS)))) : M Bool) S = .ok false S := by
    simp [isx_str, e5, e1, e2]
  rw [ev_fin, ev_ifM, tt, at_ok, if_neg (by decide), ev_ret, ev_call, ev_args1, ev_frz, ev_mapX, ev_bind, ev_pure, at_ok, e3, ev_pure, at_ok, if_pos zl, e4, at_ok, at_ok, ev_args0, at_ok, at_ok, ev_ar1, e6]
  rfl
/-- the names that are counted -/
def nmN (i : Int) : Str := ("n" : Str) ++ (toString i : Str)
theorem nmN_nd : ((List.range 100).map fun (j : Nat) => nmN ((j : Int) + 1)).Nodup := by decide +kernel
theorem nmN_inj {i j : Int} (h0 : 0 < i) (h1 : i ≤ 100) (g0 : 0 < j) (g1 : j ≤ 100) (e : nmN i = nmN j) : i = j := by
  have e1 : (((i - 1).toNat : Nat) : Int) + 1 = i := by omega
  have e2 : (((j - 1).toNat : Nat) : Int) + 1 = j := by omega
  have key := List.pairwise_iff_getElem.mp nmN_nd
  have l1 : (i - 1).toNat < ((List.range 100).map fun (j : Nat) => nmN ((j : Int) + 1)).length := by rw [List.length_map, List.length_range]; omega
  have l2 : (j - 1).toNat < ((List.range 100).map fun (j : Nat) => nmN ((j : Int) + 1)).length := by rw [List.length_map, List.length_range]; omega
  rcases Nat.lt_trichotomy (i - 1).toNat (j - 1).toNat with q | q | q
  · have := key _ _ l1 l2 q
    rw [List.getElem_map, List.getElem_map, List.getElem_range, List.getElem_range, e1, e2] at this
    exact absurd e this
  · omega
  · have := key _ _ l2 l1 q
    rw [List.getElem_map, List.getElem_map, List.getElem_range, List.getElem_range, e1, e2] at this
    exact absurd e.symm this
end Lw
/-! plans with plans within are drawn -/
namespace Lw
open PySem L2 Dl Ly
/-- names between two counts -/
structure NmI (lo hi : Int) (l : List Str) : Prop where
  nd : l.Nodup
  of : ∀ x ∈ l, ∃ i, lo < i ∧ i ≤ hi ∧ x = nmN i
  ln : (l.length : Int) ≤ hi - lo
theorem NmI.nil {lo hi : Int} (h : lo ≤ hi) : NmI lo hi [] := ⟨List.nodup_nil, fun _ h => (nomatch h), by simp; omega⟩
theorem NmI.mono {lo hi lo' hi' : Int} {l : List Str} (h : NmI lo hi l) (h1 : lo' ≤ lo) (h2 : hi ≤ hi') : NmI lo' hi' l := ⟨h.nd, fun x hx => by obtain ⟨i, a, b, e⟩ := h.of x hx; exact ⟨i, by omega, by omega, e⟩, by have := h.ln; omega⟩
theorem NmI.app {lo mid hi : Int} {l l' : List Str} (h : NmI lo mid l) (h' : NmI mid hi l') (h0 : 0 ≤ lo) (h1 : lo ≤ mid) (h2 : mid ≤ hi) (h3 : hi ≤ 100) : NmI lo hi (l ++ l') := by
  refine ⟨List.nodup_append.mpr ⟨h.nd, h'.nd, fun a ha b hb e => ?_⟩, fun x hx => ?_, by rw [List.length_append]; have := h.ln; have := h'.ln; omega⟩
  · obtain ⟨i, a1, b1, e1⟩ := h.of a ha
    obtain ⟨j, a2, b2, e2⟩ := h'.of b hb
    have := nmN_inj (by omega) (by omega) (by omega) (by omega) (e1.symm.trans (e.trans e2))
    omega
  · rcases List.mem_append.mp hx with q | q
    · obtain ⟨i, a, b, e⟩ := h.of x q; exact ⟨i, a, by omega, e⟩
    · obtain ⟨i, a, b, e⟩ := h'.of x q; exact ⟨i, by omega, b, e⟩
/-- cells below a, but for p, are as they were -/
structure Agr (p a : Nat) (cs cs' : List Cell) : Prop where
  len : cs.length ≤ cs'.length
  eq : ∀ i, i < a → i ≠ p → cs'[i]? = cs[i]?
theorem Agr.refl (p a : Nat) (cs : List Cell) : Agr p a cs cs := ⟨Nat.le_refl _, fun _ _ _ => rfl⟩
theorem Agr.trans {p a : Nat} {cs cs1 cs2 : List Cell} (h : Agr p a cs cs1) (h' : Agr p a cs1 cs2) : Agr p a cs cs2 := ⟨Nat.le_trans h.len h'.len, fun i h1 h2 => (h'.eq i h1 h2).trans (h.eq i h1 h2)⟩
theorem Agr.mono {p a a' : Nat} {cs cs1 : List Cell} (h : Agr p a cs cs1) (l : a' ≤ a) : Agr p a' cs cs1 := ⟨h.len, fun i h1 h2 => h.eq i (by omega) h2⟩
theorem Agr.set {p a k : Nat} {cs : List Cell} {c : Cell} (h : a ≤ k ∨ k = p) : Agr p a cs (cs.set k c) := ⟨by simp, fun i h1 h2 => List.getElem?_set_ne (by rcases h with h | h <;> omega)⟩
theorem Agr.app {p a : Nat} {cs l : List Cell} (h : a ≤ cs.length) : Agr p a cs (cs ++ l) := ⟨by simp, fun i h1 h2 => List.getElem?_append_left (by omega)⟩
end Lw
/-! sum(xs), sorted(xs) of integers -/
namespace Dl
open PySem L2
end Dl
/-! declarations as data: names, kinds, options -/
namespace Lw
open PySem L2 Dl Ly
def preF (i : Int) : Str := if i % 3 = 0 then "a" else if i % 3 = 1 then "_" else "B"
def postF (i : Int) : Str := if i % 3 = 0 then "" else if i % 3 = 1 then "Z" else "_x"
def nmF (i : Int) : Str := (preF i ++ (toString i : Str)) ++ postF i
theorem nmF_nd : ((List.range 160).map fun (j : Nat) => nmF ((j : Int) + 1)).Nodup := by decide +kernel
theorem nmF_inj {i j : Int} (h0 : 0 < i) (h1 : i ≤ 160) (g0 : 0 < j) (g1 : j ≤ 160) (e : nmF i = nmF j) : i = j := by
  have e1 : (((i - 1).toNat : Nat) : Int) + 1 = i := by omega
  have e2 : (((j - 1).toNat : Nat) : Int) + 1 = j := by omega
  have key := List.pairwise_iff_getElem.mp nmF_nd
  have l1 : (i - 1).toNat < ((List.range 160).map fun (j : Nat) => nmF ((j : Int) + 1)).length := by rw [List.length_map, List.length_range]; omega
  have l2 : (j - 1).toNat < ((List.range 160).map fun (j : Nat) => nmF ((j : Int) + 1)).length := by rw [List.length_map, List.length_range]; omega
  rcases Nat.lt_trichotomy (i - 1).toNat (j - 1).toNat with q | q | q
  · have := key _ _ l1 l2 q
    rw [List.getElem_map, List.getElem_map, List.getElem_range, List.getElem_range, e1, e2] at this
    exact absurd e this
  · omega
  · have := key _ _ l2 l1 q
    rw [List.getElem_map, List.getElem_map, List.getElem_range, List.getElem_range, e1, e2] at this
    exact absurd e.symm this
/-- names between two counts -/
structure NmJ (lo hi : Int) (l : List Str) : Prop where
  nd : l.Nodup
  of : ∀ x ∈ l, ∃ i, lo < i ∧ i ≤ hi ∧ x = nmF i
  ln : (l.length : Int) ≤ hi - lo
theorem NmJ.nil {lo hi : Int} (h : lo ≤ hi) : NmJ lo hi [] := ⟨List.nodup_nil, fun _ h => (nomatch h), by simp; omega⟩
theorem NmJ.mono {lo hi lo' hi' : Int} {l : List Str} (h : NmJ lo hi l) (h1 : lo' ≤ lo) (h2 : hi ≤ hi') : NmJ lo' hi' l := ⟨h.nd, fun x hx => by obtain ⟨i, a, b, e⟩ := h.of x hx; exact ⟨i, by omega, by omega, e⟩, by have := h.ln; omega⟩
theorem NmJ.app {lo mid hi : Int} {l l' : List Str} (h : NmJ lo mid l) (h' : NmJ mid hi l') (h0 : 0 ≤ lo) (h1 : lo ≤ mid) (h2 : mid ≤ hi) (h3 : hi ≤ 160) : NmJ lo hi (l ++ l') := by
  refine ⟨List.nodup_append.mpr ⟨h.nd, h'.nd, fun a ha b hb e => ?_⟩, fun x hx => ?_, by rw [List.length_append]; have := h.ln; have := h'.ln; omega⟩
  · obtain ⟨i, a1, b1, e1⟩ := h.of a ha
    obtain ⟨j, a2, b2, e2⟩ := h'.of b hb
    have := nmF_inj (by omega) (by omega) (by omega) (by omega) (e1.symm.trans (e.trans e2))
    omega
  · rcases List.mem_append.mp hx with q | q
    · obtain ⟨i, a, b, e⟩ := h.of x q; exact ⟨i, a, by omega, e⟩
    · obtain ⟨i, a, b, e⟩ := h'.of x q; exact ⟨i, by omega, b, e⟩
/-! ### declarations at pointers -/
abbrev PmK := Nat → Option Kd
/-- kinds as data; declarations stand at pointers -/
inductive TPk (P : PmK) : D → Kd → Prop
  | int {s : Int} {g : Bool} : TPk P (intD s g) (.int s g)
  | arr {d : D} {k : Kd} {n : Int} : TPk P d k → TPk P (arrD d n) (.arr k n)
  | lay {a : Nat} {o : Opt} {ms : Mbs} : P a = some (.lay o ms) → TPk P (.ptr a) (.lay o ms)
def PmK.le (P Q : PmK) : Prop := ∀ a k, P a = some k → Q a = some k
theorem PmK.le.refl (P : PmK) : PmK.le P P := fun _ _ h => h
theorem PmK.le.trans {P Q R : PmK} (h : PmK.le P Q) (h' : PmK.le Q R) : PmK.le P R := fun a k e => h' a k (h a k e)
theorem TPk.mono {P Q : PmK} (h : PmK.le P Q) : ∀ {d : D} {k : Kd}, TPk P d k → TPk Q d k
  | _, _, .int => .int
  | _, _, .arr t => .arr (TPk.mono h t)
  | _, _, .lay e => .lay (h _ _ e)
abbrev declC (o : Opt) (r : D) : List (Key × D) := [(.inr "pack", optD o.pack), (.inr "convention", .str (cvS o.msvc)), (.inr "align", optD o.align), (.inr "ends", .str (enS o.big)), (.inr "is_union", .bl o.union), (.inr "rows", r)]
/-- small options -/
def Al8 (p : Option Int) : Prop := ∀ x, p = some x → x = 1 ∨ x = 2 ∨ x = 4 ∨ x = 8
theorem Al8.ok {p : Option Int} (h : Al8 p) : AlOk p := fun x e => by rcases h x e with q | q | q | q <;> simp [q]
/-- what stands at the pointers of declarations -/
structure PIn (P : PmK) (cs : List Cell) : Prop where
  at_ : ∀ a k, P a = some k → ∃ (o : Opt) (xs : List (D × Mb)), k = .lay o (Mbs.of (xs.map (·.2))) ∧ cs[a]? = some (.dic (declC o (.ptr (a + 1)))) ∧ cs[a + 1]? = some (.lst (xs.map rowD)) ∧ ∀ x ∈ xs, TPk P x.1 x.2.k
theorem PIn.none (cs : List Cell) : PIn (fun _ => none) cs := ⟨fun _ _ h => nomatch h⟩
theorem PIn.agr {P : PmK} {cs cs' : List Cell} (h : PIn P cs) (he : ∀ a k, P a = some k → cs'[a]? = cs[a]? ∧ cs'[a + 1]? = cs[a + 1]?) : PIn P cs' := ⟨fun a k e => by
  obtain ⟨o, xs, h1, h2, h3, h4⟩ := h.at_ a k e
  obtain ⟨e1, e2⟩ := he a k e
  exact ⟨o, xs, h1, e1.trans h2, e2.trans h3, h4⟩⟩
theorem PIn.lt {P : PmK} {cs : List Cell} (h : PIn P cs) {a : Nat} {k : Kd} (e : P a = some k) : a + 1 < cs.length := by
  obtain ⟨o, xs, h1, h2, h3, h4⟩ := h.at_ a k e
  exact (List.getElem?_eq_some_iff.mp h3).1
theorem PIn.app {P : PmK} {cs l : List Cell} (h : PIn P cs) : PIn P (cs ++ l) := h.agr fun a k e => by
  have := h.lt e
  exact ⟨List.getElem?_append_left (by omega), List.getElem?_append_left (by omega)⟩
/-- the counter is no declaration -/
theorem PIn.cnt {P : PmK} {cs : List Cell} (h : PIn P cs) {p : Nat} {c : Int} (hp : cs[p]? = some (.lst [.int c])) {a : Nat} {k : Kd} (e : P a = some k) : a ≠ p ∧ a + 1 ≠ p := by
  obtain ⟨o, xs, h1, h2, h3, h4⟩ := h.at_ a k e
  refine ⟨fun q => ?_, fun q => ?_⟩
  · rw [q, hp] at h2; cases h2
  · rw [q, hp] at h3
    cases xs with
    | nil => cases h3
    | cons x xs => cases h3
end Lw
/-! how great a declaration is at most; what stands at pointers, looked at -/
namespace Ly
open PySem L2 Dl
mutual
def Kd.most : Kd → Int
  | .int s _ => s
  | .arr k n => n * k.most
  | .lay _ ms => 8 + ms.most
def Mbs.most : Mbs → Int
  | .nil => 0
  | .cons _ k _ t => (7 + k.most) + t.most
end
end Ly
namespace Lw
open PySem L2 Dl Ly
theorem row1 {x : D × Mb} : dItem (rowD x) (.int 1) = M.pure x.1 := rfl
theorem row0 {x : D × Mb} : dItem (rowD x) (.int 0) = M.pure (nmD x.2.nm) := rfl
theorem row2 {x : D × Mb} : dItem (rowD x) (.int 2) = M.pure (optD x.2.b) := rfl
theorem kids {o : Opt} {xs : List (D × Mb)} {n : Nat} (ko : KOk (.lay o (Mbs.of (xs.map (·.2))))) (h : (Kd.lay o (Mbs.of (xs.map (·.2)))).depth < n + 1) : xs.length ≤ 4096 ∧ ∀ x ∈ xs, KOk x.2.k ∧ x.2.k.depth < n ∧ MbOk x.2 := by
  rw [Kd.depth] at h
  cases ko with
  | lay hp ha hm hb hn h6 h5 h1 h2 h3 =>
    rw [of_list] at hm hb h5
    refine ⟨by rw [List.length_map] at h5; exact h5, fun x hx => ⟨hm x.2 (List.mem_map_of_mem hx), ?_, hb x.2 (List.mem_map_of_mem hx)⟩⟩
    have := depth_mem (Mbs.of (xs.map (·.2))) x.2 (by rw [of_list]; exact List.mem_map_of_mem hx)
    omega
end Lw
/-! declarations are drawn -/
namespace Lw
open PySem L2 Dl Ly
/-- bounds of members -/
structure MkK (B C dp : Nat) (P : PmK) (y : D × Mb) : Prop where
  tp : TPk P y.1 y.2.k
  bd : Bd 960 B C y.2
  dp : y.2.k.depth ≤ dp
theorem MkK.mono {B C dp : Nat} {P Q : PmK} {y : D × Mb} (h : MkK B C dp P y) (l : P.le Q) : MkK B C dp Q y := ⟨h.tp.mono l, h.bd, h.dp⟩
/-- what a step of drawing has done: the declarations that are told, the counter, the cells -/
structure Stp (p : Nat) (c K : Int) (P : PmK) (cs : List Cell) (P' : PmK) (cs' : List Cell) (c' : Int) : Prop where
  c0 : c ≤ c'
  c1 : c' ≤ c + K
  ag : Agr p cs.length cs cs'
  le : P.le P'
  old : ∀ a, a < cs.length → P' a = P a
  pin : PIn P' cs'
  cnt : cs'[p]? = some (.lst [.int c'])
theorem Stp.trans {p : Nat} {c c1 c2 K K2 : Int} {P P1 P2 : PmK} {cs cs1 cs2 : List Cell} (h : Stp p c K P cs P1 cs1 c1) (h2 : Stp p c1 K2 P1 cs1 P2 cs2 c2) : Stp p c (K + K2) P cs P2 cs2 c2 :=
  ⟨Int.le_trans h.c0 h2.c0, by have := h.c1; have := h2.c1; omega, h.ag.trans (h2.ag.mono h.ag.len), h.le.trans h2.le, fun a l => (h2.old a (Nat.lt_of_lt_of_le l h.ag.len)).trans (h.old a l), h2.pin, h2.cnt⟩
theorem Stp.refl {p : Nat} {c : Int} {P : PmK} {cs : List Cell} (h : PIn P cs) (hc : cs[p]? = some (.lst [.int c])) : Stp p c 0 P cs P cs c :=
  ⟨Int.le_refl _, by omega, Agr.refl _ _ _, PmK.le.refl P, fun _ _ => rfl, h, hc⟩
end Lw
/-! members are drawn -/
namespace Lw
open PySem L2 Dl Ly
theorem l4 {a b c d : D} {S : MS} : (frz (lstM [(M.pure a), (M.pure b), (M.pure c), (M.pure d)])) S = .ok (.lst [a, b, c, d]) S := by
  have z : szOk 4 = true := by decide
  simp [z]
theorem ev_tup3 {a b c : D} {S S1 S2 S3 : MS} {ma mb mc : M D} (h1 : ma S = .ok a S1) (h2 : mb S1 = .ok b S2) (h3 : mc S2 = .ok c S3) : tupM [ma, mb, mc] S = .ok (.tup [a, b, c]) S3 := by
  have z : szOk 3 = true := by decide
  simp [h1, h2, h3, z]
theorem ev_call1 {f : D → M D} {m : M D} {a : D} {S S1 : MS} {r : Res D} (h : m S = .ok a S1) (e : f a S1 = r) : callM (ar1 f) [m] S = r := by
  rw [ev_call, ev_args1, h, at_ok, ev_args0, at_ok, at_ok, ev_ar1, e]
theorem ev_call2 {f : D → D → M D} {m m2 : M D} {a b : D} {S S1 S2 : MS} {r : Res D} (h : m S = .ok a S1) (h2 : m2 S1 = .ok b S2) (e : f a b S2 = r) : callM (ar2 f) [m, m2] S = r := by
  rw [ev_call, ev_args1, h, at_ok, ev_args1, h2, at_ok, ev_args0, at_ok, at_ok, at_ok, ev_ar2, e]
end Lw
/-! declarations are drawn: the whole -/
namespace Lw
open PySem L2 Dl Ly
/-- a declaration that is being drawn -/
structure Od (B C dp : Nat) (a p : Nat) (o : Opt) (c0 : Int) (P : PmK) (cs : List Cell) (c : Int) (ys : List (D × Mb)) : Prop where
  cnt : cs[p]? = some (.lst [.int c])
  pin : PIn P cs
  ck : cs[a]? = some (.dic (declC o (.ptr (a + 1))))
  cb : cs[a + 1]? = some (.lst (ys.map rowD))
  no : P a = none
  pa : p < a
  ok : ∀ y ∈ ys, MkK B C dp P y
  nm : NmJ c0 c (Mbs.of (ys.map (·.2))).names
  ln : ys.length ≤ 5
abbrev kOf (o : Opt) (ys : List (D × Mb)) : Kd := .lay o (Mbs.of (ys.map (·.2)))
/-- the declaration is told -/
def PmK.put (P : PmK) (a : Nat) (k : Kd) : PmK := fun i => if i = a then some k else P i
section
variable {B C dp a p : Nat} {o : Opt} {c0 c : Int} {P : PmK} {cs : List Cell} {ys : List (D × Mb)}
theorem Od.ko (h : Od B C dp a p o c0 P cs c ys) (hp : PkOk o.pack) (ha : Al8 o.align) (h0 : 0 ≤ c0) (h1 : c ≤ 160) (hB : B ≤ 10000) (hC : C ≤ 10000) : KOk (kOf o ys) ∧ (kOf o ys).cnt ≤ (B + 1) * 5 ∧ (kOf o ys).all ≤ (C + 1) * 5 + 1 := by
  have nl := h.nm.ln
  obtain ⟨q1, q2, q3, q4⟩ := many_ok (o := o) (A := 960) (B := B) (C := C) (N := 5) hp ha.ok (l := ys.map (·.2)) (fun m hm => by
    obtain ⟨y, hy, rfl⟩ := List.mem_map.mp hm
    exact (h.ok y hy).bd) (by rw [List.length_map]; exact h.ln) h.nm.nd (by omega) (by decide) (by decide) (by omega) (by omega) (by decide)
  exact ⟨q1, q3, q4⟩
end
end Lw
/-! declarations whose lists are frozen; their layouts, kept in them -/
namespace Lw
open PySem L2 Dl Ly
/-- what stands in a declaration: its layout too, once it was built -/
def BKk (kvs : List (Key × D)) (o : Opt) (rows : List D) (k : Kd) : Prop := kvs = declC o (.lst rows) ∨ ∃ d', LK d' k ∧ kvs = declC o (.lst rows) ++ [(.inr "layout", d')]
structure BIn (P : PmK) (cs : List Cell) : Prop where
  at_ : ∀ a k, P a = some k → ∃ (o : Opt) (xs : List (D × Mb)) (kvs : List (Key × D)), k = .lay o (Mbs.of (xs.map (·.2))) ∧ cs[a]? = some (.dic kvs) ∧ BKk kvs o (xs.map rowD) k ∧ ∀ x ∈ xs, TPk P x.1 x.2.k
theorem viewL_str {T : MS} {n : Nat} {x : Str} : viewL T n (.str x) = .str x := by cases n <;> rfl
theorem viewL_int {T : MS} {n : Nat} {x : Int} : viewL T n (.int x) = .int x := by cases n <;> rfl
theorem viewL_bl {T : MS} {n : Nat} {x : Bool} : viewL T n (.bl x) = .bl x := by cases n <;> rfl
theorem viewL_non {T : MS} {n : Nat} : viewL T n .non = .non := by cases n <;> rfl
theorem viewL_opt {T : MS} {n : Nat} {x : Option Int} : viewL T n (optD x) = optD x := by cases x <;> first | exact viewL_non | exact viewL_int
theorem viewL_nm {T : MS} {n : Nat} {x : Option Str} : viewL T n (nmD x) = nmD x := by cases x <;> first | exact viewL_non | exact viewL_str
theorem viewL_tup {T : MS} {n : Nat} {ds : List D} (h : ∀ d ∈ ds, ∀ n, viewL T n d = d) : viewL T n (.tup ds) = .tup ds := by
  cases n with
  | zero => rfl
  | succ n =>
    show D.tup (ds.map (viewL T n)) = _
    congr 1
    exact (List.map_congr_left fun d hd => h d hd n).trans (List.map_id _)
theorem viewL_tp {P : PmK} {cs : List Cell} {s : Strm} (h : PIn P cs) : ∀ {d : D} {k : Kd}, TPk P d k → ∀ n, viewL ⟨cs, s⟩ n d = d := by
  intro d k t
  induction t with
  | int =>
    intro n
    refine viewL_tup fun d hd n => ?_
    simp only [List.mem_cons, List.not_mem_nil, or_false] at hd
    rcases hd with e | e | e <;> subst e
    · exact viewL_str
    · exact viewL_int
    · exact viewL_bl
  | arr _ ih =>
    intro n
    refine viewL_tup fun d hd n => ?_
    simp only [List.mem_cons, List.not_mem_nil, or_false] at hd
    rcases hd with e | e | e <;> subst e
    · exact viewL_str
    · exact ih n
    · exact viewL_int
  | lay e =>
    intro n
    obtain ⟨o', xs, h1, h2, h3, h4⟩ := h.at_ _ _ e
    cases n with
    | zero => rfl
    | succ n => simp only [viewL, h2]
theorem viewL_row {P : PmK} {cs : List Cell} {s : Strm} (h : PIn P cs) {x : D × Mb} (t : TPk P x.1 x.2.k) (n : Nat) : viewL ⟨cs, s⟩ n (rowD x) = rowD x := by
  refine viewL_tup fun d hd n => ?_
  simp only [List.mem_cons, List.not_mem_nil, or_false] at hd
  rcases hd with e | e | e <;> subst e
  · exact viewL_nm
  · exact viewL_tp h t n
  · exact viewL_opt
/-- the lists are frozen -/
theorem PIn.frz {P : PmK} {cs : List Cell} {s : Strm} (h : PIn P cs) : ∃ cs2, frzY ⟨cs, s⟩ = .ok () ⟨cs2, s⟩ ∧ BIn P cs2 ∧ cs2.length = cs.length := by
  refine ⟨cs.map (cellL ⟨cs, s⟩), rfl, ⟨fun a k e => ?_⟩, by rw [List.length_map]⟩
  obtain ⟨o, xs, h1, h2, h3, h4⟩ := h.at_ a k e
  refine ⟨o, xs, declC o (.lst (xs.map rowD)), h1, ?_, .inl rfl, h4⟩
  rw [List.getElem?_map, h2]
  show some (Cell.dic ((declC o (.ptr (a + 1))).map fun kv => (kv.1, viewL ⟨cs, s⟩ 64 kv.2))) = _
  have hv : viewL ⟨cs, s⟩ 64 (.ptr (a + 1)) = .lst (xs.map rowD) := by
    show (match (⟨cs, s⟩ : MS).cells[a + 1]? with
      | some (.lst ds) => D.lst (ds.map (viewL ⟨cs, s⟩ 63))
      | _ => .ptr (a + 1)) = _
    simp only [h3]
    congr 1
    rw [List.map_map]
    exact List.map_congr_left fun x hx => viewL_row h (h4 x hx) 63
  dsimp only [List.map]
  rw [hv, viewL_opt, viewL_str, viewL_opt, viewL_str, viewL_bl]
theorem BIn.lt {P : PmK} {cs : List Cell} (h : BIn P cs) {a : Nat} {k : Kd} (e : P a = some k) : a < cs.length := by
  obtain ⟨o, xs, kvs, h1, h2, h3, h4⟩ := h.at_ a k e
  exact (List.getElem?_eq_some_iff.mp h2).1
theorem BIn.app {P : PmK} {cs l : List Cell} (h : BIn P cs) : BIn P (cs ++ l) := ⟨fun a k e => by
  obtain ⟨o, xs, kvs, h1, h2, h3, h4⟩ := h.at_ a k e
  exact ⟨o, xs, kvs, h1, by rw [List.getElem?_append_left (h.lt e)]; exact h2, h3, h4⟩⟩
/-- a declaration to be looked at -/
structure DK (cs : List Cell) (d : D) (o : Opt) (rows : List D) : Prop where
  isd : ∀ s, dIsX tabC [.dict] [] d ⟨cs, s⟩ = .ok (.bl true) ⟨cs, s⟩
  rw_ : ∀ s, dGetK d (.str "rows") ⟨cs, s⟩ = .ok (.lst rows) ⟨cs, s⟩
  pk : ∀ s, dGetK d (.str "pack") ⟨cs, s⟩ = .ok (optD o.pack) ⟨cs, s⟩
  cv : ∀ s, dGetK d (.str "convention") ⟨cs, s⟩ = .ok (.str (cvS o.msvc)) ⟨cs, s⟩
  al : ∀ s, dGetK d (.str "align") ⟨cs, s⟩ = .ok (optD o.align) ⟨cs, s⟩
  en : ∀ s, dGetK d (.str "ends") ⟨cs, s⟩ = .ok (.str (enS o.big)) ⟨cs, s⟩
  un : ∀ s, dGetK d (.str "is_union") ⟨cs, s⟩ = .ok (.bl o.union) ⟨cs, s⟩
theorem isd_ptr {cs : List Cell} {s : Strm} {a : Nat} {kvs : List (Key × D)} (h : cs[a]? = some (.dic kvs)) : dIsX tabC [.dict] [] (.ptr a) ⟨cs, s⟩ = .ok (.bl true) ⟨cs, s⟩ := by
  unfold dIsX insOf dIsi D.ty?
  simp only [h]
  rfl
theorem BKk.get {kvs : List (Key × D)} {o : Opt} {rows : List D} {k : Kd} (h : BKk kvs o rows k) : valD kvs (.inr "rows") = some (.lst rows) ∧ valD kvs (.inr "pack") = some (optD o.pack) ∧ valD kvs (.inr "convention") = some (.str (cvS o.msvc)) ∧ valD kvs (.inr "align") = some (optD o.align) ∧ valD kvs (.inr "ends") = some (.str (enS o.big)) ∧ valD kvs (.inr "is_union") = some (.bl o.union) ∧ kvs.length ≤ 7 := by
  rcases h with rfl | ⟨d', lk, rfl⟩ <;> exact ⟨rfl, rfl, rfl, rfl, rfl, rfl, by simp⟩
/-! ### layouts are built -/
/-- cells that are no declarations stay -/
structure Keep (P : PmK) (cs cs' : List Cell) : Prop where
  len : cs.length ≤ cs'.length
  eq : ∀ i, i < cs.length → P i = none → cs'[i]? = cs[i]?
theorem Keep.refl (P : PmK) (cs : List Cell) : Keep P cs cs := ⟨Nat.le_refl _, fun _ _ _ => rfl⟩
theorem Keep.trans {P : PmK} {cs cs1 cs2 : List Cell} (h : Keep P cs cs1) (h2 : Keep P cs1 cs2) : Keep P cs cs2 := ⟨Nat.le_trans h.len h2.len, fun i a b => (h2.eq i (Nat.lt_of_lt_of_le a h.len) b).trans (h.eq i a b)⟩
abbrev mbB (fb : D → M D) : List D → D → M (Fl (List D) (List D)) := (fun (v_c2 : List D) v_row3 => (M.bind (bin dAdd (tupM [(bin dItem (M.pure v_row3) (M.pure (D.int 0))), (callM (ar1 fb) [(bin dItem (M.pure v_row3) (M.pure (D.int 1)))])]) (ifM (tst (una dNotN (bin dItem (M.pure v_row3) (M.pure (D.int 2))))) (tupM [(bin dItem (M.pure v_row3) (M.pure (D.int 2)))]) (tupM []))) fun v_d4 => gd (szLt (List.length v_c2)) (M.pure (.nx (v_c2 ++ [v_d4])))))
theorem dNotN_int {b : Int} : dNotN (.int b) = M.pure (.bl true) := rfl
theorem mb_one {fb : D → M D} {x : D × Mb} {d' : D} {S S' : MS} (h : fb x.1 S = .ok d' S') {acc : List D} (hl : acc.length < 4096) : mbB fb acc (rowD x) S = .ok (.nx (acc ++ [memD (d', x.2)])) S' := by
  have z1 : szOk 1 = true := by decide
  have z2 : szOk 2 = true := by decide
  have z3 : szOk (2 + 1) = true := by decide
  have t1 : (tupM [(bin dItem (M.pure (rowD x)) (M.pure (D.int 0))), (callM (ar1 fb) [(bin dItem (M.pure (rowD x)) (M.pure (D.int 1)))])]) S = .ok (.tup [nmD x.2.nm, d']) S' := by
    rw [ev_tup, ev_args1, ev_bin, ev_pure, at_ok, ev_pure, at_ok, row0, ev_pure, at_ok, ev_args1, ev_call1 (f := fb) (a := x.1) (by rw [ev_bin, ev_pure, at_ok, ev_pure, at_ok, row1]; rfl) h, at_ok, ev_args0, at_ok, at_ok, at_ok]
    rfl
  have t2 : ∀ S, (bin dItem (M.pure (rowD x)) (M.pure (D.int 2))) S = .ok (optD x.2.b) S := fun S => by
    rw [ev_bin, ev_pure, at_ok, ev_pure, at_ok, row2]; rfl
  have t3 : (bin dAdd (tupM [(bin dItem (M.pure (rowD x)) (M.pure (D.int 0))), (callM (ar1 fb) [(bin dItem (M.pure (rowD x)) (M.pure (D.int 1)))])]) (ifM (tst (una dNotN (bin dItem (M.pure (rowD x)) (M.pure (D.int 2))))) (tupM [(bin dItem (M.pure (rowD x)) (M.pure (D.int 2)))]) (tupM []))) S = .ok (memD (d', x.2)) S' := by
    rw [ev_bin, t1, at_ok, ev_ifM, ev_tst, ev_una, t2, at_ok]
    unfold memD
    dsimp only
    cases q : x.2.b with
    | none =>
      rw [q] at t2
      simp [z1, z2]
    | some b =>
      rw [q] at t2
      rw [optD_some, dNotN_int, ev_pure, at_ok, asB_bl, ev_pure, at_ok, if_pos rfl, ev_tup, ev_args1, t2, at_ok, ev_args0, at_ok, at_ok]
      rfl
  rw [mbB, ev_bind, t3, at_ok, ev_gd, if_pos (szLt_of' (by omega))]
  rfl
end Lw
/-! layouts are built, and kept in the declarations -/
namespace Lw
open PySem L2 Dl Ly
/-- options to be looked at -/
structure DO (cs : List Cell) (d : D) (o : Opt) : Prop where
  pk : ∀ s, dGetK d (.str "pack") ⟨cs, s⟩ = .ok (optD o.pack) ⟨cs, s⟩
  cv : ∀ s, dGetK d (.str "convention") ⟨cs, s⟩ = .ok (.str (cvS o.msvc)) ⟨cs, s⟩
  al : ∀ s, dGetK d (.str "align") ⟨cs, s⟩ = .ok (optD o.align) ⟨cs, s⟩
  en : ∀ s, dGetK d (.str "ends") ⟨cs, s⟩ = .ok (.str (enS o.big)) ⟨cs, s⟩
  un : ∀ s, dGetK d (.str "is_union") ⟨cs, s⟩ = .ok (.bl o.union) ⟨cs, s⟩
theorem DK.opts {cs : List Cell} {d : D} {o : Opt} {rows : List D} (h : DK cs d o rows) : DO cs d o := ⟨h.pk, h.cv, h.al, h.en, h.un⟩
theorem BIn.put {P : PmK} {cs : List Cell} (h : BIn P cs) {a : Nat} {o : Opt} {xs : List (D × Mb)} {kvs : List (Key × D)} (e : P a = some (.lay o (Mbs.of (xs.map (·.2))))) (b : BKk kvs o (xs.map rowD) (.lay o (Mbs.of (xs.map (·.2))))) (hx : ∀ x ∈ xs, TPk P x.1 x.2.k) : BIn P (cs.set a (.dic kvs)) := ⟨fun i k ei => by
  by_cases q : i = a
  · subst q
    rw [e] at ei
    cases ei
    exact ⟨o, xs, kvs, rfl, List.getElem?_set_self (h.lt e), b, hx⟩
  · obtain ⟨o', xs', kvs', h1, h2, h3, h4⟩ := h.at_ i k ei
    exact ⟨o', xs', kvs', h1, (List.getElem?_set_ne (fun z => q z.symm)).trans h2, h3, h4⟩⟩
end Lw
/-! all bits of berths lie within -/
namespace Ly
open PySem L2 Dl
/-- a row at a place, within t bits -/
structure At (t : Int) (r : Row) (p : Int) : Prop where
  p0 : 0 ≤ p
  p8 : r.b = none → p % 8 = 0
  le : p + svTake r ≤ t
theorem At.mono {t t' : Int} {r : Row} {p : Int} (h : At t r p) (l : t ≤ t') : At t' r p := ⟨h.p0, h.p8, by have := h.le; omega⟩
end Ly
/-! deeds over things in the places of bits (no program in sight) -/
namespace Ly
open PySem L2 Dl
section
variable {α β : Type}
inductive Dd where
  | set (b : Ber) (n : Int) | copy (a b : Ber) | swap (a b : Ber) | shift (b : Ber) (n : Int) | turn (b : Ber) | move (to src many : Int)
/-! naturality -/
/-! lengths -/
end
end Ly
/-! what a layout tells of its integers -/
namespace Ly
open PySem L2 Dl
end Ly
namespace Lw
open PySem L2 Dl Ly
/-! paths as lists -/
/-- what is known of a layout: its integers, its octets -/
structure Lf (ld : D) (bs : List Ber) (size : Int) : Prop where
  ber : ∀ b ∈ bs, f_Layout_berth ld (.tup b.path) = M.pure (.tup [.tup (b.bits.map D.int), .bl b.sg])
  berL : ∀ b ∈ bs, f_Layout_berth ld (.lst b.path) = M.pure (.tup [.tup (b.bits.map D.int), .bl b.sg])
  isb : ∀ S, isA "Layout" "berth" ld S = .ok () S
  sz : propM "Layout" (ar1 f_Layout_size) (M.pure ld) = M.pure (.int size)
  pth : f_Layout_paths ld = M.pure (.lst (bs.map fun b => .tup b.path))
  isp : ∀ S, isA "Layout" "paths" ld S = .ok () S
  rng : ∀ b ∈ bs, ∀ i ∈ b.bits, 0 ≤ i ∧ i < 8 * size
  len : ∀ b ∈ bs, 0 < b.bits.length ∧ b.bits.length ≤ 64
  s0 : 0 ≤ size
  s1 : size ≤ 65536
  nb : bs.length ≤ 65536
  pd : ∀ b ∈ bs, b.path.length ≤ 12
end Lw
/-! the tape -/
namespace Lw
open PySem L2 Dl Ly
abbrev tapeC (ld : D) (t : Nat) (z : D) : Cell := .ins "Tape" [("frame", ld), ("things", .ptr t), ("zero", z)]
structure TP (cs : List Cell) (p t : Nat) (ld z : D) (ts : List D) : Prop where
  cp : cs[p]? = some (tapeC ld t z)
  ct : cs[t]? = some (.lst ts)
section
variable {cs : List Cell} {s : Strm} {p t : Nat} {ld z : D} {ts : List D}
theorem TP.ne (h : TP cs p t ld z ts) : p ≠ t := fun e => by
  have := h.cp
  rw [e, h.ct] at this
  cases this
theorem TP.put (h : TP cs p t ld z ts) (us : List D) : TP (cs.set t (.lst us)) p t ld z us :=
  ⟨by rw [List.getElem?_set_ne (Ne.symm h.ne)]; exact h.cp, List.getElem?_set_self (List.getElem?_eq_some_iff.mp h.ct).1⟩
/-! filling -/
end
end Lw
/-! ranges by eights, the deeds of the tape -/
/-! deeds done -/
namespace Lw
open PySem L2 Dl Ly
/-- deeds as data -/
def ddD : Dd → D
  | .set b n => .tup [.str "set", .tup b.path, .int n]
  | .copy a b => .tup [.str "copy", .tup a.path, .tup b.path]
  | .swap a b => .tup [.str "swap", .tup a.path, .tup b.path]
  | .shift b n => .tup [.str "shift", .tup b.path, .int n]
  | .turn b => .tup [.str "turn", .tup b.path]
  | .move to src many => .tup [.str "move", .int to, .int src, .int many]
section
variable {cs : List Cell} {s : Strm} {p t : Nat} {ld z : D} {ts : List D}
/-- the tape goes on, all else stays -/
structure Kp (n : Nat) (cs cs' : List Cell) : Prop where
  len : cs.length ≤ cs'.length
  kept : ∀ i, i < n → cs'[i]? = cs[i]?
theorem Kp.refl {n : Nat} {cs : List Cell} : Kp n cs cs := ⟨Nat.le_refl _, fun _ _ => rfl⟩
theorem Kp.trans {n : Nat} {a b c : List Cell} (h : Kp n a b) (g : Kp n b c) : Kp n a c := ⟨Nat.le_trans h.len g.len, fun i hi => (g.kept i hi).trans (h.kept i hi)⟩
theorem Kp.le {n m : Nat} {a b : List Cell} (h : Kp n a b) (l : m ≤ n) : Kp m a b := ⟨h.len, fun i hi => h.kept i (by omega)⟩
theorem Kp.put {n t : Nat} {cs : List Cell} {c : Cell} (h : n ≤ t) : Kp n cs (cs.set t c) := ⟨by rw [List.length_set]; exact Nat.le_refl _, fun i hi => List.getElem?_set_ne (by omega)⟩
theorem Kp.app {n : Nat} {cs ds : List Cell} (h : n ≤ cs.length) : Kp n cs (cs ++ ds) := ⟨by rw [List.length_append]; omega, fun i hi => List.getElem?_append_left (by omega)⟩
end
end Lw
/-! programs behind one another, and as they are written -/
namespace Lw
open PySem L2 Dl Ly
/-! programs as they are written -/
def SqD (d : D) (l : List D) : Prop := d = .tup l ∨ d = .lst l
theorem SqD.len {d : D} {l : List D} (h : SqD d l) : dLen d = M.pure (.int (l.length : Nat)) := by rcases h with rfl | rfl <;> rfl
theorem SqD.item {d : D} {l : List D} {i : Int} (h : SqD d l) : dItem d (.int i) = ofOpt (atI l i) := by rcases h with rfl | rfl <;> rfl
theorem SqD.tuple {d : D} {l : List D} (h : SqD d l) : dTuple d = M.pure (.tup l) := by rcases h with rfl | rfl <;> rfl
theorem SqD.i0 {d w : D} {l : List D} (h : SqD d (w :: l)) : dItem d (.int 0) = M.pure w := by
  obtain ⟨v, hv, _, hv2⟩ := atI_nat (xs := w :: l) (i := 0) (by decide) (by simp)
  have : w = v := by simpa using hv2
  subst this
  rw [h.item, hv]
  rfl
/-- a part as it is written: paths may be lists -/
def PartW (x y : D) : Prop := x = y ∨ ∃ l, y = .tup l ∧ x = .lst l
inductive PartsW : List D → List D → Prop
  | nil : PartsW [] []
  | cons {x y : D} {xs ys : List D} : PartW x y → PartsW xs ys → PartsW (x :: xs) (y :: ys)
def DeedW (x : D) (d : Dd) : Prop := ∃ parts qs, SqD x parts ∧ ddD d = .tup qs ∧ PartsW parts qs
inductive DeedsW : List D → List Dd → Prop
  | nil : DeedsW [] []
  | cons {x : D} {d : Dd} {xs : List D} {ds : List Dd} : DeedW x d → DeedsW xs ds → DeedsW (x :: xs) (d :: ds)
theorem PartW.str {x : D} {w : Str} (h : PartW x (.str w)) : x = .str w := by
  rcases h with h | ⟨l, e, _⟩
  · exact h
  · cases e
theorem PartW.int {x : D} {i : Int} (h : PartW x (.int i)) : x = .int i := by
  rcases h with h | ⟨l, e, _⟩
  · exact h
  · cases e
theorem PartW.path {x : D} {l : List D} (h : PartW x (.tup l)) : SqD x l := by
  rcases h with h | ⟨l', e, h⟩
  · exact .inl h
  · cases e; exact .inr h
theorem PartW.refl (x : D) : PartW x x := .inl rfl
theorem DeedsW.len : ∀ {xs : List D} {ds : List Dd}, DeedsW xs ds → xs.length = ds.length
  | _, _, .nil => rfl
  | _, _, .cons _ t => by rw [List.length_cons, List.length_cons, t.len]
end Lw
/-! programs are right; runs -/
namespace Lw
open PySem L2 Dl Ly
theorem PartsW.len : ∀ {xs ys : List D}, PartsW xs ys → xs.length = ys.length
  | _, _, .nil => rfl
  | _, _, .cons _ t => by rw [List.length_cons, List.length_cons, t.len]
/-! octets and bits -/
end Lw
/-! values and their bits -/
/-! the law's own bits -/
/-! the law's own deeds -/
namespace Lw
open PySem L2 Dl Ly
/-! bits stay bits -/
/-! what is put, by values -/
/-! the walk -/
section
variable {ld : D} {bs : List Ber} {size : Int}
theorem i0 (x : D) (l : List D) (S : MS) : (bin dItem (M.pure (.tup (x :: l))) (M.pure (D.int 0))) S = .ok x S := by
  rw [ev_bin, ev_pure, at_ok, ev_pure, at_ok, SqD.i0 (.inl rfl)]
  rfl
theorem i1 (x y : D) (S : MS) : (bin dItem (M.pure (.tup [x, y])) (M.pure (D.int 1))) S = .ok y S := rfl
abbrev ber2 (b : Ber) : D := .tup [.tup (b.bits.map D.int), .bl b.sg]
theorem ber_len (b : Ber) (S : MS) : (callM (ar1 dLen) [(bin dItem (M.pure (ber2 b)) (M.pure (D.int 0)))]) S = .ok (.int (b.bits.length : Nat)) S := by
  have hlen : dLen (.tup (b.bits.map D.int)) = M.pure (.int (b.bits.length : Nat)) := by
    show M.pure (D.int ((b.bits.map D.int).length : Nat)) = _
    rw [List.length_map]
  rw [ev_call, ev_args1, i0, at_ok, ev_args0, at_ok, at_ok, ev_ar1, hlen]
  rfl
/-! octets and bits -/
end
end Lw
/-! the law's own draws: members, layouts -/
namespace Lw
open PySem L2 Dl Ly
/-- draws that may leave cells behind -/
def DrwC (n : Nat) (m : M D) (Q : D → Prop) : Prop := ∀ (cs : List Cell) (s : Strm) (r : Nat), Bud s (n + r) → ∃ d cs' s', m ⟨cs, s⟩ = .ok d ⟨cs', s'⟩ ∧ Q d ∧ Bud s' r
theorem Drw.c {n : Nat} {m : M D} {Q : D → Prop} (h : Drw n m Q) : DrwC n m Q := fun cs s r b => by
  obtain ⟨d, s', e, q, b'⟩ := h cs s r b
  exact ⟨d, cs, s', e, q, b'⟩
/-- a member, with its data, whose names are among these -/
structure Gm (A : Int) (B C dp : Nat) (ns : List Str) (y : D × Mb) : Prop where
  lk : LK y.1 y.2.k
  bd : Bd A B C y.2
  dp : y.2.k.depth ≤ dp
  nm : ∀ x ∈ Mb.names y.2, x ∈ ns
  nd : (Mb.names y.2).Nodup
theorem Gm.le {A A' : Int} {B C dp B' C' dp' : Nat} {ns ns' : List Str} {y : D × Mb} (h : Gm A B C dp ns y) (a : A ≤ A') (b : B ≤ B') (c : C ≤ C') (d : dp ≤ dp') (n : ∀ x ∈ ns, x ∈ ns') : Gm A' B' C' dp' ns' y :=
  ⟨h.lk, ⟨h.bd.ko, h.bd.mo, by have := h.bd.sz; omega, by have := h.bd.cnt; omega, by have := h.bd.all; omega⟩, by have := h.dp; omega, fun x hx => n x (h.nm x hx), h.nd⟩
inductive Gs (A : Int) (B C dp : Nat) : List (D × Mb) → List (List Str) → Prop
  | nil : Gs A B C dp [] []
  | cons {y : D × Mb} {ys : List (D × Mb)} {ns : List Str} {nss : List (List Str)} : Gm A B C dp ns y → Gs A B C dp ys nss → Gs A B C dp (y :: ys) (ns :: nss)
theorem Gs.app {A : Int} {B C dp : Nat} {y : D × Mb} {ns : List Str} (h : Gm A B C dp ns y) : ∀ {ys : List (D × Mb)} {nss : List (List Str)}, Gs A B C dp ys nss → Gs A B C dp (ys ++ [y]) (nss ++ [ns])
  | _, _, .nil => .cons h .nil
  | _, _, .cons a t => .cons a (Gs.app h t)
theorem Gs.mem {A : Int} {B C dp : Nat} : ∀ {ys : List (D × Mb)} {nss : List (List Str)}, Gs A B C dp ys nss → ∀ y ∈ ys, ∃ ns, Gm A B C dp ns y
  | _, _, .nil, _, h => nomatch h
  | _, _, .cons a t, y, h => by
    rcases List.mem_cons.mp h with rfl | h
    · exact ⟨_, a⟩
    · exact t.mem y h
theorem Gs.names {A : Int} {B C dp : Nat} : ∀ {ys : List (D × Mb)} {nss : List (List Str)}, Gs A B C dp ys nss → nss.flatten.Nodup → (ys.flatMap fun x => Mb.names x.2).Nodup ∧ ∀ x ∈ (ys.flatMap fun x => Mb.names x.2), x ∈ nss.flatten
  | _, _, .nil, _ => ⟨List.nodup_nil, fun x h => by simp at h⟩
  | _, _, .cons (y := y) (ys := ys) (ns := ns) (nss := nss) a t, hd => by
    rw [List.flatten_cons, List.nodup_append] at hd
    obtain ⟨i1, i2⟩ := t.names hd.2.1
    rw [List.flatMap_cons, List.flatten_cons]
    refine ⟨List.nodup_append.mpr ⟨a.nd, i1, fun x hx z hz => hd.2.2 x (a.nm x hx) z (i2 z hz)⟩, fun x hx => ?_⟩
    rcases List.mem_append.mp hx with h | h
    · exact List.mem_append_left _ (a.nm x h)
    · exact List.mem_append_right _ (i2 x h)
theorem Gs.len {A : Int} {B C dp : Nat} : ∀ {ys : List (D × Mb)} {nss : List (List Str)}, Gs A B C dp ys nss → ys.length = nss.length
  | _, _, .nil => rfl
  | _, _, .cons _ t => congrArg (· + 1) t.len
/-! members -/
end Lw
/-! the law's own layouts -/
namespace Lw
open PySem L2 Dl Ly
def SI1 (d : D) : Prop := (∃ x, d = .str x) ∨ ∃ i, d = .int i
/-- what is known of a drawn layout -/
structure QL (ld : D) (bs : List Ber) (size : Int) : Prop where
  lf : Lf ld bs size
  pg : ∀ b ∈ bs, ∀ d ∈ b.path, Good 1 d
  ne : 0 < bs.length
  bd : size ≤ 2000
  nd : ∀ b ∈ bs, b.bits.Nodup
  si : ∀ b ∈ bs, ∀ d ∈ b.path, SI1 d
theorem QL.pos {ld : D} {bs : List Ber} {size : Int} (q : QL ld bs size) : 0 < size := by
  cases bs with
  | nil => exact absurd q.ne (by decide)
  | cons b bs =>
    have h1 := (q.lf.len b List.mem_cons_self).1
    cases e : b.bits with
    | nil => rw [e] at h1; exact absurd h1 (by decide)
    | cons i is =>
      have := q.lf.rng b List.mem_cons_self i (by rw [e]; exact List.mem_cons_self)
      omega
end Lw
/-! plain data -/
namespace Lw
open PySem L2 Dl Ly
theorem flats_of : ∀ ds : List D, (∀ d ∈ ds, d.flat = true) → D.flats ds = true
  | [], _ => rfl
  | d :: ds, h => by
    rw [D.flats, h d List.mem_cons_self, flats_of ds fun x hx => h x (List.mem_cons_of_mem _ hx)]
    rfl
theorem lays_of : ∀ ds : List D, (∀ d ∈ ds, d.toPy.canLay0 = true) → PyData.canLayAll0 (D.toPys ds) = true
  | [], _ => by rw [D.toPys, PyData.canLayAll0]
  | d :: ds, h => by
    rw [D.toPys, PyData.canLayAll0, h d List.mem_cons_self, lays_of ds fun x hx => h x (List.mem_cons_of_mem _ hx)]
    rfl
theorem deps_of {n : Nat} : ∀ ds : List D, (∀ d ∈ ds, d.toPy.depth ≤ n) → PyData.depthAll (D.toPys ds) ≤ n
  | [], _ => by rw [D.toPys, PyData.depthAll]; exact Nat.zero_le _
  | d :: ds, h => by
    rw [D.toPys, PyData.depthAll]
    have h1 := h d List.mem_cons_self
    have h2 := deps_of ds fun x hx => h x (List.mem_cons_of_mem _ hx)
    omega
theorem eqvs_of : ∀ ds : List D, (∀ d ∈ ds, PyData.eqv d.toPy d.toPy = true) → PyData.eqvAll (D.toPys ds) (D.toPys ds) = true
  | [], _ => by rw [D.toPys, PyData.eqvAll]
  | d :: ds, h => by
    rw [D.toPys, PyData.eqvAll, h d List.mem_cons_self, eqvs_of ds fun x hx => h x (List.mem_cons_of_mem _ hx)]
    rfl
theorem good_all : ∀ (n : Nat) {d : D}, Good (n + 1) d → d.flat = true ∧ d.toPy.canLay0 = true ∧ d.toPy.depth ≤ n + 1 ∧ PyData.eqv d.toPy d.toPy = true := by
  intro n
  induction n with
  | zero =>
    intro d h
    cases h with
    | non => exact ⟨rfl, by rw [D.toPy, PyData.canLay0], by rw [D.toPy, PyData.depth]; exact Nat.zero_le _, by rw [D.toPy, PyData.eqv]⟩
    | bl b => exact ⟨rfl, by rw [D.toPy, PyData.canLay0], by rw [D.toPy, PyData.depth]; exact Nat.zero_le _, by rw [D.toPy, PyData.eqv]; simp⟩
    | int i => exact ⟨rfl, by rw [D.toPy, PyData.canLay0], by rw [D.toPy, PyData.depth]; exact Nat.zero_le _, by rw [D.toPy, PyData.eqv]; simp⟩
    | str x h =>
      have := (plain_of h).2
      unfold SeqAt.shaped at this
      exact ⟨rfl, (Bool.and_eq_true_iff.mp this).1, by rw [D.toPy, PyData.depth]; exact Nat.zero_le _, by rw [D.toPy, PyData.eqv]; simp⟩
    | lst ds h t =>
      have e : ds = [] := by
        cases ds with
        | nil => rfl
        | cons d ds => exact absurd (t d List.mem_cons_self) (fun z => by cases z)
      subst e
      exact ⟨rfl, by rw [D.toPy, D.toPys, PyData.canLay0, PyData.canLayAll0], by rw [D.toPy, D.toPys, PyData.depth, PyData.depthAll]; exact Nat.le_refl _, by rw [D.toPy, D.toPys, PyData.eqv, PyData.eqvAll]⟩
    | tup ds h t =>
      have e : ds = [] := by
        cases ds with
        | nil => rfl
        | cons d ds => exact absurd (t d List.mem_cons_self) (fun z => by cases z)
      subst e
      exact ⟨rfl, by rw [D.toPy, D.toPys, PyData.canLay0, PyData.canLayAll0], by rw [D.toPy, D.toPys, PyData.depth, PyData.depthAll]; exact Nat.le_refl _, by rw [D.toPy, D.toPys, PyData.eqv, PyData.eqvAll]⟩
  | succ n ih =>
    intro d h
    cases h with
    | non => exact ⟨rfl, by rw [D.toPy, PyData.canLay0], by rw [D.toPy, PyData.depth]; exact Nat.zero_le _, by rw [D.toPy, PyData.eqv]⟩
    | bl b => exact ⟨rfl, by rw [D.toPy, PyData.canLay0], by rw [D.toPy, PyData.depth]; exact Nat.zero_le _, by rw [D.toPy, PyData.eqv]; simp⟩
    | int i => exact ⟨rfl, by rw [D.toPy, PyData.canLay0], by rw [D.toPy, PyData.depth]; exact Nat.zero_le _, by rw [D.toPy, PyData.eqv]; simp⟩
    | str x h =>
      have := (plain_of h).2
      unfold SeqAt.shaped at this
      exact ⟨rfl, (Bool.and_eq_true_iff.mp this).1, by rw [D.toPy, PyData.depth]; exact Nat.zero_le _, by rw [D.toPy, PyData.eqv]; simp⟩
    | lst ds h t =>
      refine ⟨?_, ?_, ?_, ?_⟩
      · rw [D.flat]; exact flats_of ds fun d hd => (ih (t d hd)).1
      · rw [D.toPy, PyData.canLay0]; exact lays_of ds fun d hd => (ih (t d hd)).2.1
      · rw [D.toPy, PyData.depth]; have := deps_of (n := n + 1) ds fun d hd => (ih (t d hd)).2.2.1; omega
      · rw [D.toPy, PyData.eqv]; exact eqvs_of ds fun d hd => (ih (t d hd)).2.2.2
    | tup ds h t =>
      refine ⟨?_, ?_, ?_, ?_⟩
      · rw [D.flat]; exact flats_of ds fun d hd => (ih (t d hd)).1
      · rw [D.toPy, PyData.canLay0]; exact lays_of ds fun d hd => (ih (t d hd)).2.1
      · rw [D.toPy, PyData.depth]; have := deps_of (n := n + 1) ds fun d hd => (ih (t d hd)).2.2.1; omega
      · rw [D.toPy, PyData.eqv]; exact eqvs_of ds fun d hd => (ih (t d hd)).2.2.2
theorem good_up : ∀ {n : Nat} {d : D}, Good n d → Good (n + 1) d := by
  intro n d h
  induction h with
  | non => exact .non
  | bl b => exact .bl b
  | int i => exact .int i
  | str x h => exact .str x h
  | lst ds h t ih => exact .lst ds h ih
  | tup ds h t ih => exact .tup ds h ih
theorem good_le {n m : Nat} {d : D} (h : Good n d) (l : n ≤ m) : Good m d := by
  induction l with
  | refl => exact h
  | step _ ih => exact good_up ih
theorem good_plain {n : Nat} {d : D} (h : Good n d) (hn : n ≤ 60) : d.plain = true ∧ PyData.eqv d.toPy d.toPy = true := by
  have g := good_all 60 (good_le h (by omega))
  refine ⟨?_, g.2.2.2⟩
  unfold D.plain SeqAt.shaped
  rw [g.1, g.2.1, decide_eq_true (by omega)]
  rfl
theorem ne_self {n : Nat} {d : D} (h : Good n d) (hn : n ≤ 60) : dNe d d = M.pure (.bl false) := by
  have g := good_plain h hn
  unfold dNe D.eqv
  rw [g.1, g.2]
  rfl
end Lw
/-! declarations tried: what is refused is caught -/
namespace Lw
open PySem L2 Dl Ly
theorem drw_cV {k : Int} {cs : List Cell} {s s1 : Strm} {i : Int} (e : f_draw .strm (.int k) ⟨cs, s⟩ = .ok (.int i) ⟨cs, s1⟩) : (callM (ar2 f_draw) [(M.pure D.strm), (M.pure (D.int k))]) ⟨cs, s⟩ = .ok (.int i) ⟨cs, s1⟩ := ev_call2 (ev_pure ..) (ev_pure ..) e
section
variable {dc dp da de mem : D} {u : Bool} {t : Nat} {S : MS}
theorem su_err {er : Err} (e : f_layout_of mem dc dp da de (.bl u) S = .err er S) : (if u = true then f_union else f_struct) mem dc dp da de S = .err er S := by
  cases u with
  | true =>
    rw [if_pos rfl, f_union]
    generalize f_layout_of = fl at e ⊢
    rw [ev_fin, ev_ret, ev_call, ev_args1, ev_pure, at_ok, ev_args1, ev_pure, at_ok, ev_args1, ev_pure, at_ok, ev_args1, ev_pure, at_ok, ev_args1, ev_pure, at_ok, ev_args1, ev_pure, at_ok, ev_args0, at_ok, at_ok, at_ok, at_ok, at_ok, at_ok, at_ok, ev_ar6, e, at_err, at_err]
  | false =>
    rw [if_neg (by decide), f_struct]
    generalize f_layout_of = fl at e ⊢
    rw [ev_fin, ev_ret, ev_call, ev_args1, ev_pure, at_ok, ev_args1, ev_pure, at_ok, ev_args1, ev_pure, at_ok, ev_args1, ev_pure, at_ok, ev_args1, ev_pure, at_ok, ev_args1, ev_pure, at_ok, ev_args0, at_ok, at_ok, at_ok, at_ok, at_ok, at_ok, at_ok, ev_ar6, e, at_err, at_err]
theorem co_call {r : Res D} (e : f_checked_options dc dp da de S = r) : (callM (ar4 f_checked_options) [(M.pure dc), (M.pure dp), (M.pure da), (M.pure de)]) S = r := by
  generalize f_checked_options = fc at e ⊢
  rw [ev_call, ev_args1, ev_pure, at_ok, ev_args1, ev_pure, at_ok, ev_args1, ev_pure, at_ok, ev_args1, ev_pure, at_ok, ev_args0, at_ok, at_ok, at_ok, at_ok, at_ok, ev_ar4, e]
theorem lay_nam {er : Err} {x rows : D} (e : f_checked_options dc dp da de S = .ok x S) (e2 : f_checked_members mem S = .ok rows S) (e3 : f_checked_names rows S = .err er S) : f_layout_of mem dc dp da de (.bl u) S = .err er S := by
  have c := co_call e
  unfold f_layout_of
  generalize f_checked_members = fm at e2 ⊢
  generalize f_checked_names = fn at e3 ⊢
  rw [ev_fin, ev_bind, c, at_ok, ev_bind, ev_call1 (ev_pure ..) e2, at_ok, ev_bind, ev_call1 (ev_pure ..) e3, at_err, at_err]
theorem tried_ok {pl d : D} {S1 : MS} (e : f_edeclared mem pl S = .ok d S1) : f_etried mem pl S = .ok (.tup [.str "made", d]) S1 := by
  have z2 : szOk 2 = true := by decide
  unfold f_etried
  generalize f_edeclared = fe at e ⊢
  have mb : (M.bind (tupM [(M.pure (D.str "made")), (callM (ar2 fe) [(M.pure mem), (M.pure pl)])]) fun v_found3 => (M.pure (.nx v_found3)) : M (Fl D Empty)) S = .ok (.nx (.tup [.str "made", d])) S1 := by
    rw [ev_bind, ev_tup, ev_args1, ev_pure, at_ok, ev_args1, ev_call2 (ev_pure ..) (ev_pure ..) e, at_ok, ev_args0, at_ok, at_ok, at_ok, if_pos (by exact z2), at_ok, ev_pure]
  have tr : ∀ (all : List Str) (hs : List (Str × Str × (D → M (Fl D Empty)))), tryA all hs (M.bind (tupM [(M.pure (D.str "made")), (callM (ar2 fe) [(M.pure mem), (M.pure pl)])]) fun v_found3 => (M.pure (.nx v_found3)) : M (Fl D Empty)) S = .ok (.nx (.tup [.str "made", d])) S1 := fun all hs => by
    unfold tryA
    rw [mb]
  rw [ev_fin, ev_bind, ev_pure, at_ok, ev_then, tr, at_ok]
  rfl
def errs5 : List (Str × Str × Str) := [("BadOption", "name", "option"), ("BadMember", "place", "member"), ("BadKind", "kind", "kind"), ("BadName", "name", "name"), ("BadBits", "place", "bits")]
theorem tried_err {pl v : D} {S1 : MS} {x f w : Str} (hx : (x, f, w) ∈ errs5) (e : f_edeclared mem pl S = .err ⟨x, f, v⟩ S1) : f_etried mem pl S = .ok (.tup [.str w, v]) S1 := by
  unfold f_etried
  generalize f_edeclared = fe at e ⊢
  have mb : (M.bind (tupM [(M.pure (D.str "made")), (callM (ar2 fe) [(M.pure mem), (M.pure pl)])]) fun v_found3 => (M.pure (.nx v_found3)) : M (Fl D Empty)) S = .err ⟨x, f, v⟩ S1 := by
    rw [ev_bind, ev_tup, ev_args1, ev_pure, at_ok, ev_args1, ev_call2 (ev_pure ..) (ev_pure ..) e, at_err, at_err, at_err, at_err]
  have tr : ∀ (all : List Str) (hs : List (Str × Str × (D → M (Fl D Empty)))), all.contains x = true → tryA all hs (M.bind (tupM [(M.pure (D.str "made")), (callM (ar2 fe) [(M.pure mem), (M.pure pl)])]) fun v_found3 => (M.pure (.nx v_found3)) : M (Fl D Empty)) S = pickA ⟨x, f, v⟩ S1 hs := fun all hs h => by
    unfold tryA
    rw [mb]
    show (if all.contains x = true then _ else _) = _
    rw [if_pos h]
  simp only [errs5, List.mem_cons, List.not_mem_nil, or_false, Prod.mk.injEq] at hx
  rcases hx with ⟨rfl, rfl, rfl⟩ | ⟨rfl, rfl, rfl⟩ | ⟨rfl, rfl, rfl⟩ | ⟨rfl, rfl, rfl⟩ | ⟨rfl, rfl, rfl⟩
  all_goals
    rw [ev_fin, ev_bind, ev_pure, at_ok, ev_then, tr _ _ (by decide)]
    rfl
end
/-! ### plans as data -/
/-! ### the first bad member -/
/-! ### bits that are none -/
end Lw
/-! declarations as dicts with their rows: as T6, T7, for the dicts of the laws of names -/
namespace Lw
open PySem L2 Dl Ly
abbrev declE (o : Opt) (r : D) : List (Key × D) := [(.inr "is_union", .bl o.union), (.inr "convention", .str (cvS o.msvc)), (.inr "pack", optD o.pack), (.inr "align", optD o.align), (.inr "ends", .str (enS o.big)), (.inr "rows", r)]
def BEk (kvs : List (Key × D)) (o : Opt) (rows : List D) (k : Kd) : Prop := kvs = declE o (.lst rows) ∨ ∃ d', LK d' k ∧ kvs = declE o (.lst rows) ++ [(.inr "layout", d')]
structure EIn (P : PmK) (cs : List Cell) : Prop where
  at_ : ∀ a k, P a = some k → ∃ (o : Opt) (xs : List (D × Mb)) (kvs : List (Key × D)), k = .lay o (Mbs.of (xs.map (·.2))) ∧ cs[a]? = some (.dic kvs) ∧ BEk kvs o (xs.map rowD) k ∧ ∀ x ∈ xs, TPk P x.1 x.2.k
theorem EIn.lt {P : PmK} {cs : List Cell} (h : EIn P cs) {a : Nat} {k : Kd} (e : P a = some k) : a < cs.length := by
  obtain ⟨o, xs, kvs, h1, h2, h3, h4⟩ := h.at_ a k e
  exact (List.getElem?_eq_some_iff.mp h2).1
theorem EIn.app {P : PmK} {cs l : List Cell} (h : EIn P cs) : EIn P (cs ++ l) := ⟨fun a k e => by
  obtain ⟨o, xs, kvs, h1, h2, h3, h4⟩ := h.at_ a k e
  exact ⟨o, xs, kvs, h1, by rw [List.getElem?_append_left (h.lt e)]; exact h2, h3, h4⟩⟩
theorem BEk.get {kvs : List (Key × D)} {o : Opt} {rows : List D} {k : Kd} (h : BEk kvs o rows k) : valD kvs (.inr "rows") = some (.lst rows) ∧ valD kvs (.inr "pack") = some (optD o.pack) ∧ valD kvs (.inr "convention") = some (.str (cvS o.msvc)) ∧ valD kvs (.inr "align") = some (optD o.align) ∧ valD kvs (.inr "ends") = some (.str (enS o.big)) ∧ valD kvs (.inr "is_union") = some (.bl o.union) ∧ kvs.length ≤ 7 := by
  rcases h with rfl | ⟨d', lk, rfl⟩ <;> exact ⟨rfl, rfl, rfl, rfl, rfl, rfl, by simp⟩
theorem dkE_of {cs : List Cell} {a : Nat} {kvs : List (Key × D)} {o : Opt} {rows : List D} {k : Kd} (h : cs[a]? = some (.dic kvs)) (b : BEk kvs o rows k) : DK cs (.ptr a) o rows := by
  obtain ⟨g1, g2, g3, g4, g5, g6, _⟩ := b.get
  exact ⟨fun s => isd_ptr h, fun s => c_getK h g1, fun s => c_getK h g2, fun s => c_getK h g3, fun s => c_getK h g4, fun s => c_getK h g5, fun s => c_getK h g6⟩
def BuiltE (n : Nat) : Prop := ∀ {P : PmK} {cs : List Cell} {s : Strm} {d : D} {k : Kd}, EIn P cs → TPk P d k → KOk k → 2 * k.depth < n → k.depth < 11 → ∃ d' cs', f_ebuilt n d ⟨cs, s⟩ = .ok d' ⟨cs', s⟩ ∧ LK d' k ∧ EIn P cs' ∧ Keep P cs cs'
def MembersE (n : Nat) : Prop := ∀ {P : PmK} {cs : List Cell} {s : Strm} {d : D} {o : Opt} {xs : List (D × Mb)}, 0 < n → EIn P cs → DK cs d o (xs.map rowD) → (∀ x ∈ xs, TPk P x.1 x.2.k ∧ KOk x.2.k ∧ 2 * x.2.k.depth + 1 < n ∧ x.2.k.depth < 11) → xs.length ≤ 4096 →
  ∃ (ys : List (D × Mb)) (cs' : List Cell), f_emembers n d ⟨cs, s⟩ = .ok (.lst (ys.map memD)) ⟨cs', s⟩ ∧ ys.map (·.2) = xs.map (·.2) ∧ (∀ y ∈ ys, LK y.1 y.2.k) ∧ EIn P cs' ∧ Keep P cs cs'
theorem mbE_loop {n : Nat} (ih : BuiltE n) {P : PmK} {s : Strm} : ∀ (xs : List (D × Mb)) (acc : List D) (cs : List Cell), EIn P cs → (∀ x ∈ xs, TPk P x.1 x.2.k ∧ KOk x.2.k ∧ 2 * x.2.k.depth < n ∧ x.2.k.depth < 11) → acc.length + xs.length ≤ 4096 →
    ∃ (ys : List (D × Mb)) (cs' : List Cell), (Dl.forM (mbB (f_ebuilt n)) (xs.map rowD) acc : M (Fl (List D) Empty)) ⟨cs, s⟩ = .ok (.nx (acc ++ ys.map memD)) ⟨cs', s⟩ ∧ ys.map (·.2) = xs.map (·.2) ∧ (∀ y ∈ ys, LK y.1 y.2.k) ∧ EIn P cs' ∧ Keep P cs cs'
  | [], acc, cs, h, _, _ => ⟨[], cs, by show _ = Res.ok (Fl.nx (acc ++ [])) _; rw [List.append_nil]; rfl, rfl, fun _ h => (nomatch h), h, Keep.refl _ _⟩
  | x :: xs, acc, cs, h, hx, hl => by
    rw [List.length_cons] at hl
    obtain ⟨q1, q2, q3, q4⟩ := hx x List.mem_cons_self
    obtain ⟨d', cs1, e1, lk, b1, k1⟩ := ih (s := s) h q1 q2 q3 q4
    obtain ⟨ys, cs2, e2, m2, l2, b2, k2⟩ := mbE_loop ih (s := s) xs (acc ++ [memD (d', x.2)]) cs1 b1 (fun y hy => hx y (List.mem_cons_of_mem _ hy)) (by rw [List.length_append, List.length_singleton]; omega)
    refine ⟨(d', x.2) :: ys, cs2, ?_, by rw [List.map_cons, List.map_cons, m2], fun y hy => ?_, b2, k1.trans k2⟩
    · rw [List.map_cons, ev_for1, mb_one e1 (by omega), at_ok, foR_nx, e2, List.map_cons, List.append_assoc]
      rfl
    · rcases List.mem_cons.mp hy with q | q
      · rw [q]; exact lk
      · exact l2 y q
theorem builtE_members {n : Nat} (ih : BuiltE n) : MembersE (n + 1) := by
  intro P cs s d o xs _ h dk hx hl
  obtain ⟨ys, cs1, e1, m1, l1, b1, k1⟩ := mbE_loop ih (s := s) xs [] cs h (fun x hm => by
    obtain ⟨q1, q2, q3, q4⟩ := hx x hm
    exact ⟨q1, q2, by omega, q4⟩) (by simpa using hl)
  refine ⟨ys, cs1, ?_, m1, l1, b1, k1⟩
  rw [f_emembers]
  have t1 : (M.bind (bin dGetK (M.pure d) (M.pure (D.str "rows"))) itemsS) ⟨cs, s⟩ = .ok (xs.map rowD) ⟨cs, s⟩ := by
    rw [ev_bind, ev_bin, ev_pure, at_ok, ev_pure, at_ok, dk.rw_, at_ok]
    rfl
  have e1 : (Dl.forM (mbB (f_ebuilt n)) (xs.map rowD) [] : M (Fl (List D) Empty)) ⟨cs, s⟩ = .ok (.nx (ys.map memD)) ⟨cs1, s⟩ := e1
  rw [ev_fin, ev_bind, ev_lst, ev_args0, at_ok, if_pos (szOk_le (by simp)), at_ok, ev_bind, t1, at_ok, ev_then]
  rw [e1]
  rfl
theorem ok_edeclaredO {cs : List Cell} {s : Strm} {d : D} {o : Opt} {xs ys : List (D × Mb)} (dk : DO cs d o) (hm : ys.map (·.2) = xs.map (·.2)) (lk : ∀ y ∈ ys, LK y.1 y.2.k) (ko : KOk (.lay o (Mbs.of (xs.map (·.2))))) (hd : (Mbs.of (xs.map (·.2))).depth < 11) :
    ∃ d', f_edeclared (.lst (ys.map memD)) d ⟨cs, s⟩ = .ok d' ⟨cs ++ [.out], s⟩ ∧ LK d' (.lay o (Mbs.of (xs.map (·.2)))) := by
  obtain ⟨hl, kk⟩ := kids (n := 12) ko (by rw [Kd.depth]; omega)
  have dm : ∀ x ∈ xs, x.2.k.depth ≤ (Mbs.of (xs.map (·.2))).depth := fun x hx => depth_mem _ _ (by rw [of_list]; exact List.mem_map_of_mem hx)
  obtain ⟨hp, ha, hn, h6⟩ : PkOk o.pack ∧ AlOk o.align ∧ (Mbs.of (xs.map (·.2))).names.Nodup ∧ (Mbs.of (xs.map (·.2))).names.length ≤ 65536 := by
    cases ko with | lay hp ha hm hb hn h6 h5 h1 h2 h3 => exact ⟨hp, ha, hn, h6⟩
  have back : ∀ y ∈ ys, ∃ x ∈ xs, x.2 = y.2 := fun y hy => by
    have : y.2 ∈ xs.map (·.2) := by rw [← hm]; exact List.mem_map_of_mem hy
    obtain ⟨x, hx, e⟩ := List.mem_map.mp this
    exact ⟨x, hx, e⟩
  have xsY : Xs ys := by
    refine ⟨lk, fun y hy => ?_, fun y hy => ?_, fun y hy => ?_, ?_⟩
    · obtain ⟨x, hx, e⟩ := back y hy; rw [← e]; exact (kk x hx).1
    · obtain ⟨x, hx, e⟩ := back y hy; rw [← e]; exact (kk x hx).2.2
    · obtain ⟨x, hx, e⟩ := back y hy; rw [← e]; have := dm x hx; omega
    · have := congrArg List.length hm
      rw [List.length_map, List.length_map] at this
      rw [this]; exact hl
  have fm : (ys.flatMap fun x => Mb.names x.2) = (Mbs.of (xs.map (·.2))).names := by
    rw [names_of_list, ← hm, List.flatMap_map]
  have hof := ok_layout_of (S := ⟨cs, s⟩) (o := o) xsY hp ha (by rw [fm]; exact hn) (by rw [fm]; exact h6)
  have res := LK.lay (i := cs.length) (o := o) ys lk
  rw [rowsX_of, hm] at res
  refine ⟨_, ?_, res⟩
  have hu : ∀ S, f_union (.lst (ys.map memD)) (.str (cvS o.msvc)) (optD o.pack) (optD o.align) (.str (enS o.big)) S = f_layout_of (.lst (ys.map memD)) (.str (cvS o.msvc)) (optD o.pack) (optD o.align) (.str (enS o.big)) (.bl true) S := fun S => by
    rw [f_union]
    generalize f_layout_of = g
    simp
    generalize g _ _ _ _ _ _ S = r
    cases r <;> rfl
  have hs : ∀ S, f_struct (.lst (ys.map memD)) (.str (cvS o.msvc)) (optD o.pack) (optD o.align) (.str (enS o.big)) S = f_layout_of (.lst (ys.map memD)) (.str (cvS o.msvc)) (optD o.pack) (optD o.align) (.str (enS o.big)) (.bl false) S := fun S => by
    rw [f_struct]
    generalize f_layout_of = g
    simp
    generalize g _ _ _ _ _ _ S = r
    cases r <;> rfl
  rw [f_edeclared]
  have g1 : (bin dGetK (M.pure d) (M.pure (D.str "is_union"))) ⟨cs, s⟩ = .ok (.bl o.union) ⟨cs, s⟩ := by rw [ev_bin, ev_pure, at_ok, ev_pure, at_ok, dk.un]
  have g2 : (bin dGetK (M.pure d) (M.pure (D.str "convention"))) ⟨cs, s⟩ = .ok (.str (cvS o.msvc)) ⟨cs, s⟩ := by rw [ev_bin, ev_pure, at_ok, ev_pure, at_ok, dk.cv]
  have g3 : (bin dGetK (M.pure d) (M.pure (D.str "pack"))) ⟨cs, s⟩ = .ok (optD o.pack) ⟨cs, s⟩ := by rw [ev_bin, ev_pure, at_ok, ev_pure, at_ok, dk.pk]
  have g4 : (bin dGetK (M.pure d) (M.pure (D.str "align"))) ⟨cs, s⟩ = .ok (optD o.align) ⟨cs, s⟩ := by rw [ev_bin, ev_pure, at_ok, ev_pure, at_ok, dk.al]
  have g5 : (bin dGetK (M.pure d) (M.pure (D.str "ends"))) ⟨cs, s⟩ = .ok (.str (enS o.big)) ⟨cs, s⟩ := by rw [ev_bin, ev_pure, at_ok, ev_pure, at_ok, dk.en]
  have ks : (argsM [(bin dGetK (M.pure d) (M.pure (D.str "convention"))), (bin dGetK (M.pure d) (M.pure (D.str "pack"))), (bin dGetK (M.pure d) (M.pure (D.str "align"))), (bin dGetK (M.pure d) (M.pure (D.str "ends")))]) ⟨cs, s⟩ = .ok [.str (cvS o.msvc), optD o.pack, optD o.align, .str (enS o.big)] ⟨cs, s⟩ := by
    rw [ev_args1, g2, at_ok, ev_args1, g3, at_ok, ev_args1, g4, at_ok, ev_args1, g5, at_ok, ev_args0, at_ok, at_ok, at_ok, at_ok]
  generalize f_layout_of = g at hof hu hs
  generalize f_union = gu at hu ⊢
  generalize f_struct = gs at hs ⊢
  rw [ev_fin, ev_ifM, ev_tst, g1, at_ok, asB_bl, ev_pure, at_ok]
  cases eu : o.union with
  | true =>
    rw [eu] at hof
    rw [if_pos rfl, ev_out, ev_ret, ev_kcall, ev_args1, ev_pure, at_ok, ev_args0, at_ok, at_ok, ks, at_ok]
    have : permG [.pos 0, .kw 0, .kw 1, .kw 2, .kw 3] [.lst (ys.map memD)] [] [.str (cvS o.msvc), optD o.pack, optD o.align, .str (enS o.big)] = [.lst (ys.map memD), .str (cvS o.msvc), optD o.pack, optD o.align, .str (enS o.big)] := rfl
    rw [this, ev_ar5, hu, hof]
    rfl
  | false =>
    rw [eu] at hof
    rw [if_neg (by decide), ev_ret, ev_kcall, ev_args1, ev_pure, at_ok, ev_args0, at_ok, at_ok, ks, at_ok]
    have : permG [.pos 0, .kw 0, .kw 1, .kw 2, .kw 3] [.lst (ys.map memD)] [] [.str (cvS o.msvc), optD o.pack, optD o.align, .str (enS o.big)] = [.lst (ys.map memD), .str (cvS o.msvc), optD o.pack, optD o.align, .str (enS o.big)] := rfl
    rw [this, ev_ar5, hs, hof]
    rfl
theorem ok_edeclared {cs : List Cell} {s : Strm} {d : D} {o : Opt} {rows : List D} {xs ys : List (D × Mb)} (dk : DK cs d o rows) (hm : ys.map (·.2) = xs.map (·.2)) (lk : ∀ y ∈ ys, LK y.1 y.2.k) (ko : KOk (.lay o (Mbs.of (xs.map (·.2))))) (hd : (Mbs.of (xs.map (·.2))).depth < 11) :
    ∃ d', f_edeclared (.lst (ys.map memD)) d ⟨cs, s⟩ = .ok d' ⟨cs ++ [.out], s⟩ ∧ LK d' (.lay o (Mbs.of (xs.map (·.2)))) := ok_edeclaredO dk.opts hm lk ko hd
theorem be_put {kvs : List (Key × D)} {o : Opt} {rows : List D} {k : Kd} {d' : D} (h : BEk kvs o rows k) (lk : LK d' k) : BEk (putKD kvs (.inr "layout") d') o rows k ∧ valD (putKD kvs (.inr "layout") d') (.inr "layout") = some d' := by
  rcases h with rfl | ⟨d0, _, rfl⟩
  · exact ⟨.inr ⟨d', lk, rfl⟩, rfl⟩
  · exact ⟨.inr ⟨d', lk, rfl⟩, rfl⟩
theorem EIn.put {P : PmK} {cs : List Cell} (h : EIn P cs) {a : Nat} {o : Opt} {xs : List (D × Mb)} {kvs : List (Key × D)} (e : P a = some (.lay o (Mbs.of (xs.map (·.2))))) (b : BEk kvs o (xs.map rowD) (.lay o (Mbs.of (xs.map (·.2))))) (hx : ∀ x ∈ xs, TPk P x.1 x.2.k) : EIn P (cs.set a (.dic kvs)) := ⟨fun i k ei => by
  by_cases q : i = a
  · subst q
    rw [e] at ei
    cases ei
    exact ⟨o, xs, kvs, rfl, List.getElem?_set_self (h.lt e), b, hx⟩
  · obtain ⟨o', xs', kvs', h1, h2, h3, h4⟩ := h.at_ i k ei
    exact ⟨o', xs', kvs', h1, (List.getElem?_set_ne (fun z => q z.symm)).trans h2, h3, h4⟩⟩
theorem builtE_step {n : Nat} (ih : BuiltE n) (im : MembersE n) : BuiltE (n + 1) := by
  intro P cs s d k h t ko hd hd2
  rw [f_ebuilt]
  unfold BuiltE at ih
  unfold MembersE at im
  generalize f_ebuilt n = fb at ih ⊢
  generalize f_emembers n = fm at im ⊢
  cases t with
  | int => exact ⟨_, cs, by simp [nodict, Ty.sub], .int, h, Keep.refl _ _⟩
  | @arr d k c t =>
    cases ko with
    | arr ko h0 h1 h2 h3 h4 =>
      rw [Kd.depth] at hd hd2
      obtain ⟨d', cs', e, lk, b, kp⟩ := ih (s := s) h t ko (by omega) (by omega)
      refine ⟨arrD d' c, cs', ?_, .arr lk, b, kp⟩
      have t1 : (callM (ar1 fb) [(bin dItem (M.pure (arrD d c)) (M.pure (D.int 1)))]) ⟨cs, s⟩ = .ok d' ⟨cs', s⟩ := ev_call1 (a := d) rfl e
      have t2 : (tupM [(M.pure (D.str "array")), (callM (ar1 fb) [(bin dItem (M.pure (arrD d c)) (M.pure (D.int 1)))]), (bin dItem (M.pure (arrD d c)) (M.pure (D.int 2)))]) ⟨cs, s⟩ = .ok (arrD d' c) ⟨cs', s⟩ := ev_tup3 ev_pure t1 rfl
      have t3 : (notT (tst (una (dIsX tabC [.dict] []) (M.pure (arrD d c)))) : M Bool) ⟨cs, s⟩ = .ok true ⟨cs, s⟩ := rfl
      have t4 : (tst (bin dEq (bin dItem (M.pure (arrD d c)) (M.pure (D.int 0))) (M.pure (D.str "int"))) : M Bool) ⟨cs, s⟩ = .ok false ⟨cs, s⟩ := by simp [str_int_ne]
      rw [ev_fin, ev_ifM, t3, at_ok, if_pos rfl, ev_out, ev_ret, ev_ifM, t4, at_ok, if_neg (by decide), t2]
      rfl
  | @lay a o ms e =>
    obtain ⟨o', xs, kvs, h1, h2, h3, h4⟩ := h.at_ _ _ e
    cases h1
    rw [Kd.depth] at hd hd2
    have dk := dkE_of h2 h3
    have t1 : (notT (tst (una (dIsX tabC [.dict] []) (M.pure (.ptr a)))) : M Bool) ⟨cs, s⟩ = .ok false ⟨cs, s⟩ := by
      rw [ev_notT, ev_tst, ev_una, ev_pure, at_ok, dk.isd]
      rfl
    rw [ev_fin, ev_ifM, t1, at_ok, if_neg (by decide), ev_then]
    rcases h3 with rfl | ⟨d0, lk, rfl⟩
    · -- not built yet
      obtain ⟨hl, kk⟩ := kids (n := 12) ko (by rw [Kd.depth]; omega)
      have dm : ∀ x ∈ xs, x.2.k.depth ≤ (Mbs.of (xs.map (·.2))).depth := fun x hx => depth_mem _ _ (by rw [of_list]; exact List.mem_map_of_mem hx)
      obtain ⟨ys, cs1, e1, m1, l1, b1, k1⟩ := im (s := s) (by omega) h dk (fun x hx => ⟨h4 x hx, (kk x hx).1, by have := dm x hx; omega, by have := dm x hx; omega⟩) hl
      obtain ⟨o2, xs2, kvs2, g1, g2, g3, g4⟩ := b1.at_ _ _ e
      obtain ⟨rfl, hx2⟩ := Kd.lay.inj g1
      obtain ⟨d', e2, lk⟩ := ok_edeclared (s := s) (dkE_of g2 g3) m1 l1 ko (by omega)
      have g3' : BEk kvs2 o (xs2.map rowD) (.lay o (Mbs.of (xs2.map (·.2)))) := by rw [← hx2]; exact g3
      have lk2 : LK d' (.lay o (Mbs.of (xs2.map (·.2)))) := by rw [← hx2]; exact lk
      obtain ⟨b2, v2⟩ := be_put g3' lk2
      have g2' : (cs1 ++ [Cell.out])[a]? = some (.dic kvs2) := by rw [List.getElem?_append_left (b1.lt e)]; exact g2
      let cs2 := (cs1 ++ [Cell.out]).set a (.dic (putKD kvs2 (.inr "layout") d'))
      have bi2 : EIn P cs2 := b1.app.put (by rw [← hx2]; exact e) b2 g4
      refine ⟨d', cs2, ?_, lk, bi2, k1.trans ⟨by simp [cs2], fun i hi hn => ?_⟩⟩
      · have tn : (tst (bin (dInK true) (M.pure (D.str "layout")) (M.pure (.ptr a))) : M Bool) ⟨cs, s⟩ = .ok true ⟨cs, s⟩ := by
          rw [ev_tst, ev_bin, ev_pure, at_ok, ev_pure, at_ok]
          unfold dInK dicAt
          simp only [h2, keyOf]
          rfl
        have tm : (callM (ar1 fm) [(M.pure (.ptr a))]) ⟨cs, s⟩ = .ok (.lst (ys.map memD)) ⟨cs1, s⟩ := ev_call1 ev_pure e1
        have td : (callM (ar2 f_edeclared) [(callM (ar1 fm) [(M.pure (.ptr a))]), (M.pure (.ptr a))]) ⟨cs, s⟩ = .ok d' ⟨cs1 ++ [.out], s⟩ := ev_call2 tm ev_pure e2
        have ts := c_setK (s := s) (x := "layout") (v := d') g2' (by have := g3.get.2.2.2.2.2.2; omega)
        have g5 : cs2[a]? = some (.dic (putKD kvs2 (.inr "layout") d')) := List.getElem?_set_self (List.getElem?_eq_some_iff.mp g2').1
        rw [ev_ifM, tn, at_ok, if_pos rfl, ev_bind, td, at_ok, ev_bind, ev_pure, at_ok, ev_bind, ev_pure, at_ok, ev_bind, ts, at_ok, ev_pure, at_ok, thR_nx, ev_ret, ev_bin, ev_pure, at_ok, ev_pure, at_ok, c_getK g5 v2]
        rfl
      · have : i ≠ a := fun q => by rw [q, e] at hn; cases hn
        exact (List.getElem?_set_ne (fun z => this z.symm)).trans (List.getElem?_append_left hi)
    · -- kept
      refine ⟨d0, cs, ?_, lk, h, Keep.refl _ _⟩
      have tn : (tst (bin (dInK true) (M.pure (D.str "layout")) (M.pure (.ptr a))) : M Bool) ⟨cs, s⟩ = .ok false ⟨cs, s⟩ := by
        rw [ev_tst, ev_bin, ev_pure, at_ok, ev_pure, at_ok]
        unfold dInK dicAt
        simp only [h2, keyOf]
        rfl
      rw [ev_ifM, tn, at_ok, if_neg (by decide), ev_pure, at_ok, thR_nx, ev_ret, ev_bin, ev_pure, at_ok, ev_pure, at_ok, c_getK h2 (v := d0) rfl]
      rfl
theorem builtE_both : ∀ n : Nat, BuiltE n ∧ MembersE n
  | 0 => ⟨fun _ _ _ h _ => by omega, fun h => absurd h (Nat.lt_irrefl 0)⟩
  | n + 1 => ⟨builtE_step (builtE_both n).1 (builtE_both n).2, builtE_members (builtE_both n).1⟩
end Lw
/-! names of rows, the first one that is there already -/
namespace Lw
open PySem L2 Dl Ly
theorem ok_ern : ∀ (n : Nat) {P : PmK} {cs : List Cell} {s : Strm} {x : D × Mb}, EIn P cs → TPk P x.1 x.2.k → KOk x.2.k → MbOk x.2 → x.2.k.depth < n → f_erow_names n (rowD x) ⟨cs, s⟩ = .ok (.lst (strD (Mb.names x.2))) ⟨cs, s⟩
  | 0, _, _, _, _, _, _, _, _, h => by omega
  | n + 1, P, cs, s, x, h, t, ko, mo, hd => by
    obtain ⟨d, nm, k, b⟩ := x
    have ih := fun (x : D × Mb) => @ok_ern n P cs s x h
    have u : rowD (d, (⟨nm, k, b⟩ : Mb)) = .tup [nmD nm, d, optD b] := rfl
    rw [f_erow_names, u]
    generalize f_erow_names n = fe at ih ⊢
    rw [ev_fin, ev_bind, ev_pure, at_ok, ev_un3]
    have z1 : szOk 1 = true := by decide
    cases nm with
    | some y =>
      have t0 : (tst (una dNotN (M.pure (nmD (some y)))) : M Bool) ⟨cs, s⟩ = .ok true ⟨cs, s⟩ := rfl
      rw [ev_ifM, t0, at_ok, if_pos rfl, ev_out, ev_ret, ev_frz, ev_lst, ev_args1, ev_pure, at_ok, ev_args0, at_ok, at_ok, if_pos (by exact z1)]
      cases b <;> rfl
    | none =>
      have t0 : (tst (una dNotN (M.pure (nmD none))) : M Bool) ⟨cs, s⟩ = .ok false ⟨cs, s⟩ := rfl
      rw [ev_ifM, t0, at_ok, if_neg (by decide), ev_ret, ev_ifM]
      cases t with
      | @int z g =>
        have t1 : (tst (una (dIsX tabC [.dict] []) (M.pure (intD z g))) : M Bool) ⟨cs, s⟩ = .ok false ⟨cs, s⟩ := rfl
        rw [t1, at_ok, if_neg (by decide)]
        have : Mb.names ⟨none, .int z g, b⟩ = [] := by cases b <;> simp [Mb.names, Kd.names]
        rw [this]
        rfl
      | @arr d' k' c t =>
        have t1 : (tst (una (dIsX tabC [.dict] []) (M.pure (arrD d' c))) : M Bool) ⟨cs, s⟩ = .ok false ⟨cs, s⟩ := rfl
        rw [t1, at_ok, if_neg (by decide)]
        have : Mb.names ⟨none, .arr k' c, b⟩ = [] := by cases b <;> simp [Mb.names, Kd.names]
        rw [this]
        rfl
      | @lay a o ms e =>
        obtain ⟨o', xs, kvs, h1, h2, h3, h4⟩ := h.at_ _ _ e
        cases h1
        have hb : b = none := by
          cases b with
          | none => rfl
          | some w =>
            obtain ⟨_, _, _, s, g, q⟩ := mo.bits w rfl
            cases q
        subst hb
        have dk := dkE_of h2 h3
        have hd : (Kd.lay o (Mbs.of (xs.map (·.2)))).depth < n + 1 := hd
        rw [Kd.depth] at hd
        have ko : KOk (.lay o (Mbs.of (xs.map (·.2)))) := ko
        have kk : ∀ x ∈ xs, KOk x.2.k ∧ MbOk x.2 ∧ x.2.k.depth < n := fun x hx => by
          have hin : x.2 ∈ (Mbs.of (xs.map (·.2))).list := by rw [of_list]; exact List.mem_map_of_mem hx
          have := depth_mem _ _ hin
          refine ⟨?_, ?_, by omega⟩
          · cases ko with | lay hp ha hm hb hn h6 h5 h1 h2 h3 => exact hm _ hin
          · cases ko with | lay hp ha hm hb hn h6 h5 h1 h2 h3 => exact hb _ hin
        have hl : xs.length ≤ 4096 := by
          cases ko with | lay hp ha hm hb hn h6 h5 h1 h2 h3 => rw [of_list, List.length_map] at h5; exact h5
        have h6 : (xs.flatMap fun x => Mb.names x.2).length ≤ 65536 := by
          cases ko with | lay hp ha hm hb hn h6 h5 h1 h2 h3 => rw [names_of_list, List.flatMap_map] at h6; exact h6
        have t1 : (tst (una (dIsX tabC [.dict] []) (M.pure (.ptr a))) : M Bool) ⟨cs, s⟩ = .ok true ⟨cs, s⟩ := by
          rw [ev_tst, ev_una, ev_pure, at_ok, dk.isd]
          rfl
        have mp := map_enc (S := ⟨cs, s⟩) (f := (unT (.nm 4) (on1 fun v_one4 => (callM (ar1 fe) [(M.pure v_one4)])))) rowD (fun x => D.lst (strD (Mb.names x.2))) xs fun x hx => by
          obtain ⟨q1, q2, q3⟩ := kk x hx
          rw [ev_unN, ev_on1, ev_call, ev_args1, ev_pure, at_ok, ev_args0, at_ok, at_ok, ev_ar1, ih x (h4 x hx) q1 q2 q3]
        have rw1 : (M.bind (bin dGetK (M.pure (.ptr a)) (M.pure (D.str "rows"))) itemsS) ⟨cs, s⟩ = .ok (xs.map rowD) ⟨cs, s⟩ := by
          rw [ev_bind, ev_bin, ev_pure, at_ok, ev_pure, at_ok, dk.rw_, at_ok]
          rfl
        have fl : (xs.map fun x => strD (Mb.names x.2)).flatten = strD (xs.flatMap fun x => Mb.names x.2) := by
          rw [← List.flatMap_def]
          unfold strD
          rw [List.map_flatMap]
        have sm := sum_rowsL (l := xs.map fun x => strD (Mb.names x.2)) (szOk_le (by rw [fl, List.length_map]; omega))
        rw [fl, List.map_map] at sm
        have sm : dSumL (.lst (xs.map fun x => D.lst (strD (Mb.names x.2)))) (.lst []) = _ := sm
        have l0 : ∀ S : MS, (frz (lstM [])) S = .ok (.lst []) S := fun S => rfl
        have nn : Mb.names ⟨none, .lay o (Mbs.of (xs.map (·.2))), none⟩ = xs.flatMap fun x => Mb.names x.2 := by
          show (Kd.lay o (Mbs.of (xs.map (·.2)))).names = _
          rw [Kd.names, names_of_list, List.flatMap_map]
        rw [t1, at_ok, if_pos rfl, ev_call, ev_args1, ev_frz, ev_mapX, rw1, at_ok, if_pos (szOk_le (by rw [List.length_map]; omega)), mp, at_ok, at_ok, ev_args1, l0, at_ok, ev_args0, at_ok, at_ok, at_ok, ev_ar2, sm, ev_pure, at_ok]
        show Res.ok (D.lst (strD (xs.flatMap fun x => Mb.names x.2))) _ = Res.ok (D.lst (strD (Mb.names ⟨none, .lay o (Mbs.of (xs.map (·.2))), none⟩))) _
        rw [nn]
/-! how many unlike names -/
theorem mergeK_len : ∀ (l acc : List (Key × D)), (mergeKD acc l).length ≤ acc.length + l.length
  | [], acc => Nat.le_refl _
  | kv :: l, acc => by
    have e : mergeKD acc (kv :: l) = mergeKD (putKD acc kv.1 kv.2) l := rfl
    have ih := mergeK_len l (putKD acc kv.1 kv.2)
    have : (putKD acc kv.1 kv.2).length ≤ acc.length + 1 := by
      unfold putKD
      split
      · rw [List.length_map]; omega
      · rw [List.length_append]; exact Nat.le_refl _
    rw [e, List.length_cons]
    omega
theorem merge_all : ∀ (l acc : List (Key × D)), (mergeKD acc l).length = acc.length + l.length → (l.map Prod.fst).Nodup ∧ ∀ kv ∈ l, ∀ kw ∈ acc, kw.1 ≠ kv.1
  | [], acc, _ => ⟨List.nodup_nil, fun kv h => (nomatch h)⟩
  | kv :: l, acc, h => by
    have e : mergeKD acc (kv :: l) = mergeKD (putKD acc kv.1 kv.2) l := rfl
    rw [e, List.length_cons] at h
    have le := mergeK_len l (putKD acc kv.1 kv.2)
    by_cases q : (acc.any fun kw => decide (kw.1 = kv.1)) = true
    · have pl : (putKD acc kv.1 kv.2).length = acc.length := by
        unfold putKD
        rw [if_pos q, List.length_map]
      omega
    · have pe : putKD acc kv.1 kv.2 = acc ++ [(kv.1, kv.2)] := by
        unfold putKD
        rw [if_neg q]
      rw [pe] at h
      obtain ⟨i1, i2⟩ := merge_all l (acc ++ [(kv.1, kv.2)]) (by rw [List.length_append, List.length_singleton]; omega)
      have nq : ∀ kw ∈ acc, kw.1 ≠ kv.1 := fun kw hw e => q (List.any_eq_true.mpr ⟨kw, hw, by simp [e]⟩)
      refine ⟨List.nodup_cons.mpr ⟨fun hm => ?_, i1⟩, fun kv' hv kw hw => ?_⟩
      · obtain ⟨kv', hv, e'⟩ := List.mem_map.mp hm
        exact i2 kv' hv (kv.1, kv.2) (by simp) e'.symm
      · rcases List.mem_cons.mp hv with r | r
        · rw [r]; exact nq kw hw
        · exact i2 kv' r kw (List.mem_append_left _ hw)
def nkL (l : List Str) : Nat := (mergeKD [] (l.map fun x => ((.inr x, .int 0) : Key × D))).length
theorem nkL_nd {l : List Str} (h : nkL l = l.length) : l.Nodup := by
  have := (merge_all (l.map fun x => ((.inr x, .int 0) : Key × D)) [] (by
    show nkL l = _
    rw [h, List.length_nil, List.length_map, Nat.zero_add])).1
  rw [List.map_map] at this
  exact (List.Pairwise.of_map (S := fun a b => a ≠ b) _ (fun a b h e => h (by rw [e])) this)
theorem pairsS : ∀ l : List Str, pairsD (l.map fun x => D.tup [.str x, .int 0]) = some (l.map fun x => ((.inr x, .int 0) : Key × D))
  | [] => rfl
  | i :: l => by rw [List.map_cons, pairsD, pairsS l]; rfl
theorem len_strs {l : List Str} {i : Nat} {S : MS} {ma : M D} (ha : ma S = .ok (.lst (strD l)) S) (hl : l.length ≤ 65536) : (callM (ar1 dLenK) [(frzD (M.bind (frz (mapX (M.bind ma itemsS) (unT (.nm i) (on1 fun v_one12 => (tupM [(M.pure v_one12), (M.pure (D.int 0))]))))) dictP))]) S = .ok (.int (nkL l : Nat)) S := by
  have it : itemsS (.lst (strD l)) = M.pure (strD l) := rfl
  have z2 : szOk 2 = true := by decide
  have mp := map_enc (S := S) (f := unT (.nm i) (on1 fun v_bit17 => (tupM [(M.pure v_bit17), (M.pure (D.int 0))]))) D.str (fun x => D.tup [.str x, .int 0]) l fun i _ => by
    rw [ev_unN, ev_on1, ev_tup, ev_args1, ev_pure, at_ok, ev_args1, ev_pure, at_ok, ev_args0, at_ok, at_ok, at_ok, if_pos (by exact z2)]
  have dp : dictP (.lst (l.map fun x => D.tup [.str x, .int 0])) S = .ok (mergeKD [] (l.map fun x => ((.inr x, .int 0) : Key × D))) S := by
    unfold dictP
    rw [ev_bind, asLst_lst, ev_pure, at_ok, ev_bind, pairsS]
    rfl
  refine ev_call1 (S1 := S) (a := .dic ((mergeKD [] (l.map fun x => ((.inr x, .int 0) : Key × D))).map Prod.fst) ((mergeKD [] (l.map fun x => ((.inr x, .int 0) : Key × D))).map Prod.snd)) ?_ ?_
  · rw [ev_frzD, ev_bind, ev_frz, ev_mapX, ev_bind, ha, at_ok, it, ev_pure, at_ok, if_pos (szOk_le (by rw [List.length_map]; omega)), mp, at_ok, at_ok, dp, at_ok]
  · show Res.ok (D.int ((((mergeKD [] (l.map fun x => ((.inr x, .int 0) : Key × D))).map Prod.fst).zip ((mergeKD [] (l.map fun x => ((.inr x, .int 0) : Key × D))).map Prod.snd)).length : Nat)) S = _
    rw [List.length_zip, List.length_map, List.length_map, Nat.min_self]
    rfl
/-! the first name that is there already -/
def fdup : List Str → List Str → Option Str
  | _, [] => none
  | seen, x :: xs => if x ∈ seen then some x else fdup (seen ++ [x]) xs
theorem fdup_nd : ∀ (l seen : List Str), fdup seen l = none → seen.Nodup → (seen ++ l).Nodup
  | [], seen, _, h => by rw [List.append_nil]; exact h
  | x :: l, seen, e, h => by
    rw [fdup] at e
    by_cases q : x ∈ seen
    · rw [if_pos q] at e; cases e
    · rw [if_neg q] at e
      have := fdup_nd l (seen ++ [x]) e (List.nodup_append.mpr ⟨h, by simp, fun a ha b hb e => by
        rw [List.mem_singleton.mp hb] at e
        exact q (e ▸ ha)⟩)
      rw [List.append_assoc] at this
      exact this
theorem fdup_app : ∀ (l m seen : List Str), fdup seen (l ++ m) = match fdup seen l with
    | some x => some x
    | none => fdup (seen ++ l) m
  | [], m, seen => by rw [List.nil_append, List.append_nil]; rfl
  | x :: l, m, seen => by
    rw [List.cons_append, fdup, fdup]
    by_cases q : x ∈ seen
    · rw [if_pos q, if_pos q]
    · rw [if_neg q, if_neg q, fdup_app l m, List.append_assoc]
      rfl
theorem any_mem {x : Str} {l : List Str} : (l.any fun y => y == x) = decide (x ∈ l) := by
  rw [Bool.eq_iff_iff, List.any_eq_true, decide_eq_true_eq]
  exact ⟨fun ⟨y, hy, e⟩ => by rw [← eq_of_beq e]; exact hy, fun h => ⟨x, h, by simp⟩⟩
theorem names_loopE {S : MS} {L : Type} {x : Str} : ∀ (l seen : List Str), fdup seen l = some x → seen.length + l.length ≤ 65536 → (Dl.forM (fun (v_c2 : List D) v_name3 => (ifM (tst (bin (dIn false) (M.pure v_name3) (M.pure (D.lst v_c2)))) (outM ((M.pure v_name3).bind fun v_e4 => M.raise ⟨"BadName", "name", v_e4⟩)) (M.bind (M.pure v_name3) fun v_d5 => gd (szLt (List.length v_c2)) (M.pure (.nx (v_c2 ++ [v_d5])))))) (strD l) (strD seen) : M (Fl (List D) L)) S = .err ⟨"BadName", "name", .str x⟩ S
  | [], seen, e, _ => by cases e
  | y :: l, seen, e, hl => by
    rw [List.length_cons] at hl
    rw [fdup] at e
    have t0 : (tst (bin (dIn false) (M.pure (.str y)) (M.pure (D.lst (strD seen)))) : M Bool) S = .ok (decide (y ∈ seen)) S := by
      rw [ev_tst, ev_bin, ev_pure, at_ok, ev_pure, at_ok, in_strs, ev_pure, at_ok, asB_bl, ev_pure, any_mem]
    by_cases q : y ∈ seen
    · rw [if_pos q] at e
      have e := Option.some.inj e
      subst e
      show (Dl.forM _ (D.str y :: strD l) (strD seen) : M (Fl (List D) L)) S = _
      rw [ev_for1, ev_ifM, t0, at_ok, if_pos (decide_eq_true q), ev_out]
      rfl
    · rw [if_neg q] at e
      have ih := names_loopE (S := S) (L := L) l (seen ++ [y]) e (by rw [List.length_append, List.length_singleton]; omega)
      show (Dl.forM _ (D.str y :: strD l) (strD seen) : M (Fl (List D) L)) S = _
      rw [ev_for1, ev_ifM, t0, at_ok, if_neg (by simpa using q), ev_bind, ev_pure, at_ok, ev_gd, if_pos (szLt_of' (by rw [List.length_map]; omega)), ev_pure, at_ok, foR_nx, ← ih]
      congr 2
      unfold strD
      rw [List.map_append]
      rfl
theorem names_dup {xs : List (D × Mb)} (h : Xs xs) (hl : (xs.flatMap fun x => Mb.names x.2).length ≤ 65536) {x : Str} (e : fdup [] (xs.flatMap fun x => Mb.names x.2) = some x) {S : MS} : f_checked_names (.lst (xs.map rowD)) S = .err ⟨"BadName", "name", .str x⟩ S := by
  have hk := ok_names_of 11 (xs := xs) h.lk h.mo h.ko h.dp hl
  have lp := names_loopE (S := S) (L := Empty) (xs.flatMap fun x => Mb.names x.2) [] e (by rw [List.length_nil]; omega)
  have it : ∀ l : List D, itemsS (.lst l) = M.pure l := fun l => rfl
  have l0 : (lstM []) S = .ok [] S := rfl
  have lp : (Dl.forM (fun (v_c2 : List D) v_name3 => (ifM (tst (bin (dIn false) (M.pure v_name3) (M.pure (D.lst v_c2)))) (outM ((M.pure v_name3).bind fun v_e4 => M.raise ⟨"BadName", "name", v_e4⟩)) (M.bind (M.pure v_name3) fun v_d5 => gd (szLt (List.length v_c2)) (M.pure (.nx (v_c2 ++ [v_d5])))))) (strD (xs.flatMap fun x => Mb.names x.2)) [] : M (Fl (List D) Empty)) S = _ := lp
  unfold f_checked_names
  generalize f_names_of 12 = fn at hk ⊢
  rw [ev_fin, ev_bind, l0, at_ok, ev_bind, ev_bind, ev_call, ev_args1, ev_pure, at_ok, ev_args0, at_ok, at_ok, ev_ar1, hk, ev_pure, at_ok, it, ev_pure, at_ok, ev_then, lp]
  rfl
end Lw
/-! rows with few names, drawn -/
namespace Ly
open PySem L2 Dl
/-- named members are whole -/
inductive NmB : Kd → Prop
  | int {s : Int} {g : Bool} : NmB (.int s g)
  | arr {k : Kd} {n : Int} : NmB (.arr k n)
  | lay {o : Opt} {ms : Mbs} : (∀ m ∈ ms.list, m.nm ≠ none → m.b = none) → (∀ m ∈ ms.list, NmB m.k) → NmB (.lay o ms)
def yA : Nat → Int
  | 0 => 1
  | 1 => 101
  | _ => 435
def yB : Nat → Nat
  | 0 => 1
  | 1 => 4
  | _ => 15
def yC : Nat → Nat
  | 0 => 1
  | 1 => 5
  | _ => 19
def yQ : Nat → Nat
  | 0 => 1
  | 1 => 2
  | _ => 6
def yN : Nat → Nat
  | 0 => 2
  | 1 => 3
  | _ => 5
def yR : Nat → Nat
  | 0 => 5
  | 1 => 25
  | _ => 141
def mxE : Nat → Int
  | 0 => 3
  | 1 => 4
  | _ => 6
def sB : Nat → Nat
  | 0 => 0
  | d + 1 => yR d + 1
/-- a name leads to something that is no bit field -/
theorem name_shp {h : Int} : ∀ (l : List Mb) (ps : List Int), ps.length = l.length → (∀ p ∈ ps, 0 ≤ p) → (∀ m ∈ l, MbOk m) → (∀ m ∈ l, (m.nm ≠ none → m.b = none) ∧ NmB m.k) → (∀ m ∈ l, ∀ oi mi, m.k = .lay oi mi → ∀ h x, 0 ≤ h → x ∈ m.k.names → ∃ q, 0 ≤ q ∧ (⟨[.str x], q⟩ : Shp) ∈ m.k.shp h) → 0 ≤ h → ∀ x ∈ (Mbs.of l).names, ∃ q, 0 ≤ q ∧ (⟨[.str x], q⟩ : Shp) ∈ (Mbs.of l).shp ps h
  | [], ps, _, _, _, _, _, _, x, hx => by rw [Mbs.of, Mbs.names] at hx; cases hx
  | m :: l, [], e, _, _, _, _, _, x, hx => by cases e
  | m :: l, p :: ps, e, hp, hm, hb, hi, h0, x, hx => by
    have ih := name_shp (h := h) l ps (by simpa using e) (fun q hq => hp q (List.mem_cons_of_mem _ hq)) (fun q hq => hm q (List.mem_cons_of_mem _ hq)) (fun q hq => hb q (List.mem_cons_of_mem _ hq)) (fun q hq => hi q (List.mem_cons_of_mem _ hq)) h0 x
    have hp0 := hp p List.mem_cons_self
    have hb1 := hb m List.mem_cons_self
    have hm1 := hm m List.mem_cons_self
    have hi1 := hi m List.mem_cons_self
    clear hp hm hb hi
    obtain ⟨nm, k, b⟩ := m
    rw [Mbs.of] at hx ⊢
    have tail : ∀ l1 : List Shp, x ∈ (Mbs.of l).names → ∃ q, 0 ≤ q ∧ (⟨[.str x], q⟩ : Shp) ∈ l1 ++ (Mbs.of l).shp ps h := fun l1 hh => by
      obtain ⟨q, q0, hq⟩ := ih hh
      exact ⟨q, q0, List.mem_append_right _ hq⟩
    cases nm with
    | some y =>
      have eb : b = none := hb1.1 (by simp)
      subst eb
      rw [Mbs.names] at hx
      rw [Mbs.shp]
      rcases List.mem_cons.mp hx with q | q
      · subst q
        refine ⟨h + p, by omega, List.mem_append_left _ (List.mem_map.mpr ⟨⟨[], h + p⟩, ?_, rfl⟩)⟩
        cases k with
        | int s g => rw [Kd.shp]; exact List.mem_cons_self
        | arr k n => rw [Kd.shp]; exact List.mem_cons_self
        | lay o ms => rw [Kd.shp]; exact List.mem_cons_self
      · exact tail _ q
    | none =>
      cases b with
      | some w =>
        rw [Mbs.names] at hx
        obtain ⟨q, q0, hq⟩ := ih hx
        exact ⟨q, q0, by rw [Mbs.shp]; exact hq⟩
      | none =>
        rw [Mbs.names] at hx
        rw [Mbs.shp]
        rcases List.mem_append.mp hx with q | q
        · obtain ⟨oi, mi, ek⟩ := hm1.bare rfl rfl
          have ek : k = .lay oi mi := ek
          obtain ⟨w, w0, hw⟩ := hi1 oi mi ek (h + p) x (by omega) q
          refine ⟨w, w0, List.mem_append_left _ ?_⟩
          have hw : (⟨[.str x], w⟩ : Shp) ∈ k.shp (h + p) := hw
          rw [ek, Kd.shp] at hw ⊢
          rcases List.mem_cons.mp hw with z | z
          · cases z
          · rw [List.drop_one, List.tail_cons]; exact z
        · exact tail _ q
theorem KOk.nameShp {k : Kd} (ko : KOk k) : NmB k → ∀ oi mi, k = .lay oi mi → ∀ h x, 0 ≤ h → x ∈ k.names → ∃ q, 0 ≤ q ∧ (⟨[.str x], q⟩ : Shp) ∈ k.shp h := by
  induction ko with
  | int _ => intro _ oi mi e; cases e
  | arr _ _ _ _ _ _ _ => intro _ oi mi e; cases e
  | @lay op ms hp ha hm hb hn h6 h5 h1 h2 h3 ih =>
    intro nb oi mi e h x h0 hx
    have ko : KOk (.lay op ms) := .lay hp ha hm hb hn h6 h5 h1 h2 h3
    have pos := ko.pos
    have pl := ko.psLen
    cases e
    cases nb with
    | lay nb1 nb2 =>
      have nb : ∀ m ∈ ms.list, (m.nm ≠ none → m.b = none) ∧ NmB m.k := fun m hm => ⟨nb1 m hm, nb2 m hm⟩
      rw [Kd.names] at hx
      have w := name_shp (h := h) ms.list (laid op ms.rows).ps (by rw [pl]) (fun p hp => (pos p hp).1) hb nb (fun m hm' oi mi e h x h0 hx => ih m hm' (nb m hm').2 oi mi e h x h0 hx) h0 x (by rw [of_of]; exact hx)
      rw [of_of] at w
      obtain ⟨q, q0, hq⟩ := w
      exact ⟨q, q0, by rw [Kd.shp]; exact List.mem_cons_of_mem _ hq⟩
end Ly
namespace Lw
open PySem L2 Dl Ly
def oE (u : Bool) : Opt := ⟨false, none, none, false, u⟩
def nm9 : List Str := ["a", "b", "c", "d", "e", "f", "A", "_a", "a1"]
theorem nm9_ok : ∀ x ∈ nm9, NmOk x := by
  have : nm9.all okName = true := by decide +kernel
  exact fun x hx => name_of (List.all_eq_true.mp this x hx)
structure Mok (P : PmK) (d : Nat) (x : D × Mb) : Prop where
  tp : TPk P x.1 x.2.k
  bd : Bd (yA d) (yB d) (yC d) x.2
  dp : x.2.k.depth ≤ d
  nb : x.2.nm ≠ none → x.2.b = none
  nk : NmB x.2.k
  nl : (Mb.names x.2).length ≤ yQ d
theorem Mok.mono {P Q : PmK} (h : PmK.le P Q) {d : Nat} {x : D × Mb} (m : Mok P d x) : Mok Q d x := ⟨m.tp.mono h, m.bd, m.dp, m.nb, m.nk, m.nl⟩
theorem EIn.agr {P : PmK} {cs cs' : List Cell} (h : EIn P cs) (he : ∀ a k, P a = some k → cs'[a]? = cs[a]?) : EIn P cs' := ⟨fun a k e => by
  obtain ⟨o, xs, kvs, h1, h2, h3, h4⟩ := h.at_ a k e
  exact ⟨o, xs, kvs, h1, (he a k e).trans h2, h3, h4⟩⟩
/-- all that a draw leaves as it was -/
structure Grw (P P' : PmK) (cs cs' : List Cell) : Prop where
  le : PmK.le P P'
  ein : EIn P' cs'
  kp : Kp cs.length cs cs'
  new : ∀ i, i < cs.length → P' i = P i
theorem Grw.trans {P Q R : PmK} {a b c : List Cell} (h : Grw P Q a b) (g : Grw Q R b c) : Grw P R a c :=
  ⟨h.le.trans g.le, g.ein, h.kp.trans (g.kp.le h.kp.len), fun i hi => (g.new i (Nat.lt_of_lt_of_le hi h.kp.len)).trans (h.new i hi)⟩
def PlanS (f : D → D → M D) (d : Nat) : Prop := ∀ (P : PmK) (cs : List Cell) (s : Strm) (r : Nat), EIn P cs → Bud s (yR d + 1 + r) →
  ∃ (P' : PmK) (a : Nat) (u : Bool) (xs : List (D × Mb)) (cs' : List Cell) (s' : Strm), f .strm (.int (d : Nat)) ⟨cs, s⟩ = .ok (.ptr a) ⟨cs', s'⟩ ∧ Grw P P' cs cs' ∧ P' a = some (.lay (oE u) (Mbs.of (xs.map (·.2)))) ∧ KOk (.lay (oE u) (Mbs.of (xs.map (·.2)))) ∧ (Kd.lay (oE u) (Mbs.of (xs.map (·.2)))).sz ≤ yA (d + 1) ∧ (Kd.lay (oE u) (Mbs.of (xs.map (·.2)))).cnt ≤ yB (d + 1) ∧ (Kd.lay (oE u) (Mbs.of (xs.map (·.2)))).all ≤ yC (d + 1) ∧ (Mbs.of (xs.map (·.2))).depth ≤ d ∧ NmB (.lay (oE u) (Mbs.of (xs.map (·.2)))) ∧ (Mbs.of (xs.map (·.2))).names.length ≤ yQ (d + 1) ∧ Bud s' r
def RowsS (f : D → D → D → M D) (d : Nat) : Prop := ∀ (P : PmK) (cs : List Cell) (s : Strm) (r : Nat) (free : Bool), EIn P cs → Bud s (yR d + r) →
  ∃ (P' : PmK) (xs : List (D × Mb)) (cs' : List Cell) (s' : Strm), f .strm (.int (d : Nat)) (.bl free) ⟨cs, s⟩ = .ok (.lst (xs.map rowD)) ⟨cs', s'⟩ ∧ Grw P P' cs cs' ∧ (∀ x ∈ xs, Mok P' d x) ∧ xs.length ≤ yN d ∧ (free = false → (xs.flatMap fun x => Mb.names x.2).Nodup) ∧ Bud s' r
/-- one row is drawn -/
abbrev rowE (fp : D → D → M D) (dp v_key5 v_way6 : D) : M (Fl D (List D × D)) := (ifM (andT (tst (bin dLt (M.pure v_way6) (M.pure (D.int 2)))) (tst (bin dGt (M.pure dp) (M.pure (D.int 0))))) (M.bind (tupM [(M.pure D.non), (callM (ar2 fp) [(M.pure D.strm), (bin dSub (M.pure dp) (M.pure (D.int 1)))]), (M.pure D.non)]) fun v_row8 => (M.pure (.nx v_row8))) (ifM (andT (tst (bin dEq (M.pure v_way6) (M.pure (D.int 2)))) (tst (bin dGt (M.pure dp) (M.pure (D.int 0))))) (M.bind (tupM [(M.pure v_key5), (callM (ar2 fp) [(M.pure D.strm), (bin dSub (M.pure dp) (M.pure (D.int 1)))]), (M.pure D.non)]) fun v_row9 => (M.pure (.nx v_row9))) (M.bind (ifM (tst (bin dEq (M.pure v_way6) (M.pure (D.int 3)))) (tupM [(M.pure D.non), (tupM [(M.pure (D.str "int")), (M.pure (D.int 1)), (M.pure (D.bl true))]), (M.pure (D.int 2))]) (tupM [(M.pure v_key5), (tupM [(M.pure (D.str "int")), (M.pure (D.int 1)), (M.pure (D.bl true))]), (M.pure D.non)])) fun v_row10 => (M.pure (.nx v_row10)))))
abbrev rwB (fp : D → D → M D) (dp fr : D) : List D × D → D → M (Fl (List D × D) (List D × D)) := (fun (v_c3 : List D × D) v_k4 => (M.bind (argsM [(callM (ar2 f_pick) [(M.pure D.strm), (frz (lstM [(M.pure (D.str "a")), (M.pure (D.str "b")), (M.pure (D.str "c")), (M.pure (D.str "d")), (M.pure (D.str "e")), (M.pure (D.str "f")), (M.pure (D.str "A")), (M.pure (D.str "_a")), (M.pure (D.str "a1"))]))]), (callM (ar2 f_draw) [(M.pure D.strm), (M.pure (D.int 6))])]) (on2 fun v_key5 v_way6 => (thenM (ifM (andT (tst (bin dLt (M.pure v_way6) (M.pure (D.int 2)))) (tst (bin dGt (M.pure dp) (M.pure (D.int 0))))) (M.bind (tupM [(M.pure D.non), (callM (ar2 fp) [(M.pure D.strm), (bin dSub (M.pure dp) (M.pure (D.int 1)))]), (M.pure D.non)]) fun v_row8 => (M.pure (.nx v_row8))) (ifM (andT (tst (bin dEq (M.pure v_way6) (M.pure (D.int 2)))) (tst (bin dGt (M.pure dp) (M.pure (D.int 0))))) (M.bind (tupM [(M.pure v_key5), (callM (ar2 fp) [(M.pure D.strm), (bin dSub (M.pure dp) (M.pure (D.int 1)))]), (M.pure D.non)]) fun v_row9 => (M.pure (.nx v_row9))) (M.bind (ifM (tst (bin dEq (M.pure v_way6) (M.pure (D.int 3)))) (tupM [(M.pure D.non), (tupM [(M.pure (D.str "int")), (M.pure (D.int 1)), (M.pure (D.bl true))]), (M.pure (D.int 2))]) (tupM [(M.pure v_key5), (tupM [(M.pure (D.str "int")), (M.pure (D.int 1)), (M.pure (D.bl true))]), (M.pure D.non)])) fun v_row10 => (M.pure (.nx v_row10))))) (fun (v_c7 : D) => (M.bind (callM (ar1 (f_erow_names 12)) [(M.pure v_c7)]) fun v_more11 => (thenM (ifM (orT (tst (M.pure fr)) (tst (bin dEq (callM (ar1 dLenK) [(frzD (M.bind (frz (mapX (M.bind (bin dAdd (M.pure v_c3.2) (M.pure v_more11)) itemsS) (unT (.nm 10) (on1 fun v_one12 => (tupM [(M.pure v_one12), (M.pure (D.int 0))]))))) dictP))]) (bin dAdd (callM (ar1 dLen) [(M.pure v_c3.2)]) (callM (ar1 dLen) [(M.pure v_more11)]))))) (M.bind (M.pure v_c7) fun v_d14 => gd (szLt (List.length v_c3.1)) (M.bind (bin dAdd (M.pure v_c3.2) (M.pure v_more11)) fun v_seen15 => (M.pure (.nx ((v_c3.1 ++ [v_d14]), v_seen15))))) (M.pure (.nx (v_c3.1, v_c3.2)))) (fun (v_c13 : List D × D) => (M.pure (.nx (v_c13.1, v_c13.2)))))))))))
theorem bd_int {d : Nat} {nm : Option Str} {b : Option Int} (hx : ∀ x, nm = some x → NmOk x) (hb : ∀ w, b = some w → 0 < w ∧ w ≤ 8) (hn : b = none → nm ≠ none) : Bd (yA d) (yB d) (yC d) ⟨nm, .int 1 true, b⟩ := by
  have e : 1 ≤ yA d ∧ 1 ≤ yB d ∧ 1 ≤ yC d := by
    match d with
    | 0 => decide
    | 1 => decide
    | n + 2 => exact ⟨by show (1 : Int) ≤ 435; decide, by show 1 ≤ 15; decide, by show 1 ≤ 19; decide⟩
  refine ⟨.int (.inl rfl), ⟨hx, fun w e => ?_, fun e e2 => absurd e2 (hn e)⟩, ?_, ?_, ?_⟩
  · obtain ⟨h1, h2⟩ := hb w e
    exact ⟨by omega, by show w ≤ 8 * (Kd.int 1 true).sz; rw [Kd.sz]; omega, fun h => by omega, 1, true, rfl⟩
  · show (Kd.int 1 true).sz ≤ _; rw [Kd.sz]; omega
  · show (Kd.int 1 true).cnt ≤ _; rw [Kd.cnt]; omega
  · show (Kd.int 1 true).all ≤ _; rw [Kd.all]; omega
theorem one_row {fp : D → D → M D} {d : Nat} {P : PmK} {cs : List Cell} {s : Strm} {r : Nat} {key : Str} {w : Int} (hk : NmOk key) (hd : d ≤ 2) (hp : ∀ d', d = d' + 1 → PlanS fp d') (h : EIn P cs) (b : Bud s (sB d + r)) :
    ∃ (P' : PmK) (y : D × Mb) (cs' : List Cell) (s' : Strm), rowE fp (.int (d : Nat)) (.str key) (.int w) ⟨cs, s⟩ = .ok (.nx (rowD y)) ⟨cs', s'⟩ ∧ Grw P P' cs cs' ∧ Mok P' d y ∧ Bud s' r := by
  have z3 : szOk 3 = true := by decide
  have t1 : ∀ S : MS, (andT (tst (bin dLt (M.pure (.int w)) (M.pure (D.int 2)))) (tst (bin dGt (M.pure (.int (d : Nat))) (M.pure (D.int 0)))) : M Bool) S = .ok (decide (w < 2) && decide (((d : Nat) : Int) > 0)) S := fun S => by
    have a : (tst (bin dLt (M.pure (.int w)) (M.pure (D.int 2))) : M Bool) S = .ok (decide (w < 2)) S := rfl
    have c : (tst (bin dGt (M.pure (.int (d : Nat))) (M.pure (D.int 0))) : M Bool) S = .ok (decide (((d : Nat) : Int) > 0)) S := rfl
    rw [ev_andT, a, at_ok]
    cases decide (w < 2) with
    | true => rw [if_pos rfl, c]; rfl
    | false => rfl
  have t2 : ∀ S : MS, (andT (tst (bin dEq (M.pure (.int w)) (M.pure (D.int 2)))) (tst (bin dGt (M.pure (.int (d : Nat))) (M.pure (D.int 0)))) : M Bool) S = .ok (w == 2 && decide (((d : Nat) : Int) > 0)) S := fun S => by
    have a : (tst (bin dEq (M.pure (.int w)) (M.pure (D.int 2))) : M Bool) S = .ok (w == 2) S := rfl
    have c : (tst (bin dGt (M.pure (.int (d : Nat))) (M.pure (D.int 0))) : M Bool) S = .ok (decide (((d : Nat) : Int) > 0)) S := rfl
    rw [ev_andT, a, at_ok]
    cases (w == 2) with
    | true => rw [if_pos rfl, c]; rfl
    | false => rfl
  have refl : Grw P P cs cs := ⟨PmK.le.refl P, h, Kp.refl, fun _ _ => rfl⟩
  have ein1 : yQ d ≥ 1 := by
    match d with
    | 0 => decide
    | 1 => decide
    | n + 2 => show 1 ≤ 6; decide
  -- a plan
  have sub : ∀ (nm : Option Str), (∀ x, nm = some x → NmOk x) → 0 < d → ∃ (P' : PmK) (y : D × Mb) (cs' : List Cell) (s' : Strm), (M.bind (tupM [(M.pure (nmD nm)), (callM (ar2 fp) [(M.pure D.strm), (bin dSub (M.pure (.int (d : Nat))) (M.pure (D.int 1)))]), (M.pure D.non)]) fun v_row8 => (M.pure (.nx v_row8)) : M (Fl D (List D × D))) ⟨cs, s⟩ = .ok (.nx (rowD y)) ⟨cs', s'⟩ ∧ Grw P P' cs cs' ∧ Mok P' d y ∧ Bud s' r := by
    intro nm hx d0
    obtain ⟨d', rfl⟩ : ∃ d', d = d' + 1 := ⟨d - 1, by omega⟩
    obtain ⟨P', a, u, xs, c1, s1, e1, gr, pa, ko, k1, k2, k3, k4, k5, k6, b1⟩ := hp d' rfl P cs s r h b
    have sb : dSub (.int ((d' + 1 : Nat) : Int)) (.int 1) = M.pure (.int (d' : Nat)) := by
      show M.pure (D.int (((d' + 1 : Nat) : Int) - 1)) = _
      congr 2
      omega
    refine ⟨P', (.ptr a, ⟨nm, .lay (oE u) (Mbs.of (xs.map (·.2))), none⟩), c1, s1, ?_, gr, ⟨.lay pa, ⟨ko, ⟨hx, fun w e => (nomatch e), fun _ _ => ⟨_, _, rfl⟩⟩, k1, k2, k3⟩, by show (Kd.lay _ _).depth ≤ _; rw [Kd.depth]; omega, fun _ => rfl, k5, ?_⟩, b1⟩
    · rw [ev_bind, ev_tup, ev_args1, ev_pure, at_ok, ev_args1, ev_call, ev_args1, ev_pure, at_ok, ev_args1, ev_bin, ev_pure, at_ok, ev_pure, at_ok, sb, ev_pure, at_ok, ev_args0, at_ok, at_ok, at_ok, ev_ar2, e1, at_ok, ev_args1, ev_pure, at_ok, ev_args0, at_ok, at_ok, at_ok, at_ok, if_pos (by exact z3), at_ok, ev_pure]
      rfl
    · cases nm with
      | some y => show 1 ≤ _; omega
      | none =>
        show (Kd.lay (oE u) (Mbs.of (xs.map (·.2)))).names.length ≤ _
        rw [Kd.names]
        exact k6
  unfold rowE
  rw [ev_ifM, t1, at_ok]
  by_cases q1 : (decide (w < 2) && decide (((d : Nat) : Int) > 0)) = true
  · rw [if_pos q1]
    rw [Bool.and_eq_true, decide_eq_true_eq, decide_eq_true_eq] at q1
    exact sub none (fun x e => (nomatch e)) (by omega)
  · rw [if_neg q1, ev_ifM, t2, at_ok]
    by_cases q2 : (w == 2 && decide (((d : Nat) : Int) > 0)) = true
    · rw [if_pos q2]
      rw [Bool.and_eq_true, decide_eq_true_eq] at q2
      exact sub (some key) (fun x e => by cases e; exact hk) (by omega)
    · have t3 : ∀ S : MS, (tst (bin dEq (M.pure (.int w)) (M.pure (D.int 3))) : M Bool) S = .ok (w == 3) S := fun S => rfl
      rw [if_neg q2, ev_bind, ev_ifM, t3, at_ok]
      by_cases q3 : w = 3
      · rw [if_pos (by simpa using q3)]
        refine ⟨P, (intD 1 true, ⟨none, .int 1 true, some 2⟩), cs, s, rfl, refl, ⟨.int, bd_int (fun x e => (nomatch e)) (fun w e => by cases e; decide) (fun e => (nomatch e)), by show (Kd.int 1 true).depth ≤ _; rw [Kd.depth]; omega, fun e => absurd rfl e, .int, Nat.zero_le _⟩, b.le (by omega)⟩
      · rw [if_neg (by simpa using q3)]
        refine ⟨P, (intD 1 true, ⟨some key, .int 1 true, none⟩), cs, s, rfl, refl, ⟨.int, bd_int (fun x e => by cases e; exact hk) (fun w e => (nomatch e)) (fun _ e => (nomatch e)), by show (Kd.int 1 true).depth ≤ _; rw [Kd.depth]; omega, fun _ => rfl, .int, by show 1 ≤ _; omega⟩, b.le (by omega)⟩
theorem add_strs {a b : List Str} (h : a.length + b.length ≤ 65536) : dAdd (.lst (strD a)) (.lst (strD b)) = M.pure (.lst (strD (a ++ b))) := by
  show Dl.guard _ _ = _
  unfold Dl.guard
  rw [if_pos (szOk_le (by rw [List.length_map, List.length_map]; omega))]
  unfold strD
  rw [List.map_append]
theorem len_strD {l : List Str} : dLen (.lst (strD l)) = M.pure (.int (l.length : Nat)) := by
  show M.pure (D.int ((strD l).length : Nat)) = _
  rw [List.length_map]
theorem yq_bd (d : Nat) : yQ d ≤ 6 ∧ yN d ≤ 5 := by
  match d with
  | 0 => decide
  | 1 => decide
  | n + 2 => exact ⟨Nat.le_refl _, Nat.le_refl _⟩
theorem rw_loop {fp : D → D → M D} {d : Nat} {free : Bool} {L : Type} (hd : d ≤ 2) (hp : ∀ d', d = d' + 1 → PlanS fp d') : ∀ (ks : List D) (xs : List (D × Mb)) (P : PmK) (cs : List Cell) (s : Strm) (r : Nat), xs.length + ks.length ≤ 5 → EIn P cs → (∀ x ∈ xs, Mok P d x) → (free = false → (xs.flatMap fun x => Mb.names x.2).Nodup) → (xs.flatMap fun x => Mb.names x.2).length ≤ 6 * xs.length → Bud s ((2 + sB d) * ks.length + r) →
    ∃ (P' : PmK) (ys : List (D × Mb)) (cs' : List Cell) (s' : Strm), (Dl.forM (rwB fp (.int (d : Nat)) (.bl free)) ks (xs.map rowD, .lst (strD (xs.flatMap fun x => Mb.names x.2))) : M (Fl (List D × D) L)) ⟨cs, s⟩ = .ok (.nx (ys.map rowD, .lst (strD (ys.flatMap fun x => Mb.names x.2)))) ⟨cs', s'⟩ ∧ Grw P P' cs cs' ∧ (∀ x ∈ ys, Mok P' d x) ∧ ys.length ≤ xs.length + ks.length ∧ (free = false → (ys.flatMap fun x => Mb.names x.2).Nodup) ∧ Bud s' r
  | [], xs, P, cs, s, r, _, h, hm, hn, _, b => ⟨P, xs, cs, s, rfl, ⟨PmK.le.refl P, h, Kp.refl, fun _ _ => rfl⟩, hm, Nat.le_refl _, hn, by simpa using b⟩
  | k :: ks, xs, P, cs, s, r, hl, h, hm, hn, h6, b => by
    rw [List.length_cons] at hl b
    rw [Nat.mul_succ] at b
    obtain ⟨d1, s1, e1, q1, b1⟩ := drw_pick (ds := nm9.map D.str) (by decide) (by decide) cs s (1 + sB d + ((2 + sB d) * ks.length + r)) (b.le (by omega))
    obtain ⟨key, hk, rfl⟩ := List.mem_map.mp q1
    obtain ⟨_, s2, e2, ⟨w, rfl, w0, w1⟩, b2⟩ := drw_draw (k := 6) (by decide) (by decide) cs s1 (sB d + ((2 + sB d) * ks.length + r)) (b1.le (by omega))
    obtain ⟨P1, y, c3, s3, e3, gr, my, b3⟩ := one_row (w := w) (nm9_ok key hk) hd hp h b2
    have ern := ok_ern 12 (s := s3) gr.ein my.tp my.bd.ko my.bd.mo (by have := my.dp; omega)
    have yq := yq_bd d
    have ynl := my.nl
    have ll : (xs.flatMap fun x => Mb.names x.2).length + (Mb.names y.2).length ≤ 65536 := by omega
    have ad := add_strs ll
    have hd2 : (argsM [(callM (ar2 f_pick) [(M.pure D.strm), (frz (lstM [(M.pure (D.str "a")), (M.pure (D.str "b")), (M.pure (D.str "c")), (M.pure (D.str "d")), (M.pure (D.str "e")), (M.pure (D.str "f")), (M.pure (D.str "A")), (M.pure (D.str "_a")), (M.pure (D.str "a1"))]))]), (callM (ar2 f_draw) [(M.pure D.strm), (M.pure (D.int 6))])]) ⟨cs, s⟩ = .ok [.str key, .int w] ⟨cs, s2⟩ := by
      have l9 : (frz (lstM [(M.pure (D.str "a")), (M.pure (D.str "b")), (M.pure (D.str "c")), (M.pure (D.str "d")), (M.pure (D.str "e")), (M.pure (D.str "f")), (M.pure (D.str "A")), (M.pure (D.str "_a")), (M.pure (D.str "a1"))])) ⟨cs, s⟩ = .ok (.lst (nm9.map D.str)) ⟨cs, s⟩ := rfl
      generalize f_pick = fq at e1 ⊢
      generalize f_draw = fd at e2 ⊢
      rw [ev_args1, ev_call, ev_args1, ev_pure, at_ok, ev_args1, l9, at_ok, ev_args0, at_ok, at_ok, at_ok, ev_ar2, e1, at_ok, ev_args1, ev_call, ev_args1, ev_pure, at_ok, ev_args1, ev_pure, at_ok, ev_args0, at_ok, at_ok, at_ok, ev_ar2, e2, at_ok, ev_args0, at_ok, at_ok]
    have lk : ∀ S : MS, (callM (ar1 dLenK) [(frzD (M.bind (frz (mapX (M.bind (bin dAdd (M.pure (.lst (strD (xs.flatMap fun x => Mb.names x.2)))) (M.pure (.lst (strD (Mb.names y.2))))) itemsS) (unT (.nm 10) (on1 fun v_one12 => (tupM [(M.pure v_one12), (M.pure (D.int 0))]))))) dictP))]) S = .ok (.int (nkL ((xs.flatMap fun x => Mb.names x.2) ++ Mb.names y.2) : Nat)) S := fun S =>
      len_strs (by rw [ev_bin, ev_pure, at_ok, ev_pure, at_ok, ad]; rfl) (by rw [List.length_append]; exact ll)
    have tt : ∀ S : MS, (orT (tst (M.pure (.bl free))) (tst (bin dEq (callM (ar1 dLenK) [(frzD (M.bind (frz (mapX (M.bind (bin dAdd (M.pure (.lst (strD (xs.flatMap fun x => Mb.names x.2)))) (M.pure (.lst (strD (Mb.names y.2))))) itemsS) (unT (.nm 10) (on1 fun v_one12 => (tupM [(M.pure v_one12), (M.pure (D.int 0))]))))) dictP))]) (bin dAdd (callM (ar1 dLen) [(M.pure (.lst (strD (xs.flatMap fun x => Mb.names x.2))))]) (callM (ar1 dLen) [(M.pure (.lst (strD (Mb.names y.2))))])))) : M Bool) S = .ok (free || decide (nkL ((xs.flatMap fun x => Mb.names x.2) ++ Mb.names y.2) = ((xs.flatMap fun x => Mb.names x.2) ++ Mb.names y.2).length)) S := fun S => by
      have tf : (tst (M.pure (.bl free)) : M Bool) S = .ok free S := rfl
      rw [ev_orT, tf, at_ok]
      cases free with
      | true => rfl
      | false =>
        rw [if_neg (by decide), ev_tst, ev_bin, lk, at_ok, ev_bin, ev_call, ev_args1, ev_pure, at_ok, ev_args0, at_ok, at_ok, ev_ar1, len_strD, ev_pure, at_ok, ev_call, ev_args1, ev_pure, at_ok, ev_args0, at_ok, at_ok, ev_ar1, len_strD, ev_pure, at_ok]
        show Res.ok ((((nkL ((xs.flatMap fun x => Mb.names x.2) ++ Mb.names y.2) : Nat) : Int) == (((xs.flatMap fun x => Mb.names x.2).length : Nat) : Int) + ((Mb.names y.2).length : Nat))) S = _
        congr 1
        rw [Bool.false_or, List.length_append, Bool.eq_iff_iff, beq_iff_eq, decide_eq_true_eq]
        omega
    by_cases q : (free || decide (nkL ((xs.flatMap fun x => Mb.names x.2) ++ Mb.names y.2) = ((xs.flatMap fun x => Mb.names x.2) ++ Mb.names y.2).length)) = true
    · have fm : ((xs ++ [y]).flatMap fun x => Mb.names x.2) = (xs.flatMap fun x => Mb.names x.2) ++ Mb.names y.2 := by
        rw [List.flatMap_append, List.flatMap_cons, List.flatMap_nil, List.append_nil]
      obtain ⟨P', ys, cs', s', e4, g4, m4, l4, n4, b4⟩ := rw_loop (free := free) (L := L) hd hp ks (xs ++ [y]) P1 c3 s3 r (by rw [List.length_append, List.length_singleton]; omega) gr.ein (fun x hx => by
        rcases List.mem_append.mp hx with q | q
        · exact (hm x q).mono gr.le
        · rw [List.mem_singleton.mp q]; exact my) (fun hf => by
        rw [fm]
        subst hf
        exact nkL_nd (by simpa using q)) (by rw [fm, List.length_append, List.length_append, List.length_singleton]; omega) b3
      refine ⟨P', ys, cs', s', ?_, gr.trans g4, m4, by rw [List.length_append, List.length_singleton] at l4; rw [List.length_cons]; omega, n4, b4⟩
      have st : rwB fp (.int (d : Nat)) (.bl free) (xs.map rowD, .lst (strD (xs.flatMap fun x => Mb.names x.2))) k ⟨cs, s⟩ = .ok (.nx ((xs ++ [y]).map rowD, .lst (strD ((xs ++ [y]).flatMap fun x => Mb.names x.2)))) ⟨c3, s3⟩ := by
        unfold rowE at e3
        unfold rwB
        generalize f_erow_names 12 = fe at ern ⊢
        dsimp only
        rw [ev_bind, hd2, at_ok, ev_on2, ev_then, e3, at_ok, thR_nx, ev_bind, ev_call, ev_args1, ev_pure, at_ok, ev_args0, at_ok, at_ok, ev_ar1, ern, at_ok, ev_then, ev_ifM, tt, at_ok, if_pos q, ev_bind, ev_pure, at_ok, ev_gd, if_pos (szLt_of' (by rw [List.length_map]; omega)), ev_bind, ev_bin, ev_pure, at_ok, ev_pure, at_ok, ad, ev_pure, at_ok, ev_pure, at_ok, thR_nx, ev_pure, fm, List.map_append]
        rfl
      rw [ev_for1, st, at_ok, foR_nx, e4]
    · obtain ⟨P', ys, cs', s', e4, g4, m4, l4, n4, b4⟩ := rw_loop (free := free) (L := L) hd hp ks xs P1 c3 s3 r (by omega) gr.ein (fun x hx => (hm x hx).mono gr.le) hn h6 b3
      refine ⟨P', ys, cs', s', ?_, gr.trans g4, m4, by rw [List.length_cons]; omega, n4, b4⟩
      have st : rwB fp (.int (d : Nat)) (.bl free) (xs.map rowD, .lst (strD (xs.flatMap fun x => Mb.names x.2))) k ⟨cs, s⟩ = .ok (.nx (xs.map rowD, .lst (strD (xs.flatMap fun x => Mb.names x.2)))) ⟨c3, s3⟩ := by
        unfold rowE at e3
        unfold rwB
        generalize f_erow_names 12 = fe at ern ⊢
        dsimp only
        rw [ev_bind, hd2, at_ok, ev_on2, ev_then, e3, at_ok, thR_nx, ev_bind, ev_call, ev_args1, ev_pure, at_ok, ev_args0, at_ok, at_ok, ev_ar1, ern, at_ok, ev_then, ev_ifM, tt, at_ok, if_neg q, ev_pure, at_ok, thR_nx, ev_pure]
      rw [ev_for1, st, at_ok, foR_nx, e4]
theorem ok_rows {n d : Nat} (hd : d ≤ 2) (hp : ∀ d', d = d' + 1 → PlanS (f_enamed_plan n) d') : RowsS (f_enamed_rows (n + 1)) d := by
  intro P cs s r free h b
  have z3 : szOk 3 = true := by decide
  obtain ⟨hr, hN, hI⟩ : yR d = 1 + (2 + sB d) * yN d ∧ ((yN d : Nat) : Int) + 1 = mxE d ∧ (∀ S : MS, (bin dItem (frz (lstM [(M.pure (D.int 3)), (M.pure (D.int 4)), (M.pure (D.int 6))])) (M.pure (.int (d : Nat)))) S = .ok (.int (mxE d)) S) := by
    have : d = 0 ∨ d = 1 ∨ d = 2 := by omega
    rcases this with q | q | q <;> subst q <;> exact ⟨rfl, rfl, fun S => rfl⟩
  rw [hr] at b
  generalize mxE d = mx at hN hI
  have yq := yq_bd d
  obtain ⟨_, s1, e1, ⟨m, rfl, m0, m1⟩, b1⟩ := drw_draw (k := mx) (by omega) (by omega) cs s ((2 + sB d) * yN d + r) (b.le (by omega))
  have kl : ((List.range m.toNat).map fun (i : Nat) => D.int i).length = m.toNat := by rw [List.length_map, List.length_range]
  have bu : (2 + sB d) * m.toNat ≤ (2 + sB d) * yN d := Nat.mul_le_mul_left _ (by omega)
  obtain ⟨P', ys, c2, s2, e2, gr, hm, l2, n2, b2⟩ := rw_loop (free := free) (L := Empty) hd hp ((List.range m.toNat).map fun (i : Nat) => D.int i) [] P cs s1 r (by rw [kl]; show 0 + _ ≤ _; omega) h (fun x h => (nomatch h)) (fun _ => List.nodup_nil) (Nat.zero_le _) (b1.le (by rw [kl]; omega))
  refine ⟨P', ys, c2, s2, ?_, gr, hm, by rw [kl, List.length_nil] at l2; omega, n2, b2⟩
  have l0 : ∀ S : MS, (lstM []) S = .ok [] S := fun S => rfl
  have l1 : ∀ S : MS, (frz (lstM [])) S = .ok (.lst []) S := fun S => rfl
  have rg : (M.bind (callM (ar2 f_draw) [(M.pure D.strm), (bin dItem (frz (lstM [(M.pure (D.int 3)), (M.pure (D.int 4)), (M.pure (D.int 6))])) (M.pure (.int (d : Nat))))]) rng1) ⟨cs, s⟩ = .ok ((List.range m.toNat).map fun (i : Nat) => D.int i) ⟨cs, s1⟩ := by
    generalize f_draw = fd at e1 ⊢
    rw [ev_bind, ev_call, ev_args1, ev_pure, at_ok, ev_args1, hI, at_ok, ev_args0, at_ok, at_ok, at_ok, ev_ar2, e1, at_ok, ok_rng1 m0 (by omega)]
    rfl
  have e2 : (Dl.forM (rwB (f_enamed_plan n) (.int (d : Nat)) (.bl free)) ((List.range m.toNat).map fun (i : Nat) => D.int i) ([], .lst []) : M (Fl (List D × D) Empty)) ⟨cs, s1⟩ = _ := e2
  unfold rwB at e2
  rw [f_enamed_rows]
  generalize f_enamed_plan n = fp at e2 ⊢
  rw [ev_fin, ev_bind, l0, at_ok, ev_bind, l1, at_ok, ev_bind, rg, at_ok, ev_then, e2]
  rfl
theorem ok_eplainB {u : Bool} {cs : List Cell} {s : Strm} : f_eplainB (.bl u) ⟨cs, s⟩ = .ok (.ptr cs.length) ⟨cs ++ [.dic [(.inr "is_union", .bl u), (.inr "convention", .str "sysv"), (.inr "pack", .non), (.inr "align", .non), (.inr "ends", .str "little")]], s⟩ := rfl
theorem put_rowsE {u : Bool} {rs : D} : putKD [(.inr "is_union", .bl u), (.inr "convention", .str "sysv"), (.inr "pack", .non), (.inr "align", .non), (.inr "ends", .str "little")] (.inr "rows") rs = declE (oE u) rs := rfl
/-- bounds of a layout of such rows -/
theorem lay_bdE {P : PmK} {d : Nat} {xs : List (D × Mb)} {u : Bool} (hm : ∀ x ∈ xs, Mok P d x) (hl : xs.length ≤ yN d) (hn : (xs.flatMap fun x => Mb.names x.2).Nodup) : KOk (.lay (oE u) (Mbs.of (xs.map (·.2)))) ∧ (Kd.lay (oE u) (Mbs.of (xs.map (·.2)))).sz ≤ (yA d + 33) * yN d + 33 ∧ (Kd.lay (oE u) (Mbs.of (xs.map (·.2)))).cnt ≤ (yB d + 1) * yN d ∧ (Kd.lay (oE u) (Mbs.of (xs.map (·.2)))).all ≤ (yC d + 1) * yN d + 1 ∧ (Mbs.of (xs.map (·.2))).depth ≤ d ∧ NmB (.lay (oE u) (Mbs.of (xs.map (·.2)))) ∧ (Mbs.of (xs.map (·.2))).names.length ≤ yQ d * yN d := by
  have en : (Mbs.of (xs.map (·.2))).names = xs.flatMap fun x => Mb.names x.2 := by rw [names_of_list, List.flatMap_map]
  have nl : ∀ l : List (D × Mb), (∀ x ∈ l, Mok P d x) → (l.flatMap fun x => Mb.names x.2).length ≤ yQ d * l.length := fun l => by
    induction l with
    | nil => intro _; simp
    | cons x l ih =>
      intro h
      have := ih fun y hy => h y (List.mem_cons_of_mem _ hy)
      have := (h x List.mem_cons_self).nl
      rw [List.flatMap_cons, List.length_append, List.length_cons, Nat.mul_succ]
      omega
  have n1 := nl xs hm
  have n2 : yQ d * xs.length ≤ yQ d * yN d := Nat.mul_le_mul_left _ hl
  have dpl : ∀ l : List (D × Mb), (∀ x ∈ l, Mok P d x) → (Mbs.of (l.map (·.2))).depth ≤ d := fun l => by
    induction l with
    | nil => intro _; show Mbs.depth .nil ≤ _; rw [Mbs.depth]; omega
    | cons x l ih =>
      intro h
      have := ih fun y hy => h y (List.mem_cons_of_mem _ hy)
      have := (h x List.mem_cons_self).dp
      rw [List.map_cons]
      obtain ⟨dd, nm, k, b⟩ := x
      have : k.depth ≤ d := this
      show (Mbs.cons nm k b _).depth ≤ d
      rw [Mbs.depth]
      omega
  have cst : 0 ≤ yA d ∧ (yA d + 33) * yN d + 33 ≤ 65536 ∧ (yB d + 1) * yN d ≤ 65536 ∧ (yC d + 1) * yN d + 1 ≤ 65536 ∧ yN d ≤ 4096 ∧ yQ d * yN d ≤ 65536 := by
    match d with
    | 0 => decide
    | 1 => decide
    | m + 2 =>
      show (0 : Int) ≤ 435 ∧ ((435 : Int) + 33) * ((5 : Nat) : Int) + 33 ≤ 65536 ∧ (15 + 1) * 5 ≤ 65536 ∧ (19 + 1) * 5 + 1 ≤ 65536 ∧ 5 ≤ 4096 ∧ 6 * 5 ≤ 65536
      decide
  obtain ⟨c1, c2, c3, c4, c5, c6⟩ := cst
  obtain ⟨m1, m2, m3, m4⟩ := many_ok (o := oE u) (A := yA d) (B := yB d) (C := yC d) (N := yN d) (l := xs.map (·.2)) (fun x e => (nomatch e)) (fun x e => (nomatch e)) (fun m hm' => by
    obtain ⟨y, hy, rfl⟩ := List.mem_map.mp hm'
    exact (hm y hy).bd) (by rw [List.length_map]; exact hl) (by rw [en]; exact hn) (by rw [en]; omega) c1 c2 c3 c4 c5
  refine ⟨m1, m2, m3, m4, dpl xs hm, .lay (fun m hm' => ?_) (fun m hm' => ?_), by rw [en]; omega⟩
  · rw [of_list] at hm'
    obtain ⟨y, hy, rfl⟩ := List.mem_map.mp hm'
    exact (hm y hy).nb
  · rw [of_list] at hm'
    obtain ⟨y, hy, rfl⟩ := List.mem_map.mp hm'
    exact (hm y hy).nk
theorem ok_planE {n d : Nat} (hd : d ≤ 1) (hr : RowsS (f_enamed_rows n) d) : PlanS (f_enamed_plan (n + 1)) d := by
  intro P cs s r h b
  obtain ⟨_, s1, e1, ⟨i, rfl, i0, i1⟩, b1⟩ := drw_draw (k := 3) (by decide) (by decide) cs s (yR d + r) (b.le (by omega))
  let c0 : Cell := .dic [(.inr "is_union", .bl (i == 0)), (.inr "convention", .str "sysv"), (.inr "pack", .non), (.inr "align", .non), (.inr "ends", .str "little")]
  obtain ⟨P1, xs, c2, s2, e2, gr, hm, hl, hn, b2⟩ := hr P (cs ++ [c0]) s1 r false (h.agr fun a k e => by
    obtain ⟨o, ys, kvs, h1, h2, h3, h4⟩ := h.at_ a k e
    exact List.getElem?_append_left (List.getElem?_eq_some_iff.mp h2).1) b1
  obtain ⟨ko, k1, k2, k3, k4, k5, k6⟩ := lay_bdE (u := i == 0) hm hl (hn rfl)
  have dd : d = 0 ∨ d = 1 := by omega
  have bnd : (yA d + 33) * yN d + 33 = yA (d + 1) ∧ (yB d + 1) * yN d = yB (d + 1) ∧ (yC d + 1) * yN d + 1 = yC (d + 1) ∧ yQ d * yN d = yQ (d + 1) := by
    rcases dd with q | q <;> subst q <;> decide
  have cl : (cs ++ [c0]).length = cs.length + 1 := by simp
  have lt : cs.length < c2.length := by have := gr.kp.len; omega
  have pn : P1 cs.length = none := by
    have a := gr.new cs.length (by omega)
    rw [a]
    cases e : P cs.length with
    | none => rfl
    | some k =>
      obtain ⟨o, ys, kvs, h1, h2, h3, h4⟩ := h.at_ _ _ e
      exact absurd (List.getElem?_eq_some_iff.mp h2).1 (Nat.lt_irrefl _)
  have cc : c2[cs.length]? = some c0 := by
    rw [gr.kp.kept cs.length (by omega), List.getElem?_append_right (Nat.le_refl _), Nat.sub_self]
    rfl
  let k := Kd.lay (oE (i == 0)) (Mbs.of (xs.map (·.2)))
  let P2 : PmK := fun a => if a = cs.length then some k else P1 a
  have le2 : PmK.le P1 P2 := fun a k' e => by
    show (if a = cs.length then some k else P1 a) = some k'
    by_cases q : a = cs.length
    · rw [q, pn] at e; cases e
    · rw [if_neg q]; exact e
  have ein2 : EIn P2 (c2.set cs.length (.dic (declE (oE (i == 0)) (.lst (xs.map rowD))))) := ⟨fun a k' e => by
    have e : (if a = cs.length then some k else P1 a) = some k' := e
    by_cases q : a = cs.length
    · rw [if_pos q] at e
      cases e
      subst q
      exact ⟨_, xs, _, rfl, List.getElem?_set_self lt, .inl rfl, fun x hx => (hm x hx).tp.mono le2⟩
    · rw [if_neg q] at e
      obtain ⟨o, ys, kvs, h1, h2, h3, h4⟩ := gr.ein.at_ a k' e
      exact ⟨o, ys, kvs, h1, (List.getElem?_set_ne (fun z => q z.symm)).trans h2, h3, fun x hx => (h4 x hx).mono le2⟩⟩
  refine ⟨P2, cs.length, i == 0, xs, c2.set cs.length (.dic (declE (oE (i == 0)) (.lst (xs.map rowD)))), s2, ?_, ⟨gr.le.trans le2, ein2, ⟨by rw [List.length_set]; omega, fun j hj => ?_⟩, fun j hj => ?_⟩, if_pos rfl, ko, by omega, by omega, by omega, k4, k5, by omega, b2⟩
  · have eq : (bin dEq (callM (ar2 f_draw) [(M.pure D.strm), (M.pure (D.int 3))]) (M.pure (D.int 0))) ⟨cs, s⟩ = .ok (.bl (i == 0)) ⟨cs, s1⟩ := by
      rw [ev_bin, drw_cV e1, at_ok]
      rfl
    have pl := ok_eplainB (u := i == 0) (cs := cs) (s := s1)
    have sk := c_setK (s := s2) (x := "rows") (v := .lst (xs.map rowD)) cc (by show (5 : Nat) < _; decide)
    rw [put_rowsE] at sk
    rw [f_enamed_plan]
    generalize f_enamed_rows n = fr at e2 ⊢
    generalize f_eplainB = fq at pl ⊢
    rw [ev_fin, ev_bind, ev_call, ev_args1, eq, at_ok, ev_args0, at_ok, at_ok, ev_ar1, pl, at_ok, ev_bind, ev_call, ev_args1, ev_pure, at_ok, ev_args1, ev_pure, at_ok, ev_args1, ev_pure, at_ok, ev_args0, at_ok, at_ok, at_ok, at_ok, ev_ar3, e2, at_ok, ev_bind, ev_pure, at_ok, ev_bind, ev_pure, at_ok, ev_bind, sk, at_ok, ev_ret, ev_pure, at_ok]
    rfl
  · rw [List.getElem?_set_ne (by omega), gr.kp.kept j (by omega), List.getElem?_append_left hj]
  · show (if j = cs.length then some k else P1 j) = P j
    rw [if_neg (by omega), gr.new j (by omega)]
theorem rows_2 : RowsS (f_enamed_rows 12) 2 :=
  ok_rows (by decide) fun d' e => by
    have : d' = 1 := by omega
    subst this
    exact ok_planE (by decide) (ok_rows (by decide) fun d' e => by
      have : d' = 0 := by omega
      subst this
      exact ok_planE (by decide) (ok_rows (by decide) fun d' e => by omega))
end Lw
/-! the law of names refused -/
namespace Lw
open PySem L2 Dl Ly
def TurnC (n : Nat) (t : Unit → D → M (Fl Unit Unit)) : Prop := ∀ (v : D) (cs : List Cell) (s : Strm) (r : Nat), Bud s (n + r) → ∃ cs' s', (t () v ⟨cs, s⟩ = .ok (.nx ()) ⟨cs', s'⟩ ∨ t () v ⟨cs, s⟩ = .ok (.cnt ()) ⟨cs', s'⟩) ∧ Bud s' r
theorem turnsC {L : Type} {n : Nat} {t : Unit → D → M (Fl Unit Unit)} (h : TurnC n t) : ∀ (ds : List D) (cs : List Cell) (s : Strm) (r : Nat), Bud s (n * ds.length + r) → ∃ cs' s', (Dl.forM t ds () : M (Fl Unit L)) ⟨cs, s⟩ = .ok (.nx ()) ⟨cs', s'⟩ ∧ Bud s' r
  | [], cs, s, r, b => ⟨cs, s, rfl, by simpa using b⟩
  | d :: ds, cs, s, r, b => by
    rw [List.length_cons, Nat.mul_succ] at b
    obtain ⟨cs1, s1, e1, b1⟩ := h d cs s (n * ds.length + r) (b.le (by omega))
    obtain ⟨cs2, s2, e, b2⟩ := turnsC (L := L) h ds cs1 s1 r b1
    refine ⟨cs2, s2, ?_, b2⟩
    rcases e1 with e1 | e1
    · rw [ev_for1, e1, at_ok, foR_nx, e]
    · rw [ev_for1, e1, at_ok, foR_cnt, e]
theorem law_loopC {n N m : Nat} {t : Unit → D → M (Fl Unit Unit)} {rest : M (Fl Unit Empty)} (h : TurnC n t) (hr : ∀ cs s, Bud s m → ∃ S', rest ⟨cs, s⟩ = .ok (.ret (.bl true)) S') (hN : n * N + m ≤ 8388607) (hN2 : N ≤ 1048576) (ns : List Int) :
    ∃ S', finM (M.bind (M.bind (M.pure (D.int N)) rng1) fun ds => thenM (Dl.forM t ds ()) fun (_ : Unit) => rest) (S0 ns) = .ok (.bl true) S' := by
  obtain ⟨cs, s, e, b⟩ := turnsC (L := Empty) h ((List.range N).map fun (i : Nat) => D.int i) (S0 ns).cells (S0 ns).st m ((Bud.start ns).le (by simpa using hN))
  obtain ⟨S', e2⟩ := hr cs s b
  refine ⟨S', ?_⟩
  have e : (Dl.forM t ((List.range N).map fun (i : Nat) => D.int i) () : M (Fl Unit Empty)) (S0 ns) = .ok (.nx ()) ⟨cs, s⟩ := e
  have t0 : (M.bind (M.pure (D.int N)) rng1) (S0 ns) = .ok ((List.range N).map fun (i : Nat) => D.int i) (S0 ns) := by
    rw [ev_bind, ev_pure, at_ok, ok_rng1 (by omega) (by omega)]
    rfl
  rw [ev_fin, ev_bind, t0, at_ok, ev_then, e, at_ok, thR_nx, e2]
  rfl
/-! the first name that is there already, by the law -/
abbrev inE : D × D → D → M (Fl (D × D) (D × D)) := (fun (v_c8 : D × D) v_key9 => (M.bind (ifM (borT v_c8.1 (fun v_names11 => (andT (tst (una dIsN (M.pure v_c8.2))) (tst (bin (dIn false) (M.pure v_key9) (M.pure v_names11)))))) (M.pure v_key9) (M.pure v_c8.2)) fun v_due10 => (M.bind (appM (M.pure v_c8.1) (M.pure v_key9)) fun _ => (M.pure (.nx (v_c8.1, v_due10))))))
abbrev outE : D × D → D → M (Fl (D × D) (D × D)) := (fun (v_c6 : D × D) v_row7 => (M.bind (M.bind (callM (ar1 (f_erow_names 12)) [(M.pure v_row7)]) itemsS) fun v_ds12 => thenM (forM (fun (v_c8 : D × D) v_key9 => (M.bind (ifM (borT v_c8.1 (fun v_names11 => (andT (tst (una dIsN (M.pure v_c8.2))) (tst (bin (dIn false) (M.pure v_key9) (M.pure v_names11)))))) (M.pure v_key9) (M.pure v_c8.2)) fun v_due10 => (M.bind (appM (M.pure v_c8.1) (M.pure v_key9)) fun _ => (M.pure (.nx (v_c8.1, v_due10)))))) v_ds12 (v_c6.1, v_c6.2)) (fun (v_c8 : D × D) => (M.pure (.nx (v_c8.1, v_c8.2))))))
def orS : Option Str → Option Str → Option Str
  | some x, _ => some x
  | none, y => y
theorem set_same {cs : List Cell} {p : Nat} {c : Cell} (h : cs[p]? = some c) : cs.set p c = cs := by
  obtain ⟨hl, hg⟩ := List.getElem?_eq_some_iff.mp h
  rw [← hg]
  exact List.set_getElem_self hl
theorem in_step {p : Nat} {cs : List Cell} {s : Strm} {seen : List Str} {due : Option Str} {x : Str} (hc : cs[p]? = some (.lst (strD seen))) (hl : seen.length ≤ 65536) :
    inE (.ptr p, nmD due) (.str x) ⟨cs, s⟩ = .ok (.nx (.ptr p, nmD (if due = none ∧ x ∈ seen then some x else due))) ⟨cs.set p (.lst (strD (seen ++ [x]))), s⟩ := by
  have vw : viewD ⟨cs, s⟩ 64 (.ptr p) = .lst (strD seen) := by
    rw [view_ptrL (show (⟨cs, s⟩ : MS).cells[p]? = some (.lst (strD seen)) from hc)]
    unfold strD
    rw [List.map_map]
    congr 1
  have tt : ∀ S : MS, (andT (tst (una dIsN (M.pure (nmD due)))) (tst (bin (dIn false) (M.pure (.str x)) (M.pure (.lst (strD seen))))) : M Bool) S = .ok (decide (due = none ∧ x ∈ seen)) S := fun S => by
    cases due with
    | some y =>
      have t0 : (tst (una dIsN (M.pure (nmD (some y)))) : M Bool) S = .ok false S := rfl
      rw [ev_andT, t0, at_ok, if_neg (by decide)]
      rfl
    | none =>
      have t0 : (tst (una dIsN (M.pure (nmD none))) : M Bool) S = .ok true S := rfl
      rw [ev_andT, t0, at_ok, if_pos rfl, ev_tst, ev_bin, ev_pure, at_ok, ev_pure, at_ok, in_strs, ev_pure, at_ok, asB_bl, ev_pure, any_mem]
      congr 1
      simp
  have bt : (borT (.ptr p) (fun v_names11 => (andT (tst (una dIsN (M.pure (nmD due)))) (tst (bin (dIn false) (M.pure (.str x)) (M.pure v_names11)))))) ⟨cs, s⟩ = .ok (decide (due = none ∧ x ∈ seen)) ⟨cs, s⟩ := by
    unfold borT
    rw [vw]
    dsimp only
    rw [tt]
    rfl
  have ap : appM (M.pure (.ptr p)) (M.pure (.str x)) ⟨cs, s⟩ = .ok .non ⟨cs.set p (.lst (strD seen ++ [.str x])), s⟩ := c_app rfl hc rfl hc (by rw [List.length_map]; omega)
  have e : strD seen ++ [D.str x] = strD (seen ++ [x]) := by
    unfold strD
    rw [List.map_append]
    rfl
  rw [e] at ap
  unfold inE
  dsimp only
  rw [ev_bind, ev_ifM, bt, at_ok]
  by_cases q : due = none ∧ x ∈ seen
  · rw [if_pos (decide_eq_true q), if_pos q, ev_pure, at_ok, ev_bind, ap, at_ok, ev_pure]
    rfl
  · rw [if_neg (by simpa using q), if_neg q, ev_pure, at_ok, ev_bind, ap, at_ok, ev_pure]
theorem in_loop {p : Nat} {s : Strm} {L : Type} : ∀ (l seen : List Str) (due : Option Str) (cs : List Cell), cs[p]? = some (.lst (strD seen)) → seen.length + l.length ≤ 65536 →
    (Dl.forM inE (strD l) (.ptr p, nmD due) : M (Fl (D × D) L)) ⟨cs, s⟩ = .ok (.nx (.ptr p, nmD (orS due (fdup seen l)))) ⟨cs.set p (.lst (strD (seen ++ l))), s⟩
  | [], seen, due, cs, hc, _ => by
    rw [List.append_nil, set_same hc, fdup]
    cases due <;> rfl
  | x :: l, seen, due, cs, hc, hl => by
    rw [List.length_cons] at hl
    have st := in_step (s := s) (due := due) (x := x) hc (by omega)
    have ih := in_loop (s := s) (L := L) l (seen ++ [x]) (if due = none ∧ x ∈ seen then some x else due) (cs.set p (.lst (strD (seen ++ [x])))) (List.getElem?_set_self (List.getElem?_eq_some_iff.mp hc).1) (by rw [List.length_append, List.length_singleton]; omega)
    show (Dl.forM inE (D.str x :: strD l) (.ptr p, nmD due) : M (Fl (D × D) L)) ⟨cs, s⟩ = _
    rw [ev_for1, st, at_ok, foR_nx, ih, List.set_set, List.append_assoc]
    have e : orS (if due = none ∧ x ∈ seen then some x else due) (fdup (seen ++ [x]) l) = orS due (fdup seen (x :: l)) := by
      rw [fdup]
      cases due with
      | some y => rw [if_neg (fun h => nomatch h.1)]; rfl
      | none =>
        by_cases q : x ∈ seen
        · rw [if_pos ⟨rfl, q⟩, if_pos q]; rfl
        · rw [if_neg (fun h => q h.2), if_neg q]
    rw [e]
    rfl
theorem out_loop {p : Nat} {s : Strm} {P : PmK} {L : Type} (hp : ∀ a k, P a = some k → a ≠ p) : ∀ (xs : List (D × Mb)) (seen : List Str) (due : Option Str) (cs : List Cell), EIn P cs → cs[p]? = some (.lst (strD seen)) → (∀ x ∈ xs, Mok P 2 x) → seen.length + 6 * xs.length ≤ 65536 →
    (Dl.forM outE (xs.map rowD) (.ptr p, nmD due) : M (Fl (D × D) L)) ⟨cs, s⟩ = .ok (.nx (.ptr p, nmD (orS due (fdup seen (xs.flatMap fun x => Mb.names x.2))))) ⟨cs.set p (.lst (strD (seen ++ xs.flatMap fun x => Mb.names x.2))), s⟩
  | [], seen, due, cs, _, hc, _, _ => by
    rw [List.flatMap_nil, List.append_nil, set_same hc, fdup]
    cases due <;> rfl
  | x :: xs, seen, due, cs, h, hc, hm, hl => by
    rw [List.length_cons] at hl
    have mx := hm x List.mem_cons_self
    have nl : (Mb.names x.2).length ≤ 6 := mx.nl
    have ern := ok_ern 12 (s := s) h mx.tp mx.bd.ko mx.bd.mo (by have := mx.dp; omega)
    have il := in_loop (s := s) (L := D × D) (Mb.names x.2) seen due cs hc (by omega)
    have ih := out_loop (s := s) (L := L) hp xs (seen ++ Mb.names x.2) (orS due (fdup seen (Mb.names x.2))) (cs.set p (.lst (strD (seen ++ Mb.names x.2)))) (h.agr fun a k e => List.getElem?_set_ne (fun z => hp a k e z.symm)) (List.getElem?_set_self (List.getElem?_eq_some_iff.mp hc).1) (fun y hy => hm y (List.mem_cons_of_mem _ hy)) (by rw [List.length_append]; omega)
    have st : outE (.ptr p, nmD due) (rowD x) ⟨cs, s⟩ = .ok (.nx (.ptr p, nmD (orS due (fdup seen (Mb.names x.2))))) ⟨cs.set p (.lst (strD (seen ++ Mb.names x.2))), s⟩ := by
      unfold inE at il
      unfold outE
      generalize f_erow_names 12 = fe at ern ⊢
      dsimp only
      have it : (M.bind (callM (ar1 fe) [(M.pure (rowD x))]) itemsS) ⟨cs, s⟩ = .ok (strD (Mb.names x.2)) ⟨cs, s⟩ := by
        rw [ev_bind, ev_call, ev_args1, ev_pure, at_ok, ev_args0, at_ok, at_ok, ev_ar1, ern, at_ok]
        rfl
      rw [ev_bind, it, at_ok, ev_then, il, at_ok, thR_nx, ev_pure]
    rw [List.map_cons, ev_for1, st, at_ok, foR_nx, ih, List.set_set, List.flatMap_cons, List.append_assoc]
    have e : orS (orS due (fdup seen (Mb.names x.2))) (fdup (seen ++ Mb.names x.2) (xs.flatMap fun x => Mb.names x.2)) = orS due (fdup seen (Mb.names x.2 ++ xs.flatMap fun x => Mb.names x.2)) := by
      rw [fdup_app]
      cases due with
      | some y => rfl
      | none => cases fdup seen (Mb.names x.2) <;> rfl
    rw [e]
/-! the declaration tried -/
theorem edeclO {cs : List Cell} {s : Strm} {d mem : D} {o : Opt} {r : Res D} (dk : DO cs d o) (e : (if o.union = true then f_union else f_struct) mem (.str (cvS o.msvc)) (optD o.pack) (optD o.align) (.str (enS o.big)) ⟨cs, s⟩ = r) : f_edeclared mem d ⟨cs, s⟩ = r := by
  unfold f_edeclared
  generalize f_union = fu at e ⊢
  generalize f_struct = fs at e ⊢
  have g1 : (bin dGetK (M.pure d) (M.pure (D.str "is_union"))) ⟨cs, s⟩ = .ok (.bl o.union) ⟨cs, s⟩ := by rw [ev_bin, ev_pure, at_ok, ev_pure, at_ok, dk.un]
  have g2 : (bin dGetK (M.pure d) (M.pure (D.str "convention"))) ⟨cs, s⟩ = .ok (.str (cvS o.msvc)) ⟨cs, s⟩ := by rw [ev_bin, ev_pure, at_ok, ev_pure, at_ok, dk.cv]
  have g3 : (bin dGetK (M.pure d) (M.pure (D.str "pack"))) ⟨cs, s⟩ = .ok (optD o.pack) ⟨cs, s⟩ := by rw [ev_bin, ev_pure, at_ok, ev_pure, at_ok, dk.pk]
  have g4 : (bin dGetK (M.pure d) (M.pure (D.str "align"))) ⟨cs, s⟩ = .ok (optD o.align) ⟨cs, s⟩ := by rw [ev_bin, ev_pure, at_ok, ev_pure, at_ok, dk.al]
  have g5 : (bin dGetK (M.pure d) (M.pure (D.str "ends"))) ⟨cs, s⟩ = .ok (.str (enS o.big)) ⟨cs, s⟩ := by rw [ev_bin, ev_pure, at_ok, ev_pure, at_ok, dk.en]
  have ks : (argsM [(bin dGetK (M.pure d) (M.pure (D.str "convention"))), (bin dGetK (M.pure d) (M.pure (D.str "pack"))), (bin dGetK (M.pure d) (M.pure (D.str "align"))), (bin dGetK (M.pure d) (M.pure (D.str "ends")))]) ⟨cs, s⟩ = .ok [.str (cvS o.msvc), optD o.pack, optD o.align, .str (enS o.big)] ⟨cs, s⟩ := by
    rw [ev_args1, g2, at_ok, ev_args1, g3, at_ok, ev_args1, g4, at_ok, ev_args1, g5, at_ok, ev_args0, at_ok, at_ok, at_ok, at_ok]
  have pm : permG [.pos 0, .kw 0, .kw 1, .kw 2, .kw 3] [mem] [] [.str (cvS o.msvc), optD o.pack, optD o.align, .str (enS o.big)] = [mem, .str (cvS o.msvc), optD o.pack, optD o.align, .str (enS o.big)] := rfl
  rw [ev_fin, ev_ifM, ev_tst, g1, at_ok, asB_bl, ev_pure, at_ok]
  cases eu : o.union with
  | true =>
    rw [eu, if_pos rfl] at e
    rw [if_pos rfl, ev_out, ev_ret, ev_kcall, ev_args1, ev_pure, at_ok, ev_args0, at_ok, at_ok, ks, at_ok, pm, ev_ar5, e]
    cases r <;> rfl
  | false =>
    rw [eu, if_neg (by decide)] at e
    rw [if_neg (by decide), ev_ret, ev_kcall, ev_args1, ev_pure, at_ok, ev_args0, at_ok, at_ok, ks, at_ok, pm, ev_ar5, e]
    cases r <;> rfl
/-- a name leads to an octet -/
theorem oct_name {ld : D} {o : Opt} {ms : Mbs} (lk : LK ld (.lay o ms)) (ko : KOk (.lay o ms)) (nb : NmB (.lay o ms)) (hd : (Kd.lay o ms).depth < 12) {x : Str} (hx : x ∈ ms.names) : ∃ q : Int, 0 ≤ q ∧ ∀ S, (methM "Layout" "octet_at" (ar2 f_Layout_octet_at) (M.pure ld) [(tupM [(M.pure (.str x))])]) S = .ok (.int q) S := by
  obtain ⟨q, q0, hq⟩ := ko.nameShp nb _ _ rfl 0 x (Int.le_refl _) (by rw [Kd.names]; exact hx)
  obtain ⟨w, k', st, wh, lw⟩ := shp_steps 12 (o := false) lk ko hd (Nat.le_refl _) hq
  have wh : w.h = q := wh
  obtain ⟨i, ds, ps, sp, ex, cv, en, rfl⟩ := lay_obj lk
  have oc := ok_octet st lw
  have z1 : szOk 1 = true := by decide
  refine ⟨w.h / 8, by omega, fun S => ?_⟩
  generalize f_Layout_octet_at = fo at oc ⊢
  rw [ev_meth, ev_pure, at_ok, isA_octet_at, at_ok, ev_args1, ev_tup, ev_args1, ev_pure, at_ok, ev_args0, at_ok, at_ok, if_pos (by exact z1), at_ok, ev_args0, at_ok, at_ok, ev_ar2, oc]
  rfl
theorem lt_zero {q : Int} (h : 0 ≤ q) {S : MS} {m : M D} (e : m S = .ok (.int q) S) : (bin dLt m (M.pure (D.int 0))) S = .ok (.bl false) S := by
  rw [ev_bin, e, at_ok, ev_pure, at_ok]
  show Res.ok (D.bl (decide (q < 0))) S = _
  rw [decide_eq_false (by omega)]
theorem mb_plain {m : Mb} (mo : MbOk m) (h : ∀ x ∈ m.k.names, (D.str x).plain = true) : ∀ x ∈ Mb.names m, (D.str x).plain = true := fun x hx => by
  obtain ⟨nm, k, b⟩ := m
  cases nm with
  | some y =>
    have hx : x ∈ [y] := by cases b <;> exact hx
    rw [List.mem_singleton.mp hx]
    exact (mo.nm y rfl).1
  | none =>
    cases b with
    | some w => cases hx
    | none => exact h x hx
theorem _root_.Ly.KOk.nmPlain {k : Kd} (ko : KOk k) : ∀ x ∈ k.names, (D.str x).plain = true := by
  induction ko with
  | int _ => intro x h; rw [Kd.names] at h <;> first | cases h | exact fun _ _ e => nomatch e
  | arr _ _ _ _ _ _ _ => intro x h; rw [Kd.names] at h <;> first | cases h | exact fun _ _ e => nomatch e
  | @lay op ms hp ha hm hb hn h6 h5 h1 h2 h3 ih =>
    intro x hx
    rw [Kd.names, ← of_of ms, names_of_list] at hx
    obtain ⟨m, hm', hx⟩ := List.mem_flatMap.mp hx
    exact mb_plain (hb m hm') (ih m hm') x hx
/-! one turn -/
theorem ok_turn : TurnC 150 turn := fun v cs s r b => by
  obtain ⟨_, s1, e1, ⟨i, rfl, i0, i1⟩, b1⟩ := drw_draw (k := 3) (by decide) (by decide) cs s (149 + r) (b.le (by omega))
  let c0 : Cell := .dic [(.inr "is_union", .bl (i == 0)), (.inr "convention", .str "sysv"), (.inr "pack", .non), (.inr "align", .non), (.inr "ends", .str "little")]
  obtain ⟨_, s2, e2, ⟨j, rfl, j0, j1⟩, b2⟩ := drw_draw (k := 4) (by decide) (by decide) (cs ++ [c0]) s1 (148 + r) (b1.le (by omega))
  have yr : yR 2 = 141 := rfl
  obtain ⟨P, xs, c2, s3, e3, gr, hm, hl, _, b3⟩ := rows_2 (fun _ => none) (cs ++ [c0]) s2 (7 + r) (decide (j > 0)) ⟨fun a k e => (nomatch e)⟩ (b2.le (by omega))
  have hl : xs.length ≤ 5 := hl
  have cl : (cs ++ [c0]).length = cs.length + 1 := by simp
  have l2 : cs.length + 1 ≤ c2.length := by have := gr.kp.len; omega
  have pn : ∀ a k, P a = some k → cs.length < a ∧ a < c2.length := fun a k e => by
    obtain ⟨o, ys, kvs, h1, h2, h3, h4⟩ := gr.ein.at_ a k e
    refine ⟨?_, (List.getElem?_eq_some_iff.mp h2).1⟩
    by_cases q : a < cs.length + 1
    · rw [gr.new a (by omega)] at e
      cases e
    · omega
  -- the names' list, the rows kept
  let c3 : List Cell := c2 ++ [.lst []]
  have ct : c3[cs.length]? = some c0 := by
    show (c2 ++ [Cell.lst []])[cs.length]? = _
    rw [List.getElem?_append_left (by omega), gr.kp.kept cs.length (by omega), List.getElem?_append_right (Nat.le_refl _), Nat.sub_self]
    rfl
  have sk := c_setK (s := s3) (x := "rows") (v := .lst (xs.map rowD)) ct (by show (5 : Nat) < _; decide)
  rw [put_rowsE] at sk
  let c4 : List Cell := c3.set cs.length (.dic (declE (oE (i == 0)) (.lst (xs.map rowD))))
  have sk : setK (.ptr cs.length) (.str "rows") (.lst (xs.map rowD)) ⟨c3, s3⟩ = .ok () ⟨c4, s3⟩ := sk
  have c4t : c4[cs.length]? = some (.dic (declE (oE (i == 0)) (.lst (xs.map rowD)))) := List.getElem?_set_self (by simp [c3]; omega)
  have c4p : c4[c2.length]? = some (.lst (strD [])) := by
    show (c3.set cs.length _)[c2.length]? = _
    rw [List.getElem?_set_ne (by omega)]
    show (c2 ++ [Cell.lst []])[c2.length]? = _
    rw [List.getElem?_append_right (Nat.le_refl _), Nat.sub_self]
    rfl
  have ein4 : EIn P c4 := gr.ein.agr fun a k e => by
    obtain ⟨p1, p2⟩ := pn a k e
    show (c3.set cs.length _)[a]? = _
    rw [List.getElem?_set_ne (by omega)]
    exact List.getElem?_append_left p2
  have ol := out_loop (s := s3) (L := Unit) (p := c2.length) (fun a k e z => by have := (pn a k e).2; omega) xs [] none c4 ein4 c4p hm (by rw [List.length_nil]; omega)
  rw [List.nil_append] at ol
  generalize hN : (xs.flatMap fun x => Mb.names x.2) = N at ol
  have nN : N.length ≤ 65536 := by
    rw [← hN]
    have : ∀ l : List (D × Mb), (∀ x ∈ l, Mok P 2 x) → (l.flatMap fun x => Mb.names x.2).length ≤ 6 * l.length := fun l => by
      induction l with
      | nil => intro _; simp
      | cons x l ih =>
        intro h
        have := ih fun y hy => h y (List.mem_cons_of_mem _ hy)
        have : (Mb.names x.2).length ≤ 6 := (h x List.mem_cons_self).nl
        rw [List.flatMap_cons, List.length_append, List.length_cons]
        omega
    have := this xs hm
    omega
  let c5 : List Cell := c4.set c2.length (.lst (strD N))
  have ol : (Dl.forM outE (xs.map rowD) (.ptr c2.length, .non) : M (Fl (D × D) Unit)) ⟨c4, s3⟩ = .ok (.nx (.ptr c2.length, nmD (fdup [] N))) ⟨c5, s3⟩ := ol
  have ein5 : EIn P c5 := ein4.agr fun a k e => List.getElem?_set_ne (by have := (pn a k e).2; omega)
  have c5t : c5[cs.length]? = some (.dic (declE (oE (i == 0)) (.lst (xs.map rowD)))) := by
    show (c4.set c2.length _)[cs.length]? = _
    rw [List.getElem?_set_ne (by omega)]
    exact c4t
  have c5p : c5[c2.length]? = some (.lst (strD N)) := List.getElem?_set_self (List.getElem?_eq_some_iff.mp c4p).1
  have bek : BEk (declE (oE (i == 0)) (.lst (xs.map rowD))) (oE (i == 0)) (xs.map rowD) (.int 0 false) := .inl rfl
  have dk5 := dkE_of c5t bek
  obtain ⟨ys, c6, e6, m6, lk6, ein6, kp6⟩ := (builtE_both 12).2 (s := s3) (by decide) ein5 dk5 (fun x hx => ⟨(hm x hx).tp, (hm x hx).bd.ko, by have := (hm x hx).dp; omega, by have := (hm x hx).dp; omega⟩) (by omega)
  have l5 : c5.length = c2.length + 1 := by simp [c5, c4, c3]
  have pt : P cs.length = none := by
    cases e : P cs.length with
    | none => rfl
    | some k => have := (pn _ k e).1; omega
  have pp : P c2.length = none := by
    cases e : P c2.length with
    | none => rfl
    | some k => have := (pn _ k e).2; omega
  have c6t := (kp6.eq cs.length (by omega) pt).trans c5t
  have c6p := (kp6.eq c2.length (by omega) pp).trans c5p
  have dk6 := dkE_of c6t bek
  have fmY : (ys.flatMap fun x => Mb.names x.2) = N := by
    rw [← hN]
    have : ∀ l : List (D × Mb), (l.flatMap fun x => Mb.names x.2) = (l.map (·.2)).flatMap Mb.names := fun l => by rw [List.flatMap_map]
    rw [this, this, m6]
  have back : ∀ y ∈ ys, ∃ x ∈ xs, x.2 = y.2 := fun y hy => by
    have : y.2 ∈ xs.map (·.2) := by rw [← m6]; exact List.mem_map_of_mem hy
    obtain ⟨x, hx, e⟩ := List.mem_map.mp this
    exact ⟨x, hx, e⟩
  have ylen : ys.length = xs.length := by
    have := congrArg List.length m6
    rwa [List.length_map, List.length_map] at this
  have xsY : Xs ys := by
    refine ⟨lk6, fun y hy => ?_, fun y hy => ?_, fun y hy => ?_, by omega⟩
    · obtain ⟨x, hx, e⟩ := back y hy; rw [← e]; exact (hm x hx).bd.ko
    · obtain ⟨x, hx, e⟩ := back y hy; rw [← e]; exact (hm x hx).bd.mo
    · obtain ⟨x, hx, e⟩ := back y hy; rw [← e]; have := (hm x hx).dp; omega
  -- the walk up to the trial
  have p1 := drw_cV e1
  have head : (callM (ar1 f_eplainB) [(bin dEq (callM (ar2 f_draw) [(M.pure D.strm), (M.pure (D.int 3))]) (M.pure (D.int 0)))]) ⟨cs, s⟩ = .ok (.ptr cs.length) ⟨cs ++ [c0], s1⟩ := by
    have eq : (bin dEq (callM (ar2 f_draw) [(M.pure D.strm), (M.pure (D.int 3))]) (M.pure (D.int 0))) ⟨cs, s⟩ = .ok (.bl (i == 0)) ⟨cs, s1⟩ := by
      rw [ev_bin, p1, at_ok]
      rfl
    have pl := ok_eplainB (u := i == 0) (cs := cs) (s := s1)
    generalize f_eplainB = fq at pl ⊢
    rw [ev_call, ev_args1, eq, at_ok, ev_args0, at_ok, at_ok, ev_ar1, pl]
  have second : (tupM [(callM (ar3 (f_enamed_rows 12)) [(M.pure D.strm), (M.pure (D.int 2)), (bin dGt (callM (ar2 f_draw) [(M.pure D.strm), (M.pure (D.int 4))]) (M.pure (D.int 0)))]), (boxM (lstM [])), (M.pure D.non)]) ⟨cs ++ [c0], s1⟩ = .ok (.tup [.lst (xs.map rowD), .ptr c2.length, .non]) ⟨c3, s3⟩ := by
    have gt : (bin dGt (callM (ar2 f_draw) [(M.pure D.strm), (M.pure (D.int 4))]) (M.pure (D.int 0))) ⟨cs ++ [c0], s1⟩ = .ok (.bl (decide (j > 0))) ⟨cs ++ [c0], s2⟩ := by
      rw [ev_bin, drw_cV e2, at_ok]
      rfl
    have bx : (boxM (lstM [])) ⟨c2, s3⟩ = .ok (.ptr c2.length) ⟨c3, s3⟩ := rfl
    have z3 : szOk 3 = true := by decide
    have e3 : f_enamed_rows 12 .strm (.int 2) (.bl (decide (j > 0))) ⟨cs ++ [c0], s2⟩ = _ := e3
    generalize f_enamed_rows 12 = fr at e3 ⊢
    rw [ev_tup, ev_args1, ev_call, ev_args1, ev_pure, at_ok, ev_args1, ev_pure, at_ok, ev_args1, gt, at_ok, ev_args0, at_ok, at_ok, at_ok, at_ok, ev_ar3, e3, at_ok, ev_args1, bx, at_ok, ev_args1, ev_pure, at_ok, ev_args0, at_ok, at_ok, at_ok, at_ok, if_pos (by exact z3)]
  have rw4 : (M.bind (bin dGetK (M.pure (.ptr cs.length)) (M.pure (D.str "rows"))) itemsS) ⟨c4, s3⟩ = .ok (xs.map rowD) ⟨c4, s3⟩ := by
    have g := (dkE_of c4t bek).rw_ s3
    rw [ev_bind, ev_bin, ev_pure, at_ok, ev_pure, at_ok, g, at_ok]
    rfl
  have mem6 : (callM (ar1 (f_emembers 12)) [(M.pure (.ptr cs.length))]) ⟨c5, s3⟩ = .ok (.lst (ys.map memD)) ⟨c6, s3⟩ := by
    generalize f_emembers 12 = fm at e6 ⊢
    rw [ev_call, ev_args1, ev_pure, at_ok, ev_args0, at_ok, at_ok, ev_ar1, e6]
  have go : ∀ {w : D} {S6 : MS}, f_etried (.lst (ys.map memD)) (.ptr cs.length) ⟨c6, s3⟩ = .ok w S6 → (callM (ar2 f_etried) [(callM (ar1 (f_emembers 12)) [(M.pure (.ptr cs.length))]), (M.pure (.ptr cs.length))]) ⟨c5, s3⟩ = .ok w S6 := fun {w S6} e => by
    generalize f_emembers 12 = fm at mem6 ⊢
    generalize f_etried = ft at e ⊢
    rw [ev_call, ev_args1, mem6, at_ok, ev_args1, ev_pure, at_ok, ev_args0, at_ok, at_ok, at_ok, ev_ar2, e]
  unfold outE at ol
  unfold turn
  generalize f_eplainB = fq at head ⊢
  generalize f_enamed_rows 12 = fr at second ⊢
  rw [ev_bind, head, at_ok, ev_bind, second, at_ok, ev_un3, ev_bind, ev_pure, at_ok, ev_bind, ev_pure, at_ok, ev_bind, sk, at_ok, ev_bind, rw4, at_ok, ev_then, ol, at_ok, thR_nx]
  cases hD : fdup [] N with
  | some x =>
    -- a name twice
    refine ⟨c6, s3, .inr ?_, b3.le (by omega)⟩
    have hpk : PkOk (oE (i == 0)).pack := fun x e => (nomatch e)
    have hal : AlOk (oE (i == 0)).align := fun x e => (nomatch e)
    have co := congrFun (ok_checked_options hpk hal) ⟨c6, s3⟩
    have cm := congrFun (ok_checked_members xsY) ⟨c6, s3⟩
    have nd := names_dup xsY (by rw [fmY]; exact nN) (x := x) (by rw [fmY]; exact hD) (S := ⟨c6, s3⟩)
    have ed := edeclO (s := s3) dk6.opts (su_err (lay_nam (u := (oE (i == 0)).union) co cm nd))
    have tr := go (tried_err (w := "name") (by simp [errs5]) ed)
    have gs : Good 3 (.tup [.str "name", .str x]) := .tup _ (by simp) fun d hd => by
      have hx : x ∈ N := by
        have : ∀ (l seen : List Str), fdup seen l = some x → x ∈ l := fun l => by
          induction l with
          | nil => intro _ e; cases e
          | cons y l ih =>
            intro seen e
            rw [fdup] at e
            by_cases q : y ∈ seen
            · rw [if_pos q] at e; cases e; exact List.mem_cons_self
            · rw [if_neg q] at e; exact List.mem_cons_of_mem _ (ih _ e)
        exact this N [] hD
      have hpl : (D.str x).plain = true := by
        rw [← hN] at hx
        obtain ⟨y, hy, hx⟩ := List.mem_flatMap.mp hx
        exact mb_plain (hm y hy).bd.mo (hm y hy).bd.ko.nmPlain x hx
      simp only [List.mem_cons, List.not_mem_nil, or_false] at hd
      rcases hd with e | e
      · rw [e]; exact .str _ (by decide +kernel)
      · rw [e]; exact .str _ hpl
    have nes := ne_self gs (by decide)
    have t1 : (tst (una dNotN (M.pure (nmD (some x)))) : M Bool) ⟨c6, s3⟩ = .ok true ⟨c6, s3⟩ := rfl
    have z2 : szOk 2 = true := by decide
    have t2 : (tst (bin dNe (tupM [(M.pure (.str "name")), (M.pure (.str x))]) (tupM [(M.pure (D.str "name")), (M.pure (nmD (some x)))])) : M Bool) ⟨c6, s3⟩ = .ok false ⟨c6, s3⟩ := by
      rw [ev_tst, ev_bin, ev_tup, ev_args1, ev_pure, at_ok, ev_args1, ev_pure, at_ok, ev_args0, at_ok, at_ok, at_ok, if_pos (by exact z2), at_ok, ev_tup, ev_args1, ev_pure, at_ok, ev_args1, ev_pure, at_ok, ev_args0, at_ok, at_ok, at_ok, if_pos (by exact z2), at_ok]
      show ((dNe (.tup [.str "name", .str x]) (.tup [.str "name", .str x]) _).andThen _) = _
      rw [nes]
      rfl
    rw [ev_bind, tr, at_ok, ev_un2, ev_ifM, t1, at_ok, if_pos rfl, ev_out, ev_ifM, t2, at_ok, if_neg (by decide)]
    rfl
  | none =>
    have hn : (xs.flatMap fun x => Mb.names x.2).Nodup := by
      rw [hN]
      have := fdup_nd N [] hD List.nodup_nil
      rwa [List.nil_append] at this
    obtain ⟨ko, _, _, _, dp, nb, _⟩ := lay_bdE (u := i == 0) hm hl hn
    obtain ⟨ld, ed, lk⟩ := ok_edeclaredO (s := s3) dk6.opts m6 lk6 ko (by omega)
    have tr := go (tried_ok ed)
    have c7p : (c6 ++ [Cell.out])[c2.length]? = some (.lst (strD N)) := by rw [List.getElem?_append_left (List.getElem?_eq_some_iff.mp c6p).1]; exact c6p
    have vw : viewD ⟨c6 ++ [.out], s3⟩ 64 (.ptr c2.length) = .lst (strD N) := by
      rw [view_ptrL (show (⟨c6 ++ [.out], s3⟩ : MS).cells[c2.length]? = some (.lst (strD N)) from c7p)]
      unfold strD
      rw [List.map_map]
      congr 1
    have fz : frzAll (.ptr c2.length) ⟨c6 ++ [.out], s3⟩ = .ok (.lst (strD N)) (⟨c6 ++ [.out], s3⟩ : MS).outs := by
      unfold frzAll
      rw [vw]
    have en : (Mbs.of (xs.map (·.2))).names = N := by rw [names_of_list, List.flatMap_map, hN]
    obtain ⟨c8, s8, eS⟩ : ∃ c8 s8, (⟨c6 ++ [.out], s3⟩ : MS).outs = ⟨c8, s8⟩ := ⟨_, _, rfl⟩
    have es8 : s8 = s3 := by
      have : (⟨c6 ++ [.out], s3⟩ : MS).outs.st = s8 := by rw [eS]
      exact this.symm
    subst es8
    rw [eS] at fz
    refine ⟨c8, s8, .inl ?_, b3.le (by omega)⟩
    have hdp : (Kd.lay (oE (i == 0)) (Mbs.of (xs.map (·.2)))).depth < 12 := by rw [Kd.depth]; omega
    have it : itemsS (.lst (strD N)) = M.pure (strD N) := rfl
    have mp := map_enc (S := ⟨c8, s8⟩) (f := (unT (.nm 7) (on1 fun v_key16 => (bin dLt (methM "Layout" "octet_at" (ar2 f_Layout_octet_at) (M.pure ld) [(tupM [(M.pure v_key16)])]) (M.pure (D.int 0)))))) D.str (fun _ => D.bl false) N fun x hx => by
      obtain ⟨q, q0, eq⟩ := oct_name lk ko nb hdp (x := x) (by rw [en]; exact hx)
      rw [ev_unN, ev_on1]
      exact lt_zero q0 (eq _)
    have rep : (N.map fun _ => D.bl false) = List.replicate N.length (D.bl false) := by
      rw [List.map_const']
    rw [rep] at mp
    have ml : dMul (.lst [.bl false]) (.int (N.length : Nat)) = M.pure (.lst (List.replicate N.length (D.bl false))) := by
      show Dl.guard _ _ = _
      unfold Dl.guard
      have z : (decide (-(2 ^ 63) ≤ ((N.length : Nat) : Int)) && decide (((N.length : Nat) : Int) < 2 ^ 63) && szOk ([D.bl false].length * ((N.length : Nat) : Int).toNat)) = true := by
        rw [Bool.and_eq_true, Bool.and_eq_true, decide_eq_true_eq, decide_eq_true_eq]
        exact ⟨⟨by omega, by omega⟩, szOk_le (by simp; omega)⟩
      have fl : ∀ k : Nat, (List.replicate k [D.bl false]).flatten = List.replicate k (D.bl false) := fun k => by
        induction k with
        | zero => rfl
        | succ k ih => rw [List.replicate_succ, List.flatten_cons, ih, List.replicate_succ]; rfl
      rw [if_pos z, Int.toNat_natCast, fl]
    have gb : Good 3 (.lst (List.replicate N.length (D.bl false))) := .lst _ (by rw [List.length_replicate]; omega) fun d hd => by
      rw [List.eq_of_mem_replicate hd]
      exact .bl _
    have nes := ne_self gb (by decide)
    have gm : Good 3 (.str "made") := .str _ (by decide +kernel)
    have nem := ne_self gm (by decide)
    have l1 : ∀ S : MS, (frz (lstM [(M.pure (D.bl false))])) S = .ok (.lst [.bl false]) S := fun S => rfl
    have tt : (orT (tst (bin dNe (M.pure (.str "made")) (M.pure (D.str "made")))) (tst (bin dNe (frz (mapX (M.bind (M.pure (.lst (strD N))) itemsS) (unT (.nm 7) (on1 fun v_key16 => (bin dLt (methM "Layout" "octet_at" (ar2 f_Layout_octet_at) (M.pure ld) [(tupM [(M.pure v_key16)])]) (M.pure (D.int 0))))))) (bin dMul (frz (lstM [(M.pure (D.bl false))])) (callM (ar1 dLen) [(M.pure (.lst (strD N)))])))) : M Bool) ⟨c8, s8⟩ = .ok false ⟨c8, s8⟩ := by
      generalize f_Layout_octet_at = fo at mp ⊢
      rw [ev_orT, ev_tst, ev_bin, ev_pure, at_ok, ev_pure, at_ok, nem, ev_pure, at_ok, asB_bl, ev_pure, at_ok, if_neg (by decide), ev_tst, ev_bin, ev_frz, ev_mapX, ev_bind, ev_pure, at_ok, it, ev_pure, at_ok, if_pos (szOk_le (by rw [List.length_map]; omega)), mp, at_ok, at_ok, ev_bin, l1, at_ok, ev_call, ev_args1, ev_pure, at_ok, ev_args0, at_ok, at_ok, ev_ar1, len_strD, ev_pure, at_ok, ml, ev_pure, at_ok, nes, ev_pure, at_ok, asB_bl, ev_pure]
    have t1 : (tst (una dNotN (M.pure (nmD none))) : M Bool) ⟨c6 ++ [.out], s8⟩ = .ok false ⟨c6 ++ [.out], s8⟩ := rfl
    rw [ev_bind, tr, at_ok, ev_un2, ev_ifM, t1, at_ok, if_neg (by decide), ev_bind, fz, at_ok, ev_ifM, tt, at_ok, if_neg (by decide), ev_pure]
theorem hlaw : ∀ ns : List Int, ns.length ≤ 63 → ∃ S', finM m_law (S0 ns) = .ok (.bl true) S' := fun ns _ =>
  law_loopC (N := 10) (m := 0) ok_turn (fun cs s _ => ⟨_, rfl⟩) (by decide) (by decide) ns
end Lw
def PySem.W.Fast.tw10607413886869855744 : Unit := ()
def PySem.W.Fast.tw17521437766735195778 : Unit := ()
def PySem.W.Fast.tw8974765238575170147 : Unit := ()
def PySem.W.Fast.tw18111044553872413126 : Unit := ()
def PySem.W.Fast.tw2156460637128008263 : Unit := ()
def PySem.W.Fast.tw12875057766239050408 : Unit := ()
def PySem.W.Fast.tw17713702962268233512 : Unit := ()
def PySem.W.Fast.tw7366488860734220681 : Unit := ()
def PySem.W.Fast.tw12134398143286920394 : Unit := ()
def PySem.W.Fast.tw5462638293578315722 : Unit := ()
def PySem.W.Fast.tw3909069994831383339 : Unit := ()
def PySem.W.Fast.tw1165503287974084017 : Unit := ()
def PySem.W.Fast.tw5125295826998248209 : Unit := ()
def PySem.W.Fast.tw14726988649389955154 : Unit := ()
def PySem.W.Fast.tw1355795098991849621 : Unit := ()
def PySem.W.Fast.tw8954060014683075835 : Unit := ()
def PySem.W.Fast.tw15021112867097930299 : Unit := ()
def PySem.W.Fast.tw17483332958560541982 : Unit := ()
def PySem.W.Fast.tw12621702449480641887 : Unit := ()
open PySem PySem.W PyProof.Rows in
set_option maxRecDepth 100000 in
set_option maxHeartbeats 0 in
theorem PySem.Challenge.cw_fieldberth_k07_names_refused_holds : PySem.Challenge.rw_fieldberth_k07_names_refused.Holds := by
  w_on; o_law; k_head; (case hw => w_witness2)
  k_fill
  refine Lw.walk (l := PySem.Challenge.rw_fieldberth_k07_names_refused) rfl rfl (fun w h Y => PySem.W.kIn_of Y) ?F
  case F =>
    intro w mg fa h KX G hmg
    refine' Lw.all_mk KX G hmg ?aC_BadBits ?xL_BadBits ?xb_BadBits ?sa_BadBits ?eC_BadBits ?tC_BadBits ?kC_BadBits ?nf_BadBits ?iI_BadBits ?tI_BadBits ?lI_BadBits ?cI_BadBits ?kI_BadBits ?aC_BadKind ?xL_BadKind ?xb_BadKind ?sa_BadKind ?eC_BadKind ?tC_BadKind ?kC_BadKind ?nf_BadKind ?iI_BadKind ?tI_BadKind ?lI_BadKind ?cI_BadKind ?kI_BadKind ?aC_BadMember ?xL_BadMember ?xb_BadMember ?sa_BadMember ?eC_BadMember ?tC_BadMember ?kC_BadMember ?nf_BadMember ?iI_BadMember ?tI_BadMember ?lI_BadMember ?cI_BadMember ?kI_BadMember ?aC_BadName ?xL_BadName ?xb_BadName ?sa_BadName ?eC_BadName ?tC_BadName ?kC_BadName ?nf_BadName ?iI_BadName ?tI_BadName ?lI_BadName ?cI_BadName ?kI_BadName ?aC_BadOption ?xL_BadOption ?xb_BadOption ?sa_BadOption ?eC_BadOption ?tC_BadOption ?kC_BadOption ?nf_BadOption ?iI_BadOption ?tI_BadOption ?lI_BadOption ?cI_BadOption ?kI_BadOption ?aC_BadPath ?xL_BadPath ?xb_BadPath ?sa_BadPath ?eC_BadPath ?tC_BadPath ?kC_BadPath ?nf_BadPath ?iI_BadPath ?tI_BadPath ?lI_BadPath ?cI_BadPath ?kI_BadPath ?ga_BadBits ?gg_BadBits ?hd_BadBits ?ex_BadBits ?ga_BadKind ?gg_BadKind ?hd_BadKind ?ex_BadKind ?ga_BadMember ?gg_BadMember ?hd_BadMember ?ex_BadMember ?ga_BadName ?gg_BadName ?hd_BadName ?ex_BadName ?ga_BadOption ?gg_BadOption ?hd_BadOption ?ex_BadOption ?ne_BadBits_BadKind ?ne_BadBits_BadMember ?ne_BadBits_BadName ?ne_BadBits_BadOption ?ne_BadKind_BadBits ?ne_BadKind_BadMember ?ne_BadKind_BadName ?ne_BadKind_BadOption ?ne_BadMember_BadBits ?ne_BadMember_BadKind ?ne_BadMember_BadName ?ne_BadMember_BadOption ?ne_BadName_BadBits ?ne_BadName_BadKind ?ne_BadName_BadMember ?ne_BadName_BadOption ?ne_BadOption_BadBits ?ne_BadOption_BadKind ?ne_BadOption_BadMember ?ne_BadOption_BadName ?aC_Layout ?pg_Layout ?hd_Layout ?po_Layout ?sa_Layout ?nna_Layout_extent ?nna_Layout_order ?nna_Layout_positions ?nna_Layout_rows ?nna_Layout_rule ?nna_Layout_step ?aC_Shape ?ic_Shape ?ty_Shape ?kf_Layout ?ks_Layout ?kt_Layout ?kr_Layout ?kbool_Layout ?kint_Layout ?kstr_Layout ?klist_Layout ?ktuple_Layout ?kdict_Layout ?kx_Layout_Shape ?ke_Layout_Shape ?ac_ALIGNS ?lc_ALIGNS ?vc_ALIGNS ?ac_CONVENTIONS ?lc_CONVENTIONS ?vc_CONVENTIONS ?ac_DIGITS ?ac_ENDS ?lc_ENDS ?vc_ENDS ?ac_LETTERS ?ac_PACKS ?lc_PACKS ?vc_PACKS ?ac_SIZES ?lc_SIZES ?vc_SIZES ?z_all ?z_bool ?z_dict ?z_enumerate ?z_int ?z_isinstance ?z_len ?z_list ?z_max ?z_min ?z_range ?z_str ?z_sum ?z_tuple ?z_zip ?a_draw ?l_draw ?c_draw ?k_draw ?a_eplainB ?l_eplainB ?c_eplainB ?k_eplainB ?a_is_word_of ?l_is_word_of ?c_is_word_of ?k_is_word_of ?a_is_integer ?l_is_integer ?c_is_integer ?k_is_integer ?a_is_number_of ?l_is_number_of ?c_is_number_of ?k_is_number_of ?a_checked_options ?l_checked_options ?c_checked_options ?k_checked_options ?a_is_row ?l_is_row ?c_is_row ?k_is_row ?a_is_integer_kind ?l_is_integer_kind ?c_is_integer_kind ?k_is_integer_kind ?a_is_array_kind ?l_is_array_kind ?c_is_array_kind ?k_is_array_kind ?a_checked_kind ?l_checked_kind ?c_checked_kind ?k_checked_kind ?a_is_name ?l_is_name ?c_is_name ?k_is_name ?a_checked_member ?l_checked_member ?c_checked_member ?k_checked_member ?a_checked_members ?l_checked_members ?c_checked_members ?k_checked_members ?a_names_of ?l_names_of ?c_names_of ?k_names_of ?a_checked_names ?l_checked_names ?c_checked_names ?k_checked_names ?a_up ?l_up ?c_up ?k_up ?a_Layout_init ?i_Layout_init ?mk_Layout ?kc_Layout ?l_Layout_init ?c_Layout_init ?k_Layout_init ?a_Layout_size ?pg_Layout_size ?pt_Layout_size ?pr_Layout_sizeh ?l_Layout_size ?c_Layout_size ?k_Layout_size ?a_size_of ?l_size_of ?c_size_of ?k_size_of ?a_Layout_alignment ?pg_Layout_alignment ?pt_Layout_alignment ?pr_Layout_alignmenth ?l_Layout_alignment ?c_Layout_alignment ?k_Layout_alignment ?a_alignment_of ?l_alignment_of ?c_alignment_of ?k_alignment_of ?a_step_of ?l_step_of ?c_step_of ?k_step_of ?a_msvc_union ?l_msvc_union ?c_msvc_union ?k_msvc_union ?a_msvc_structure ?l_msvc_structure ?c_msvc_structure ?k_msvc_structure ?a_counts ?l_counts ?c_counts ?k_counts ?a_sysv_union ?l_sysv_union ?c_sysv_union ?k_sysv_union ?a_is_moved ?l_is_moved ?c_is_moved ?k_is_moved ?a_sysv_structure ?l_sysv_structure ?c_sysv_structure ?k_sysv_structure ?a_layout_of ?l_layout_of ?c_layout_of ?k_layout_of ?a_struct ?l_struct ?c_struct ?k_struct ?w_struct_ends ?w_struct_align ?w_struct_pack ?w_struct_convention ?a_union ?l_union ?c_union ?k_union ?w_union_ends ?w_union_align ?w_union_pack ?w_union_convention ?a_edeclared ?l_edeclared ?c_edeclared ?k_edeclared ?a_etried ?l_etried ?c_etried ?k_etried ?a_erow_names ?l_erow_names ?c_erow_names ?k_erow_names ?a_pick ?l_pick ?c_pick ?k_pick ?a_enamed_plan ?l_enamed_plan ?c_enamed_plan ?k_enamed_plan ?a_enamed_rows ?l_enamed_rows ?c_enamed_rows ?k_enamed_rows ?a_ebuilt ?l_ebuilt ?c_ebuilt ?k_ebuilt ?a_emembers ?l_emembers ?c_emembers ?k_emembers ?a_Layout_ends ?pg_Layout_ends ?pt_Layout_ends ?pr_Layout_endsh ?l_Layout_ends ?c_Layout_ends ?k_Layout_ends ?a_row_named ?l_row_named ?c_row_named ?k_row_named ?a_step_from ?l_step_from ?c_step_from ?k_step_from ?a_lead ?l_lead ?c_lead ?k_lead ?a_spot_of ?l_spot_of ?c_spot_of ?k_spot_of ?a_Layout_checked_spot ?i_Layout_checked_spot ?l_Layout_checked_spot ?c_Layout_checked_spot ?k_Layout_checked_spot ?a_is_number_kind ?l_is_number_kind ?c_is_number_kind ?k_is_number_kind ?a_Layout_octet_at ?i_Layout_octet_at ?l_Layout_octet_at ?c_Layout_octet_at ?k_Layout_octet_at ?a_law ?l_law ?c_law ?k_law Lw.hlaw
    (case aC_BadBits => k_is)
    (case xL_BadBits => k_is)
    (case xb_BadBits => decide +kernel)
    (case sa_BadBits => k_is)
    (case eC_BadBits => k_is)
    (case tC_BadBits => k_is)
    (case kC_BadBits => k_is)
    (case nf_BadBits => k_is)
    (case iI_BadBits => k_is)
    (case tI_BadBits => k_is)
    (case lI_BadBits => k_is)
    (case cI_BadBits => k_is)
    (case kI_BadBits => k_is)
    (case aC_BadKind => k_is)
    (case xL_BadKind => k_is)
    (case xb_BadKind => decide +kernel)
    (case sa_BadKind => k_is)
    (case eC_BadKind => k_is)
    (case tC_BadKind => k_is)
    (case kC_BadKind => k_is)
    (case nf_BadKind => k_is)
    (case iI_BadKind => k_is)
    (case tI_BadKind => k_is)
    (case lI_BadKind => k_is)
    (case cI_BadKind => k_is)
    (case kI_BadKind => k_is)
    (case aC_BadMember => k_is)
    (case xL_BadMember => k_is)
    (case xb_BadMember => decide +kernel)
    (case sa_BadMember => k_is)
    (case eC_BadMember => k_is)
    (case tC_BadMember => k_is)
    (case kC_BadMember => k_is)
    (case nf_BadMember => k_is)
    (case iI_BadMember => k_is)
    (case tI_BadMember => k_is)
    (case lI_BadMember => k_is)
    (case cI_BadMember => k_is)
    (case kI_BadMember => k_is)
    (case aC_BadName => k_is)
    (case xL_BadName => k_is)
    (case xb_BadName => decide +kernel)
    (case sa_BadName => k_is)
    (case eC_BadName => k_is)
    (case tC_BadName => k_is)
    (case kC_BadName => k_is)
    (case nf_BadName => k_is)
    (case iI_BadName => k_is)
    (case tI_BadName => k_is)
    (case lI_BadName => k_is)
    (case cI_BadName => k_is)
    (case kI_BadName => k_is)
    (case aC_BadOption => k_is)
    (case xL_BadOption => k_is)
    (case xb_BadOption => decide +kernel)
    (case sa_BadOption => k_is)
    (case eC_BadOption => k_is)
    (case tC_BadOption => k_is)
    (case kC_BadOption => k_is)
    (case nf_BadOption => k_is)
    (case iI_BadOption => k_is)
    (case tI_BadOption => k_is)
    (case lI_BadOption => k_is)
    (case cI_BadOption => k_is)
    (case kI_BadOption => k_is)
    (case aC_BadPath => k_is)
    (case xL_BadPath => k_is)
    (case xb_BadPath => decide +kernel)
    (case sa_BadPath => k_is)
    (case eC_BadPath => k_is)
    (case tC_BadPath => k_is)
    (case kC_BadPath => k_is)
    (case nf_BadPath => k_is)
    (case iI_BadPath => k_is)
    (case tI_BadPath => k_is)
    (case lI_BadPath => k_is)
    (case cI_BadPath => k_is)
    (case kI_BadPath => k_is)
    (case ga_BadBits => k_is)
    (case gg_BadBits => k_is)
    (case hd_BadBits => k_is)
    (case ex_BadBits => k_is)
    (case ga_BadKind => k_is)
    (case gg_BadKind => k_is)
    (case hd_BadKind => k_is)
    (case ex_BadKind => k_is)
    (case ga_BadMember => k_is)
    (case gg_BadMember => k_is)
    (case hd_BadMember => k_is)
    (case ex_BadMember => k_is)
    (case ga_BadName => k_is)
    (case gg_BadName => k_is)
    (case hd_BadName => k_is)
    (case ex_BadName => k_is)
    (case ga_BadOption => k_is)
    (case gg_BadOption => k_is)
    (case hd_BadOption => k_is)
    (case ex_BadOption => k_is)
    (case ne_BadBits_BadKind => k_is)
    (case ne_BadBits_BadMember => k_is)
    (case ne_BadBits_BadName => k_is)
    (case ne_BadBits_BadOption => k_is)
    (case ne_BadKind_BadBits => k_is)
    (case ne_BadKind_BadMember => k_is)
    (case ne_BadKind_BadName => k_is)
    (case ne_BadKind_BadOption => k_is)
    (case ne_BadMember_BadBits => k_is)
    (case ne_BadMember_BadKind => k_is)
    (case ne_BadMember_BadName => k_is)
    (case ne_BadMember_BadOption => k_is)
    (case ne_BadName_BadBits => k_is)
    (case ne_BadName_BadKind => k_is)
    (case ne_BadName_BadMember => k_is)
    (case ne_BadName_BadOption => k_is)
    (case ne_BadOption_BadBits => k_is)
    (case ne_BadOption_BadKind => k_is)
    (case ne_BadOption_BadMember => k_is)
    (case ne_BadOption_BadName => k_is)
    (case aC_Layout => k_is)
    (case pg_Layout => k_is)
    (case hd_Layout => k_is)
    (case po_Layout => k_is)
    (case sa_Layout => k_is)
    (case nna_Layout_extent => k_is)
    (case nna_Layout_order => k_is)
    (case nna_Layout_positions => k_is)
    (case nna_Layout_rows => k_is)
    (case nna_Layout_rule => k_is)
    (case nna_Layout_step => k_is)
    (case aC_Shape => k_is)
    (case ic_Shape => k_is)
    (case ty_Shape => k_is)
    (case kf_Layout => k_is)
    (case ks_Layout => k_is)
    (case kt_Layout => k_is)
    (case kr_Layout => k_is)
    (case kbool_Layout => k_is)
    (case kint_Layout => k_is)
    (case kstr_Layout => k_is)
    (case klist_Layout => k_is)
    (case ktuple_Layout => k_is)
    (case kdict_Layout => k_is)
    (case kx_Layout_Shape => k_is)
    (case ke_Layout_Shape => exact fun _ => rfl)
    (case ac_ALIGNS => k_is)
    (case lc_ALIGNS => k_is)
    (case vc_ALIGNS => exact (.cons ⟨_, rfl⟩ (.cons ⟨_, rfl⟩ (.cons ⟨_, rfl⟩ (.cons ⟨_, rfl⟩ (.cons ⟨_, rfl⟩ (.cons ⟨_, rfl⟩ .nil)))))))
    (case ac_CONVENTIONS => k_is)
    (case lc_CONVENTIONS => k_is)
    (case vc_CONVENTIONS => exact (.cons ⟨_, rfl⟩ (.cons ⟨_, rfl⟩ .nil)))
    (case ac_DIGITS => k_is)
    (case ac_ENDS => k_is)
    (case lc_ENDS => k_is)
    (case vc_ENDS => exact (.cons ⟨_, rfl⟩ (.cons ⟨_, rfl⟩ .nil)))
    (case ac_LETTERS => k_is)
    (case ac_PACKS => k_is)
    (case lc_PACKS => k_is)
    (case vc_PACKS => exact (.cons ⟨_, rfl⟩ (.cons ⟨_, rfl⟩ (.cons ⟨_, rfl⟩ (.cons ⟨_, rfl⟩ (.cons ⟨_, rfl⟩ .nil))))))
    (case ac_SIZES => k_is)
    (case lc_SIZES => k_is)
    (case vc_SIZES => exact (.cons ⟨_, rfl⟩ (.cons ⟨_, rfl⟩ (.cons ⟨_, rfl⟩ (.cons ⟨_, rfl⟩ .nil)))))
    (case z_all => k_is)
    (case z_bool => k_is)
    (case z_dict => k_is)
    (case z_enumerate => k_is)
    (case z_int => k_is)
    (case z_isinstance => k_is)
    (case z_len => k_is)
    (case z_list => k_is)
    (case z_max => k_is)
    (case z_min => k_is)
    (case z_range => k_is)
    (case z_str => k_is)
    (case z_sum => k_is)
    (case z_tuple => k_is)
    (case z_zip => k_is)
    (case a_draw => k_is)
    (case l_draw => k_is)
    (case c_draw => k_is)
    (case k_draw => k_is)
    (case a_eplainB => k_is)
    (case l_eplainB => k_is)
    (case c_eplainB => k_is)
    (case k_eplainB => k_is)
    (case a_is_word_of => k_is)
    (case l_is_word_of => k_is)
    (case c_is_word_of => k_is)
    (case k_is_word_of => k_is)
    (case a_is_integer => k_is)
    (case l_is_integer => k_is)
    (case c_is_integer => k_is)
    (case k_is_integer => k_is)
    (case a_is_number_of => k_is)
    (case l_is_number_of => k_is)
    (case c_is_number_of => k_is)
    (case k_is_number_of => k_is)
    (case a_checked_options => k_is)
    (case l_checked_options => k_is)
    (case c_checked_options => k_is)
    (case k_checked_options => k_is)
    (case a_is_row => k_is)
    (case l_is_row => k_is)
    (case c_is_row => k_is)
    (case k_is_row => k_is)
    (case a_is_integer_kind => k_is)
    (case l_is_integer_kind => k_is)
    (case c_is_integer_kind => k_is)
    (case k_is_integer_kind => k_is)
    (case a_is_array_kind => k_is)
    (case l_is_array_kind => k_is)
    (case c_is_array_kind => k_is)
    (case k_is_array_kind => k_is)
    (case a_checked_kind => k_is)
    (case l_checked_kind => k_is)
    (case c_checked_kind => k_is)
    (case k_checked_kind => k_is)
    (case a_is_name => k_is)
    (case l_is_name => k_is)
    (case c_is_name => k_is)
    (case k_is_name => k_is)
    (case a_checked_member => k_is)
    (case l_checked_member => k_is)
    (case c_checked_member => k_is)
    (case k_checked_member => k_is)
    (case a_checked_members => k_is)
    (case l_checked_members => k_is)
    (case c_checked_members => k_is)
    (case k_checked_members => k_is)
    (case a_names_of => k_is)
    (case l_names_of => k_is)
    (case c_names_of => k_is)
    (case k_names_of => k_is)
    (case a_checked_names => k_is)
    (case l_checked_names => k_is)
    (case c_checked_names => k_is)
    (case k_checked_names => k_is)
    (case a_up => k_is)
    (case l_up => k_is)
    (case c_up => k_is)
    (case k_up => k_is)
    (case a_Layout_init => k_is)
    (case i_Layout_init => k_is)
    (case mk_Layout => k_is)
    (case kc_Layout => k_is)
    (case l_Layout_init => k_is)
    (case c_Layout_init => k_is)
    (case k_Layout_init => k_is)
    (case a_Layout_size => k_is)
    (case pg_Layout_size => k_is)
    (case pt_Layout_size => k_is)
    (case pr_Layout_sizeh => k_is)
    (case l_Layout_size => k_is)
    (case c_Layout_size => k_is)
    (case k_Layout_size => k_is)
    (case a_size_of => k_is)
    (case l_size_of => k_is)
    (case c_size_of => k_is)
    (case k_size_of => k_is)
    (case a_Layout_alignment => k_is)
    (case pg_Layout_alignment => k_is)
    (case pt_Layout_alignment => k_is)
    (case pr_Layout_alignmenth => k_is)
    (case l_Layout_alignment => k_is)
    (case c_Layout_alignment => k_is)
    (case k_Layout_alignment => k_is)
    (case a_alignment_of => k_is)
    (case l_alignment_of => k_is)
    (case c_alignment_of => k_is)
    (case k_alignment_of => k_is)
    (case a_step_of => k_is)
    (case l_step_of => k_is)
    (case c_step_of => k_is)
    (case k_step_of => k_is)
    (case a_msvc_union => k_is)
    (case l_msvc_union => k_is)
    (case c_msvc_union => k_is)
    (case k_msvc_union => k_is)
    (case a_msvc_structure => k_is)
    (case l_msvc_structure => k_is)
    (case c_msvc_structure => k_is)
    (case k_msvc_structure => k_is)
    (case a_counts => k_is)
    (case l_counts => k_is)
    (case c_counts => k_is)
    (case k_counts => k_is)
    (case a_sysv_union => k_is)
    (case l_sysv_union => k_is)
    (case c_sysv_union => k_is)
    (case k_sysv_union => k_is)
    (case a_is_moved => k_is)
    (case l_is_moved => k_is)
    (case c_is_moved => k_is)
    (case k_is_moved => k_is)
    (case a_sysv_structure => k_is)
    (case l_sysv_structure => k_is)
    (case c_sysv_structure => k_is)
    (case k_sysv_structure => k_is)
    (case a_layout_of => k_is)
    (case l_layout_of => k_is)
    (case c_layout_of => k_is)
    (case k_layout_of => k_is)
    (case a_struct => k_is)
    (case l_struct => k_is)
    (case c_struct => k_is)
    (case k_struct => k_is)
    (case w_struct_ends => k_is)
    (case w_struct_align => k_is)
    (case w_struct_pack => k_is)
    (case w_struct_convention => k_is)
    (case a_union => k_is)
    (case l_union => k_is)
    (case c_union => k_is)
    (case k_union => k_is)
    (case w_union_ends => k_is)
    (case w_union_align => k_is)
    (case w_union_pack => k_is)
    (case w_union_convention => k_is)
    (case a_edeclared => k_is)
    (case l_edeclared => k_is)
    (case c_edeclared => k_is)
    (case k_edeclared => k_is)
    (case a_etried => k_is)
    (case l_etried => k_is)
    (case c_etried => k_is)
    (case k_etried => k_is)
    (case a_erow_names => k_is)
    (case l_erow_names => k_is)
    (case c_erow_names => k_is)
    (case k_erow_names => k_is)
    (case a_pick => k_is)
    (case l_pick => k_is)
    (case c_pick => k_is)
    (case k_pick => k_is)
    (case a_enamed_plan => k_is)
    (case l_enamed_plan => k_is)
    (case c_enamed_plan => k_is)
    (case k_enamed_plan => k_is)
    (case a_enamed_rows => k_is)
    (case l_enamed_rows => k_is)
    (case c_enamed_rows => k_is)
    (case k_enamed_rows => k_is)
    (case a_ebuilt => k_is)
    (case l_ebuilt => k_is)
    (case c_ebuilt => k_is)
    (case k_ebuilt => k_is)
    (case a_emembers => k_is)
    (case l_emembers => k_is)
    (case c_emembers => k_is)
    (case k_emembers => k_is)
    (case a_Layout_ends => k_is)
    (case pg_Layout_ends => k_is)
    (case pt_Layout_ends => k_is)
    (case pr_Layout_endsh => k_is)
    (case l_Layout_ends => k_is)
    (case c_Layout_ends => k_is)
    (case k_Layout_ends => k_is)
    (case a_row_named => k_is)
    (case l_row_named => k_is)
    (case c_row_named => k_is)
    (case k_row_named => k_is)
    (case a_step_from => k_is)
    (case l_step_from => k_is)
    (case c_step_from => k_is)
    (case k_step_from => k_is)
    (case a_lead => k_is)
    (case l_lead => k_is)
    (case c_lead => k_is)
    (case k_lead => k_is)
    (case a_spot_of => k_is)
    (case l_spot_of => k_is)
    (case c_spot_of => k_is)
    (case k_spot_of => k_is)
    (case a_Layout_checked_spot => k_is)
    (case i_Layout_checked_spot => k_is)
    (case l_Layout_checked_spot => k_is)
    (case c_Layout_checked_spot => k_is)
    (case k_Layout_checked_spot => k_is)
    (case a_is_number_kind => k_is)
    (case l_is_number_kind => k_is)
    (case c_is_number_kind => k_is)
    (case k_is_number_kind => k_is)
    (case a_Layout_octet_at => k_is)
    (case i_Layout_octet_at => k_is)
    (case l_Layout_octet_at => k_is)
    (case c_Layout_octet_at => k_is)
    (case k_Layout_octet_at => k_is)
    (case a_law => k_is)
    (case l_law => k_is)
    (case c_law => k_is)
    (case k_law => k_is)
