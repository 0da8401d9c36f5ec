import PyProof.Rows.All
import Wide.All
import OpenK.AllK
import Wide.FinOn
import HandS.ForMost
import HandS.ForExc
import HandS.Walk
import HandS.Zip
import HandS.TryMany
import HandS.Style
import HandS.Property
import HandS.IsInst
import HandS.CallSlots
import HandS.ExcInit
import HandS.ExcField
import HandS.TupAny
import HandS.TryOnly
import HandS.Wide
import HandS.Lambda
import HandS.Defaults
import HandS.Conv
import PyProof.DictUpdate
import HandS.Flow
import HandS.Small
import KE.KDictZip
import KE.GoesMore
import HandS.TupLe
import HandS.Deep
import KE.KOpsOwn
import PyProof.InstEq
import HandS.OwnEq
import HandS.ExcIs
import PySem.Challenge.RW_fieldberth_k35_memories_made
set_option Elab.async false
set_option linter.all false
set_option maxRecDepth 100000
/-! Dl: programs as functions over plain data. D: data; M: what a def comes to; Rep: how data lie in the heap. -/
namespace Dl
open PySem L2
/-- plain data: lists that nobody changes any more and tuples are trees; ptr: an object that may change or whose identity counts; strm: the law's stream -/
inductive D where
  | non | bl (b : Bool) | int (i : Int) | str (x : Str) | lst (ds : List D) | tup (ds : List D) | dic (ks : List Key) (ds : List D) | obj (k : Nat) (c : Str) (ns : List Str) (ds : List D) | ptr (k : Nat) | strm
/-- what stands at a pointer -/
inductive Cell where
  | lst (ds : List D) | dic (kvs : List (Key × D)) | ins (c : Str) (fs : List (Str × D)) | out
/-- the law's stream: what is left of the script, the number at hand, the draws so far, the mix -/
structure Strm where
  xs : List Int
  cur : Int
  cnt : Int
  mix : Int
structure MS where
  cells : List Cell
  st : Strm
structure Err where
  cls : Str
  fld : Str
  val : D
inductive Res (α : Type) where
  | ok (a : α) (s : MS)
  | err (e : Err) (s : MS)
  | bad
@[reducible] def M (α : Type) := MS → Res α
namespace M
def pure {α : Type} (a : α) : M α := fun s => .ok a s
def bind {α β : Type} (m : M α) (f : α → M β) : M β := fun s => match m s with
  | .ok a s' => f a s'
  | .err e s' => .err e s'
  | .bad => .bad
def bad {α : Type} : M α := fun _ => .bad
def raise {α : Type} (e : Err) : M α := fun s => .err e s
end M
/-- the ghost of a state: where the pointers lie, where the stream lies, what else may still change (lists that some frame builds) -/
structure Gh where
  φ : List Addr
  sa : Addr
  sb : Addr
  O : Addr → Prop
  Z : Addr → Prop
  mg : Str → Option Value
  T : List (Addr × Str)
def Gh.cell (G : Gh) (b : Addr) : Prop := (b ∈ G.φ ∧ ¬ G.Z b) ∨ b = G.sa ∨ b = G.sb ∨ b ∈ G.T.map Prod.fst
def Gh.mu (G : Gh) (b : Addr) : Prop := G.cell b ∨ G.O b
section
variable (K : PySem.W.Frag) (G : Gh) (H : Hp)
mutual
inductive Rep : V → D → Prop
  | non : Rep .non .non
  | bl (b : Bool) : Rep (.bl b) (.bl b)
  | int (i : Int) : Rep (.int i) (.int i)
  | str (x : Str) : Rep (.str x) (.str x)
  | lst {a : Addr} {xs : List V} {ds : List D} : H a = some (.lst xs) → xs.length ≤ sizeLine → ¬ G.mu a → Reps xs ds → Rep (.ref a) (.lst ds)
  | tup {a : Addr} {xs : List V} {ds : List D} : SqT K H a xs → xs.length ≤ sizeLine → Reps xs ds → Rep (.ref a) (.tup ds)
  | dic {a : Addr} {ks : List (Key × V)} {ls : List Key} {ds : List D} : H a = some (.dK ks) → ks.length ≤ sizeLine → ¬ G.mu a → ks.map Prod.fst = ls → Reps (ks.map Prod.snd) ds → Rep (.ref a) (.dic ls ds)
  | obj {a C dx : Addr} {k : Nat} {c : Str} {gs : List (Str × V)} {ns : List Str} {ds : List D} : G.φ[k]? = some a → G.mg c = some (.ref C) → H a = some (.ins C dx gs) → ¬ G.mu a → gs.map Prod.fst = ns → Reps (gs.map Prod.snd) ds → Rep (.ref a) (.obj k c ns ds)
  | ptr {a : Addr} {k : Nat} : G.φ[k]? = some a → Rep (.ref a) (.ptr k)
  | strm : Rep (.ref G.sa) .strm
inductive Reps : List V → List D → Prop
  | nil : Reps [] []
  | cons {v : V} {d : D} {vs : List V} {ds : List D} : Rep v d → Reps vs ds → Reps (v :: vs) (d :: ds)
end
/-- a dict's pairs, an instance's attributes -/
inductive KReps : List (Key × V) → List (Key × D) → Prop
  | nil : KReps [] []
  | cons {k : Key} {v : V} {d : D} {vs : List (Key × V)} {ds : List (Key × D)} : Rep K G H v d → KReps vs ds → KReps ((k, v) :: vs) ((k, d) :: ds)
inductive FReps : List (Str × V) → List (Str × D) → Prop
  | nil : FReps [] []
  | cons {k : Str} {v : V} {d : D} {vs : List (Str × V)} {ds : List (Str × D)} : Rep K G H v d → FReps vs ds → FReps ((k, v) :: vs) ((k, d) :: ds)
end
/-- never changed by anyone -/
def Fix : HO → Prop
  | .tup _ => True
  | .frz _ _ => True
  | _ => False
/-- tables of code objects, and the code objects that they tell, stay such -/
structure KeepT (T : List (Addr × Str)) (H H' : Hp) : Prop where
  tab : ∀ p ∈ T, LamX.TabS H p.1 p.2 → LamX.TabS H' p.1 p.2
  code : ∀ c q, H c = some (LamX.CodeO c q) → H' c = some (LamX.CodeO c q)
theorem KeepT.refl {T : List (Addr × Str)} (H : Hp) : KeepT T H H := ⟨fun _ _ h => h, fun _ _ h => h⟩
theorem KeepT.trans {T : List (Addr × Str)} {H H1 H2 : Hp} (a : KeepT T H H1) (b : KeepT T H1 H2) : KeepT T H H2 := ⟨fun p hp h => b.tab p hp (a.tab p hp h), fun c q h => b.code c q (a.code c q h)⟩
theorem KeepT.ext {T : List (Addr × Str)} {H H' : Hp} (e : ∀ b o, H b = some o → H' b = some o) : KeepT T H H' := ⟨fun _ _ h => h.ext e, fun _ _ h => e _ _ h⟩
/-- no table, no code object -/
def HO.ord : HO → Prop
  | .tbl _ => False
  | .ext _ => False
  | _ => True
theorem KeepT.put {T : List (Addr × Str)} {H : Hp} {a : Addr} {o o' : HO} (h : H a = some o) (p : HO.ord o) : KeepT T H (upd H a o') := by
  have co : ∀ c q, H c = some (LamX.CodeO c q) → upd H a o' c = some (LamX.CodeO c q) := fun c q hc => by
    have e : c ≠ a := fun e => by
      subst e
      rw [hc] at h
      cases h
      unfold LamX.CodeO at p
      exact p
    rw [upd_ne e]; exact hc
  refine ⟨fun w hw ht => ?_, co⟩
  obtain ⟨ps, h1, h2, h3⟩ := ht
  have e : w.1 ≠ a := fun e => by
    rw [e] at h1
    rw [h1] at h
    cases h
    exact p
  exact ⟨ps, by rw [upd_ne e]; exact h1, h2, fun pos cv hc => by
    obtain ⟨c, e1, e2⟩ := h3 pos cv hc
    exact ⟨c, e1, co c w.2 e2⟩⟩
/-- which defs hold lambdas, by a name that only such laws have -/
def lamKeys : List (Str × Str) := [("_law_four_right", "_law_four_right"), ("_law_told", "law"), ("_law_twice", "law"), ("_law_refused_right", "_law_refused_right"), ("_law_views", "_law_deed"), ("_law_any_path", "law")]
def codeAt (K : PySem.W.Frag) (f : Addr) : Option Addr := match K.lookup f with
  | some ⟨_, _, .func fd, _⟩ => (match fd.code with
    | .ref c => some c
    | _ => none)
  | _ => none
def tabAt (K : PySem.W.Frag) (c : Addr) : Option Addr := match K.lookup c with
  | some ⟨_, _, .fields vs, _⟩ => (match (vs[11]? : Option Value) with
    | some (.ref P) => some P
    | _ => none)
  | _ => none
/-- the tables that the law's lambdas are written into -/
def tabX (K : PySem.W.Frag) (mg : Str → Option Value) : List (Addr × Str) := match lamKeys.find? fun p => (mg p.1).isSome with
  | some (_, x) => (match mg x with
    | some (.ref f) => (match (codeAt K f).bind (tabAt K) with
      | some P => [(P, (x ++ ".<locals>.") ++ "<lambda>")]
      | none => [])
    | _ => [])
  | none => []
theorem tabX_nil {K : PySem.W.Frag} {mg : Str → Option Value} (h1 : mg "_law_four_right" = none) (h2 : mg "_law_told" = none) (h3 : mg "_law_twice" = none) (h4 : mg "_law_refused_right" = none) (h5 : mg "_law_views" = none) (h6 : mg "_law_any_path" = none) : tabX K mg = [] := by
  unfold tabX
  simp only [lamKeys, List.find?, h1, h2, h3, h4, h5, h6]
  rfl
/-- from one state to a later one: only pointers and the stream have changed, all else that was tracked stands as it was -/
structure FR (G : Gh) (H : Hp) (G' : Gh) (H' : Hp) : Prop where
  pre : G.φ <+: G'.φ
  sa : G'.sa = G.sa
  sb : G'.sb = G.sb
  mg : G'.mg = G.mg
  keep : ∀ b o, H b = some o → (¬ G.cell b ∨ Fix o) → H' b = some o
  cnew : ∀ b, G'.cell b → G.cell b ∨ H b = none
  onew : ∀ b, G'.O b → G.O b ∨ H b = none
  oold : ∀ b, G.O b → G'.O b
  there : ∀ b o, H b = some o → ∃ o', H' b = some o'
  T : G'.T = G.T
  tb : KeepT G.T H H'
theorem FR.refl (G : Gh) (H : Hp) : FR G H G H := ⟨List.prefix_rfl, rfl, rfl, rfl, fun _ _ h _ => h, fun _ h => .inl h, fun _ h => .inl h, fun _ h => h, fun _ o h => ⟨o, h⟩, rfl, .refl H⟩
theorem FR.free {G G' : Gh} {H H' : Hp} (a : FR G H G' H') {b : Addr} (h : H' b = none) : H b = none := by
  cases e : H b with
  | none => rfl
  | some o =>
    obtain ⟨o', q⟩ := a.there b o e
    rw [h] at q; cases q
theorem FR.trans {G G1 G2 : Gh} {H H1 H2 : Hp} (a : FR G H G1 H1) (b : FR G1 H1 G2 H2) : FR G H G2 H2 where
  pre := a.pre.trans b.pre
  sa := b.sa.trans a.sa
  sb := b.sb.trans a.sb
  mg := b.mg.trans a.mg
  keep := fun c o h q => b.keep c o (a.keep c o h q) (by
    rcases q with q | q
    · refine .inl fun z => ?_
      rcases a.cnew c z with y | y
      · exact q y
      · rw [h] at y; cases y
    · exact .inr q)
  cnew := fun c h => by
    rcases b.cnew c h with z | z
    · exact a.cnew c z
    · exact .inr (a.free z)
  onew := fun c h => by
    rcases b.onew c h with z | z
    · exact a.onew c z
    · exact .inr (a.free z)
  oold := fun c h => b.oold c (a.oold c h)
  there := fun c o h => by
    obtain ⟨o', q⟩ := a.there c o h
    exact b.there c o' q
  T := b.T.trans a.T
  tb := a.tb.trans (by rw [← a.T]; exact b.tb)
theorem FR.mu {G G1 : Gh} {H H1 : Hp} (a : FR G H G1 H1) {b : Addr} {o : HO} (h : H b = some o) (n : ¬ G.mu b) : ¬ G1.mu b := fun z => by
  rcases z with z | z
  · rcases a.cnew b z with y | y
    · exact n (.inl y)
    · rw [h] at y; cases y
  · rcases a.onew b z with y | y
    · exact n (.inr y)
    · rw [h] at y; cases y
theorem FR.sqT {K : PySem.W.Frag} {G G1 : Gh} {H H1 : Hp} (r : FR G H G1 H1) {a : Addr} {xs : List V} (h : SqT K H a xs) : SqT K H1 a xs := by
  rcases h with (h | ⟨u, h⟩) | h
  · exact .inl (.inl (r.keep _ _ h (.inr trivial)))
  · exact .inl (.inr ⟨u, r.keep _ _ h (.inr trivial)⟩)
  · exact .inr h
/-- the same with less: what a frame builds may have changed, too -/
structure LR (G : Gh) (H : Hp) (G' : Gh) (H' : Hp) : Prop where
  pre : G.φ <+: G'.φ
  sa : G'.sa = G.sa
  sb : G'.sb = G.sb
  mg : G'.mg = G.mg
  keep : ∀ b o, H b = some o → (¬ G.mu b ∨ Fix o) → H' b = some o
  mnew : ∀ b, G'.mu b → G.mu b ∨ H b = none
  there : ∀ b o, H b = some o → ∃ o', H' b = some o'
theorem LR.refl (G : Gh) (H : Hp) : LR G H G H := ⟨List.prefix_rfl, rfl, rfl, rfl, fun _ _ h _ => h, fun _ h => .inl h, fun _ o h => ⟨o, h⟩⟩
theorem LR.free {G G' : Gh} {H H' : Hp} (a : LR G H G' H') {b : Addr} (h : H' b = none) : H b = none := by
  cases e : H b with
  | none => rfl
  | some o =>
    obtain ⟨o', q⟩ := a.there b o e
    rw [h] at q; cases q
theorem LR.trans {G G1 G2 : Gh} {H H1 H2 : Hp} (a : LR G H G1 H1) (b : LR G1 H1 G2 H2) : LR G H G2 H2 where
  pre := a.pre.trans b.pre
  sa := b.sa.trans a.sa
  sb := b.sb.trans a.sb
  mg := b.mg.trans a.mg
  keep := fun c o h q => b.keep c o (a.keep c o h q) (by
    rcases q with q | q
    · refine .inl fun z => ?_
      rcases a.mnew c z with y | y
      · exact q y
      · rw [h] at y; cases y
    · exact .inr q)
  mnew := fun c h => by
    rcases b.mnew c h with z | z
    · exact a.mnew c z
    · exact .inr (a.free z)
  there := fun c o h => by
    obtain ⟨o', q⟩ := a.there c o h
    exact b.there c o' q
theorem FR.lr {G G1 : Gh} {H H1 : Hp} (a : FR G H G1 H1) : LR G H G1 H1 :=
  ⟨a.pre, a.sa, a.sb, a.mg, fun b o h q => a.keep b o h (q.elim (fun y => .inl fun z => y (.inl z)) .inr), fun b h => by
    rcases h with h | h
    · exact (a.cnew b h).elim (fun y => .inl (.inl y)) .inr
    · exact (a.onew b h).elim (fun y => .inl (.inr y)) .inr, a.there⟩
theorem LR.sqT {K : PySem.W.Frag} {G G1 : Gh} {H H1 : Hp} (r : LR G H G1 H1) {a : Addr} {xs : List V} (h : SqT K H a xs) : SqT K H1 a xs := by
  rcases h with (h | ⟨u, h⟩) | h
  · exact .inl (.inl (r.keep _ _ h (.inr trivial)))
  · exact .inl (.inr ⟨u, r.keep _ _ h (.inr trivial)⟩)
  · exact .inr h
section
variable {K : PySem.W.Frag} {G G1 : Gh} {H H1 : Hp}
mutual
theorem Rep.lr (r : LR G H G1 H1) : ∀ {v : V} {d : D}, Rep K G H v d → Rep K G1 H1 v d
  | _, _, .non => .non
  | _, _, .bl b => .bl b
  | _, _, .int i => .int i
  | _, _, .str x => .str x
  | _, _, .lst h z n t => .lst (r.keep _ _ h (.inl n)) z (fun q => (r.mnew _ q).elim n fun y => by rw [h] at y; cases y) (Reps.lr r t)
  | _, _, .tup h z t => .tup (r.sqT h) z (Reps.lr r t)
  | _, _, .dic h z n e t => .dic (r.keep _ _ h (.inl n)) z (fun q => (r.mnew _ q).elim n fun y => by rw [h] at y; cases y) e (Reps.lr r t)
  | _, _, .obj p m h n e t => .obj (by
      obtain ⟨t, e⟩ := r.pre
      rw [← e, List.getElem?_append_left (List.getElem?_eq_some_iff.mp p).1]
      exact p) (by rw [r.mg]; exact m) (r.keep _ _ h (.inl n)) (fun q => (r.mnew _ q).elim n fun y => by rw [h] at y; cases y) e (Reps.lr r t)
  | _, _, .ptr h => .ptr (by
      obtain ⟨t, e⟩ := r.pre
      rw [← e, List.getElem?_append_left (List.getElem?_eq_some_iff.mp h).1]
      exact h)
  | _, _, .strm => by rw [← r.sa]; exact .strm
theorem Reps.lr (r : LR G H G1 H1) : ∀ {v : List V} {d : List D}, Reps K G H v d → Reps K G1 H1 v d
  | _, _, .nil => .nil
  | _, _, .cons h t => .cons (Rep.lr r h) (Reps.lr r t)
end
theorem KReps.lr (r : LR G H G1 H1) : ∀ {v : List (Key × V)} {d : List (Key × D)}, KReps K G H v d → KReps K G1 H1 v d
  | _, _, .nil => .nil
  | _, _, .cons h t => .cons (h.lr r) (KReps.lr r t)
theorem FReps.lr (r : LR G H G1 H1) : ∀ {v : List (Str × V)} {d : List (Str × D)}, FReps K G H v d → FReps K G1 H1 v d
  | _, _, .nil => .nil
  | _, _, .cons h t => .cons (h.lr r) (FReps.lr r t)
theorem Rep.mono (r : FR G H G1 H1) {v : V} {d : D} (h : Rep K G H v d) : Rep K G1 H1 v d := h.lr r.lr
theorem Reps.mono (r : FR G H G1 H1) {v : List V} {d : List D} (h : Reps K G H v d) : Reps K G1 H1 v d := h.lr r.lr
theorem KReps.mono (r : FR G H G1 H1) {v : List (Key × V)} {d : List (Key × D)} (h : KReps K G H v d) : KReps K G1 H1 v d := h.lr r.lr
theorem FReps.mono (r : FR G H G1 H1) {v : List (Str × V)} {d : List (Str × D)} (h : FReps K G H v d) : FReps K G1 H1 v d := h.lr r.lr
end
/-- what a frame builds: own or given up -/
def Gh.own (G : Gh) (l : Addr) : Gh := { G with O := fun b => b = l ∨ G.O b }
def Gh.let (G : Gh) (l : Addr) : Gh := { G with O := fun b => b ≠ l ∧ G.O b }
/-- an object that may change does -/
theorem LR.put {G : Gh} {H : Hp} {l : Addr} {o o' : HO} (hl : H l = some o) (hf : ¬ Fix o) (hm : G.mu l) : LR G H G (upd H l o') :=
  ⟨List.prefix_rfl, rfl, rfl, rfl, fun b u h q => by
    rw [upd_ne fun e => ?_]
    · exact h
    · subst e
      rw [hl] at h; cases h
      exact q.elim (fun y => y hm) hf, fun b h => .inl h, fun b u h => by
    by_cases e : b = l
    · rw [e]; exact ⟨o', upd_same⟩
    · exact ⟨u, by rw [upd_ne e]; exact h⟩⟩
theorem LR.let {G : Gh} {H : Hp} {l : Addr} : LR G H (G.let l) H :=
  ⟨List.prefix_rfl, rfl, rfl, rfl, fun _ _ h _ => h, fun b h => .inl (h.elim .inl fun y => .inr y.2), fun _ o h => ⟨o, h⟩⟩
section
variable {K : PySem.W.Frag} {G : Gh} {H : Hp} {l : Addr}
theorem Rep.let {v : V} {d : D} (h : Rep K G H v d) : Rep K (G.let l) H v d := h.lr LR.let
theorem Reps.let {v : List V} {d : List D} (h : Reps K G H v d) : Reps K (G.let l) H v d := h.lr LR.let
theorem KReps.let {v : List (Key × V)} {d : List (Key × D)} (h : KReps K G H v d) : KReps K (G.let l) H v d := h.lr LR.let
theorem FReps.let {v : List (Str × V)} {d : List (Str × D)} (h : FReps K G H v d) : FReps K (G.let l) H v d := h.lr LR.let
end
/-! ### states -/
section
variable (K : PySem.W.Frag) (mg : Str → Option Value)
def CellRep (G : Gh) (H : Hp) (a : Addr) : Cell → Prop
  | .lst ds => ∃ xs, H a = some (.lst xs) ∧ xs.length ≤ sizeLine ∧ Reps K G H xs ds
  | .dic kvs => ∃ ks, H a = some (.dK ks) ∧ ks.length ≤ sizeLine ∧ KReps K G H ks kvs
  | .ins c fs => ∃ C dx gs, mg c = some (.ref C) ∧ H a = some (.ins C dx gs) ∧ FReps K G H gs fs
  | .out => True
structure Wf (G : Gh) (H : Hp) (S : MS) : Prop where
  len : G.φ.length = S.cells.length
  nd : G.φ.Nodup
  cell : ∀ (k : Nat) (c : Cell) (a : Addr), S.cells[k]? = some c → G.φ[k]? = some a → CellRep K mg G H a c
  live : ∀ b, G.mu b → ∃ o, H b = some o
  ha : H G.sa = some (.lst [.ref G.sb, .int S.st.cur, .int S.st.cnt, .int S.st.mix])
  hb : H G.sb = some (.lst (S.st.xs.map V.int))
  sab : G.sa ≠ G.sb
  na : G.sa ∉ G.φ
  nb : G.sb ∉ G.φ
  zs : S.st.xs.length ≤ 1000
  hmg : G.mg = mg
  nz : ∀ (k : Nat) (c : Cell) (a : Addr), S.cells[k]? = some c → G.φ[k]? = some a → c ≠ .out → ¬ G.Z a
  zl : ∀ b, G.Z b → ∃ o, H b = some o
  zo : ∀ b, G.O b → b ∉ G.φ ∧ ¬ G.Z b
  hT : G.T = tabX K mg
  tb : LamX.Tabs G.T H
theorem FR.tabs {G G' : Gh} {H H' : Hp} (r : FR G H G' H') (t : LamX.Tabs G.T H) : LamX.Tabs G'.T H' := by
  rw [r.T]
  exact fun p hp => r.tb.tab p hp (t p hp)
/-- an error of the package: class, own dict with its one field -/
def ErrRep (G : Gh) (H : Hp) (e : Err) (cls : Value) (da : Option Addr) : Prop :=
  ∃ C d v, mg e.cls = some (.ref C) ∧ cls = .ref C ∧ da = some d ∧ H d = some (.xd [(e.fld, v)]) ∧ ¬ G.mu d ∧ Rep K G H v e.val
/-- what a slot is known to hold -/
inductive Slot where
  | any | val (d : D) | own (ds : List D) | exc (a dd : Addr) (f : Str) (d : D) | raw (f c : Addr) (q : Str) (Ga : Gh) (Ha : Hp)
def SlotRep (H0 : Hp) (G : Gh) (H : Hp) (u : Option (Option V)) : Slot → Prop
  | .any => True
  | .val d => ∃ v, u = some (some v) ∧ Rep K G H v d
  | .own ds => ∃ l xs, u = some (some (.ref l)) ∧ H l = some (.lst xs) ∧ xs.length ≤ sizeLine ∧ Reps K G H xs ds ∧ G.O l ∧ ¬ G.cell l ∧ H0 l = none
  | .exc a dd f d => u = some (some (.ref a)) ∧ ∃ v, H dd = some (.xd [(f, v)]) ∧ ¬ G.mu dd ∧ Rep K G H v d
  | .raw f c q Ga Ha => u = some (some (.ref f)) ∧ H c = some (LamX.CodeO c q) ∧ FR Ga Ha G H ∧ Ha = H0 ∧ ∀ b, Ga.mu b → ∃ o, Ha b = some o
/-- the state in a body: entered at G0, H0 -/
structure SI (G0 : Gh) (H0 : Hp) (G : Gh) (H : Hp) (σ : L2.St) (ρ : List Slot) (S : MS) : Prop where
  fr : FR G0 H0 G H
  live0 : ∀ b, G0.mu b → ∃ o, H0 b = some o
  wf : Wf K mg G H S
  len : σ.length = ρ.length
  env : ∀ (i : Nat) (s : Slot), ρ[i]? = some s → SlotRep K H0 G H σ[i]? s
  apart : ∀ (i j : Nat) (ds es : List D) (l : Addr), i ≠ j → ρ[i]? = some (.own ds) → ρ[j]? = some (.own es) → σ[i]? = some (some (.ref l)) → σ[j]? ≠ some (some (.ref l))
end
end Dl
namespace Dl
open PySem L2
section
variable {K : PySem.W.Frag} {mg : Str → Option Value} {G G0 G1 : Gh} {H H0 H1 : Hp} {S : MS} {σ : L2.St} {ρ : List Slot} {p : Addr} {o : HO}
theorem FR.alloc (h : H p = none) : FR G H G (upd H p o) :=
  ⟨List.prefix_rfl, rfl, rfl, rfl, fun b u e _ => by rw [upd_ne (ne_of_none e h)]; exact e, fun _ q => .inl q, fun _ q => .inl q, fun _ q => q, fun b u e => ⟨u, by rw [upd_ne (ne_of_none e h)]; exact e⟩, rfl, .ext fun b u e => by rw [upd_ne (ne_of_none e h)]; exact e⟩
theorem Wf.phi (w : Wf K mg G H S) {b : Addr} (h : b ∈ G.φ) : ∃ o, H b = some o := by
  by_cases z : G.Z b
  · exact w.zl b z
  · exact w.live b (.inl (.inl ⟨h, z⟩))
/-- the pointers' own objects as they were -/
theorem Wf.stay (w : Wf K mg G H S) (r : FR G H G1 H1) (hφ : G1.φ = G.φ) (hz : G1.Z = G.Z) (lv : ∀ b, G1.O b → ∃ o, H1 b = some o) (k : ∀ b u, G.cell b → H b = some u → H1 b = some u) : Wf K mg G1 H1 S where
  len := by rw [hφ]; exact w.len
  nd := by rw [hφ]; exact w.nd
  cell := fun i c a h1 h2 => by
    rw [hφ] at h2
    have q := w.cell i c a h1 h2
    have hc : c ≠ .out → G.cell a := fun n => .inl ⟨List.mem_of_getElem? h2, w.nz i c a h1 h2 n⟩
    cases c with
    | out => trivial
    | lst ds => obtain ⟨xs, e, z, t⟩ := q; exact ⟨xs, k _ _ (hc (by intro h; cases h)) e, z, t.mono r⟩
    | dic kvs => obtain ⟨xs, e, z, t⟩ := q; exact ⟨xs, k _ _ (hc (by intro h; cases h)) e, z, t.mono r⟩
    | ins c fs => obtain ⟨C, dx, gs, m, e, t⟩ := q; exact ⟨C, dx, gs, m, k _ _ (hc (by intro h; cases h)) e, t.mono r⟩
  live := fun b h => by
    rcases h with h | h
    · have hc : G.cell b := by
        unfold Gh.cell at h ⊢
        rw [hφ, hz, r.sa, r.sb, r.T] at h
        exact h
      obtain ⟨u, e⟩ := w.live b (.inl hc)
      exact r.there b u e
    · exact lv b h
  ha := by rw [r.sa, r.sb]; exact k _ _ (.inr (.inl rfl)) w.ha
  hb := by rw [r.sb]; exact k _ _ (.inr (.inr (.inl rfl))) w.hb
  sab := by rw [r.sa, r.sb]; exact w.sab
  na := by rw [r.sa, hφ]; exact w.na
  nb := by rw [r.sb, hφ]; exact w.nb
  zs := w.zs
  hmg := r.mg.trans w.hmg
  nz := fun i c a h1 h2 n => by rw [hφ] at h2; rw [hz]; exact w.nz i c a h1 h2 n
  zl := fun b h => by
    rw [hz] at h
    obtain ⟨o, q⟩ := w.zl b h
    exact r.there b o q
  zo := fun b h => by
    rw [hφ, hz]
    rcases r.onew b h with h | h
    · exact w.zo b h
    · refine ⟨fun q => ?_, fun q => ?_⟩
      · obtain ⟨u, e⟩ := w.phi q
        rw [h] at e; cases e
      · obtain ⟨u, e⟩ := w.zl b q
        rw [h] at e; cases e
  hT := r.T.trans w.hT
  tb := r.tabs w.tb
theorem Wf.alloc (w : Wf K mg G H S) (h : H p = none) : Wf K mg G (upd H p o) S := w.stay (.alloc h) rfl rfl (fun b hb => by
    obtain ⟨u, e⟩ := w.live b (.inr hb)
    exact ⟨u, by rw [upd_ne (ne_of_none e h)]; exact e⟩) fun b u _ e => by rw [upd_ne (ne_of_none e h)]; exact e
theorem FR.allocO (h : H p = none) : FR G H (G.own p) (upd H p o) :=
  ⟨List.prefix_rfl, rfl, rfl, rfl, fun b u e _ => by rw [upd_ne (ne_of_none e h)]; exact e, fun _ q => .inl q, fun b q => by
    rcases q with q | q
    · rw [q]; exact .inr h
    · exact .inl q, fun _ q => .inr q, fun b u e => ⟨u, by rw [upd_ne (ne_of_none e h)]; exact e⟩, rfl, .ext fun b u e => by rw [upd_ne (ne_of_none e h)]; exact e⟩
theorem Wf.allocO (w : Wf K mg G H S) (h : H p = none) : Wf K mg (G.own p) (upd H p o) S := w.stay (.allocO h) rfl rfl (fun b hb => by
    rcases hb with q | hb
    · rw [q]; exact ⟨o, upd_same⟩
    · obtain ⟨u, e⟩ := w.live b (.inr hb)
      exact ⟨u, by rw [upd_ne (ne_of_none e h)]; exact e⟩) fun b u _ e => by rw [upd_ne (ne_of_none e h)]; exact e
theorem Wf.tabs_ne (w : Wf K mg G H S) {a : Addr} {o : HO} (h : a ∈ G.T.map Prod.fst) (hx : H a = some o) (ho : HO.ord o) : False := by
  obtain ⟨q, hq, e⟩ := List.mem_map.mp h
  obtain ⟨ps, h1, _⟩ := w.tb q hq
  rw [e, hx] at h1
  cases h1
  exact ho
theorem Wf.fresh (w : Wf K mg G H S) (h : H p = none) : ¬ G.mu p := fun q => by
  obtain ⟨u, e⟩ := w.live p q
  rw [h] at e; cases e
theorem SI.mono {S' : MS} (s : SI K mg G0 H0 G H σ ρ S) (r : FR G H G1 H1) (w : Wf K mg G1 H1 S') : SI K mg G0 H0 G1 H1 σ ρ S' where
  fr := s.fr.trans r
  live0 := s.live0
  wf := w
  len := s.len
  env := fun i x h => by
    have q := s.env i x h
    cases x with
    | any => trivial
    | val d => obtain ⟨v, e, t⟩ := q; exact ⟨v, e, t.mono r⟩
    | own ds =>
      obtain ⟨l, xs, e, hl, z, t, ho, hc, h0⟩ := q
      refine ⟨l, xs, e, r.keep _ _ hl (.inl hc), z, t.mono r, r.oold _ ho, fun y => ?_, h0⟩
      rcases r.cnew l y with y | y
      · exact hc y
      · rw [hl] at y; cases y
    | exc a dd f d => obtain ⟨e, v, hd, n, t⟩ := q; exact ⟨e, v, r.keep _ _ hd (.inl fun c => n (.inl c)), r.mu hd n, t.mono r⟩
    | raw f c y Ga Ha => obtain ⟨e, hc, f1, e0, l0⟩ := q; exact ⟨e, r.tb.code _ _ hc, f1.trans r, e0, l0⟩
  apart := s.apart
theorem SI.alloc (s : SI K mg G0 H0 G H σ ρ S) (h : H p = none) : SI K mg G0 H0 G (upd H p o) σ ρ S := s.mono (.alloc h) (s.wf.alloc h)
end
section
variable {K : PySem.W.Frag} {mg : Str → Option Value} {G G0 G1 : Gh} {H H0 H1 : Hp} {S : MS} {σ : L2.St} {ρ : List Slot} {p l : Addr} {o : HO}
theorem SI.allocO (s : SI K mg G0 H0 G H σ ρ S) (h : H p = none) : SI K mg G0 H0 (G.own p) (upd H p o) σ ρ S := s.mono (.allocO h) (s.wf.allocO h)
/-- a list that no slot owns is given up: from then on it does not change -/
theorem FR.let (r : FR G0 H0 G H) (h : ∀ b, G0.O b → b ≠ l) : FR G0 H0 (G.let l) H :=
  ⟨r.pre, r.sa, r.sb, r.mg, r.keep, r.cnew, fun b q => r.onew b q.2, fun b q => ⟨h b q, r.oold b q⟩, r.there, r.T, r.tb⟩
theorem FR.box {G G' : Gh} {H H' : Hp} {l : Addr} (f : FR G H G' H') (n : H l = none) (lv : ∀ b, G.mu b → ∃ o, H b = some o) : FR G H { G' with φ := G'.φ ++ [l], O := fun b => b ≠ l ∧ G'.O b } H' := by
  refine ⟨f.pre.trans (List.prefix_append _ _), f.sa, f.sb, f.mg, f.keep, fun b hb => ?_, fun b hb => f.onew b hb.2, fun b hb => ⟨fun e' => ?_, f.oold b hb⟩, f.there, f.T, f.tb⟩
  · rcases hb with hb | hb | hb
    · rcases List.mem_append.mp hb.1 with k | hb'
      · exact f.cnew b (.inl ⟨k, hb.2⟩)
      · have e' : b = l := by simpa using hb'
        rw [e']; exact .inr n
    · exact f.cnew b (.inr (.inl hb))
    · exact f.cnew b (.inr (.inr hb))
  · obtain ⟨u, w⟩ := lv b (.inr hb)
    rw [e', n] at w; cases w
theorem Wf.let (w : Wf K mg G H S) : Wf K mg (G.let l) H S where
  len := w.len
  nd := w.nd
  cell := fun i c a h1 h2 => by
    have q := w.cell i c a h1 h2
    cases c with
    | lst ds => obtain ⟨xs, e, z, t⟩ := q; exact ⟨xs, e, z, t.let⟩
    | dic kvs => obtain ⟨xs, e, z, t⟩ := q; exact ⟨xs, e, z, t.let⟩
    | ins c fs => obtain ⟨C, dx, gs, m, e, t⟩ := q; exact ⟨C, dx, gs, m, e, t.let⟩
    | out => trivial
  live := fun b h => w.live b (h.elim .inl fun y => .inr y.2)
  ha := w.ha
  hb := w.hb
  sab := w.sab
  na := w.na
  nb := w.nb
  zs := w.zs
  hmg := w.hmg
  nz := w.nz
  zl := w.zl
  zo := fun b h => w.zo b h.2
  hT := w.hT
  tb := w.tb
theorem SI.let (s : SI K mg G0 H0 G H σ ρ S) (h0 : H0 l = none) (n : ∀ (i : Nat) (ds : List D), ρ[i]? = some (.own ds) → σ[i]? ≠ some (some (V.ref l))) : SI K mg G0 H0 (G.let l) H σ ρ S where
  fr := s.fr.let fun b hb e => by
    obtain ⟨u, q⟩ := s.live0 b (.inr hb)
    rw [e, h0] at q; cases q
  live0 := s.live0
  wf := s.wf.let
  len := s.len
  env := fun i x h => by
    have q := s.env i x h
    cases x with
    | any => trivial
    | val d => obtain ⟨v, e, t⟩ := q; exact ⟨v, e, t.let⟩
    | own ds =>
      obtain ⟨m, xs, e, hl, z, t, ho, hc, h0⟩ := q
      refine ⟨m, xs, e, hl, z, t.let, ⟨fun q => ?_, ho⟩, hc, h0⟩
      rw [q] at e
      exact n i ds h e
    | exc a dd f d => obtain ⟨e, v, hd, n, t⟩ := q; exact ⟨e, v, hd, fun z => n (z.elim .inl fun y => .inr y.2), t.let⟩
    | raw f c y Ga Ha =>
      obtain ⟨e, hc, f1, e0, l0⟩ := q
      exact ⟨e, hc, f1.let (fun b hb e => by
        obtain ⟨u, q⟩ := l0 b (.inr hb)
        rw [e, e0, h0] at q; cases q), e0, l0⟩
  apart := s.apart
/-- what a slot owns was there -/
theorem SI.owns (s : SI K mg G0 H0 G H σ ρ S) (h : H l = none) : ∀ (i : Nat) (ds : List D), ρ[i]? = some (.own ds) → σ[i]? ≠ some (some (V.ref l)) := fun i ds e q => by
  obtain ⟨m, xs, e', hl, _⟩ := s.env i _ e
  rw [q] at e'; cases e'
  rw [h] at hl; cases hl
end
/-! ### what is wanted behind a computation -/
section
variable (K : PySem.W.Frag) (mg : Str → Option Value) (W : WX)
def okG {α β : Type} (R : Gh → Hp → β → α → Prop) (G0 : Gh) (H0 : Hp) (G : Gh) (H : Hp) (σ : L2.St) (ρ : List Slot) (Q : β → Hp → Prop) : Res α → Prop
  | .ok a S => ∀ b G' H', SI K mg G0 H0 G' H' σ ρ S → FR G H G' H' → R G' H' b a → Q b H'
  | .err e S => ∀ cls da G' H', SI K mg G0 H0 G' H' σ ρ S → FR G H G' H' → ErrRep K mg G' H' e cls da → W cls da σ H'
  | .bad => False
/-- the reading of a piece whose computation is m -/
def tG {α β : Type} (R : Gh → Hp → β → α → Prop) (ρ : List Slot) (m : M α) : L2.St → Hp → (β → Hp → Prop) → Prop := fun σ H Q =>
  ∃ G0 H0 G S, SI K mg G0 H0 G H σ ρ S ∧ okG K mg W R G0 H0 G H σ ρ Q (m S)
end
abbrev RD (K : PySem.W.Frag) : Gh → Hp → V → D → Prop := fun G H v d => Rep K G H v d
abbrev RDs (K : PySem.W.Frag) : Gh → Hp → List V → List D → Prop := fun G H v d => Reps K G H v d
abbrev RB : Gh → Hp → Bool → Bool → Prop := fun _ _ a b => a = b
def ED (X : Cx) (W : WX) (ρ : List Slot) (e : Expr) (m : M D) : Prop := PE X e (tG X.K X.mg W (RD X.K) ρ m)
def ET (X : Cx) (W : WX) (ρ : List Slot) (e : Expr) (m : M Bool) : Prop := PT X e (tG X.K X.mg W RB ρ m)
def EA (X : Cx) (W : WX) (ρ : List Slot) (es : List Expr) (m : M (List D)) : Prop := PA X es (tG X.K X.mg W (RDs X.K) ρ m)
theorem PE.imp {X : Cx} {e : Expr} {t u : TE} (h : PE X e t) (k : ∀ σ H Q, u σ H Q → t σ H Q) : PE X e u := ⟨fun pins s σ H Q I q => h.run pins s σ H Q I (k σ H Q q)⟩
theorem PT.imp {X : Cx} {e : Expr} {t u : TT} (h : PT X e t) (k : ∀ σ H Q, u σ H Q → t σ H Q) : PT X e u := ⟨fun pins s σ H Q I q => h.run pins s σ H Q I (k σ H Q q)⟩
theorem PW.imp {X : Cx} {e : Expr} {t u : TT} (h : PW X e t) (k : ∀ σ H Q, u σ H Q → t σ H Q) : PW X e u := ⟨fun wh pins s σ H Q I q => h.run wh pins s σ H Q I (k σ H Q q)⟩
theorem PA.imp {X : Cx} {es : List Expr} {t u : TA} (h : PA X es t) (k : ∀ σ H Q, u σ H Q → t σ H Q) : PA X es u := ⟨fun pos pins s σ H Q I q => h.run pos pins s σ H Q I (k σ H Q q)⟩
theorem PS.imp {X : Cx} {st : Stmt} {t u : TS} (h : PS X st t) (k : ∀ D σ H, u D σ H → t D σ H) : PS X st u := ⟨fun pins s σ H D I q => h.run pins s σ H D I (k D σ H q)⟩
theorem PSs.imp {X : Cx} {st : List Stmt} {t u : TS} (h : PSs X st t) (k : ∀ D σ H, u D σ H → t D σ H) : PSs X st u := ⟨fun pins s σ H D I q => h.run pins s σ H D I (k D σ H q)⟩
section
variable {K : PySem.W.Frag} {mg : Str → Option Value} {W : WX} {α β γ δ : Type} {R : Gh → Hp → β → α → Prop} {R' : Gh → Hp → δ → γ → Prop} {G0 G G1 : Gh} {H0 H H1 : Hp} {σ : L2.St} {ρ : List Slot} {Q : β → Hp → Prop} {Q' : δ → Hp → Prop} {S : MS}
theorem okG.from {r : Res α} (h : okG K mg W R G0 H0 G H σ ρ Q r) (f : FR G H G1 H1) : okG K mg W R G0 H0 G1 H1 σ ρ Q r := by
  cases r with
  | ok a S => exact fun b G' H' s r q => h b G' H' s (f.trans r) q
  | err e S => exact fun cls da G' H' s r => h cls da G' H' s (f.trans r)
  | bad => exact h
theorem okG.bind {m : M α} {f : α → M γ} (h : okG K mg W R' G0 H0 G H σ ρ Q' (m.bind f S))
    (k : ∀ G1 H1 S1 b a, SI K mg G0 H0 G1 H1 σ ρ S1 → FR G H G1 H1 → R G1 H1 b a → okG K mg W R' G0 H0 G1 H1 σ ρ Q' (f a S1) → Q b H1) : okG K mg W R G0 H0 G H σ ρ Q (m S) := by
  unfold M.bind at h
  cases e : m S with
  | ok a S1 =>
    rw [e] at h
    exact fun b G' H' s r q => k G' H' S1 b a s r q (okG.from h r)
  | err x S1 => rw [e] at h; exact h
  | bad => rw [e] at h; exact h
theorem okG.here {a : α} {b : β} (h : okG K mg W R G0 H0 G H σ ρ Q (.ok a S)) (s : SI K mg G0 H0 G H σ ρ S) (r : R G H b a) : Q b H := h b G H s (.refl G H) r
theorem okG.new {a : α} {b : β} {p : Addr} {o : HO} (h : okG K mg W R G0 H0 G H σ ρ Q (.ok a S)) (s : SI K mg G0 H0 G H σ ρ S) (hp : H p = none) (r : R G (upd H p o) b a) : Q b (upd H p o) := h b G (upd H p o) (s.alloc hp) (.alloc hp) r
end
/-! ### a list that is new: nobody else knows it -/
section
variable (K : PySem.W.Frag) (mg : Str → Option Value) (W : WX)
def okN (G0 : Gh) (H0 : Hp) (G : Gh) (H : Hp) (σ : L2.St) (ρ : List Slot) (Q : VK) : Res (List D) → Prop
  | .ok ds S => ∀ l xs G' H', SI K mg G0 H0 G' H' σ ρ S → FR G H G' H' → H l = none → H' l = some (.lst xs) → xs.length ≤ sizeLine → G'.O l → ¬ G'.cell l → Reps K G' H' xs ds → Q (.ref l) H'
  | .err e S => ∀ cls da G' H', SI K mg G0 H0 G' H' σ ρ S → FR G H G' H' → ErrRep K mg G' H' e cls da → W cls da σ H'
  | .bad => False
def tN (ρ : List Slot) (m : M (List D)) : TE := fun σ H Q => ∃ G0 H0 G S, SI K mg G0 H0 G H σ ρ S ∧ okN K mg W G0 H0 G H σ ρ Q (m S)
end
section
variable {K : PySem.W.Frag} {mg : Str → Option Value} {W : WX} {α β γ δ : Type} {R : Gh → Hp → β → α → Prop} {G0 G G1 : Gh} {H0 H H1 : Hp} {σ : L2.St} {ρ : List Slot} {Q : β → Hp → Prop} {Q' : VK} {S : MS}
theorem okN.from {r : Res (List D)} (h : okN K mg W G0 H0 G H σ ρ Q' r) (f : FR G H G1 H1) : okN K mg W G0 H0 G1 H1 σ ρ Q' r := by
  cases r with
  | ok a S => exact fun l xs G' H' s r n q z m c t => h l xs G' H' s (f.trans r) (f.free n) q z m c t
  | err e S => exact fun cls da G' H' s r => h cls da G' H' s (f.trans r)
  | bad => exact h
theorem okN.bind {m : M α} {f : α → M (List D)} (h : okN K mg W G0 H0 G H σ ρ Q' (m.bind f S))
    (k : ∀ G1 H1 S1 b a, SI K mg G0 H0 G1 H1 σ ρ S1 → FR G H G1 H1 → R G1 H1 b a → okN K mg W G0 H0 G1 H1 σ ρ Q' (f a S1) → Q b H1) : okG K mg W R G0 H0 G H σ ρ Q (m S) := by
  unfold M.bind at h
  cases e : m S with
  | ok a S1 =>
    rw [e] at h
    exact fun b G' H' s r q => k G' H' S1 b a s r q (okN.from h r)
  | err x S1 => rw [e] at h; exact h
  | bad => rw [e] at h; exact h
theorem okN.new {ds : List D} {p : Addr} {xs : List V} (h : okN K mg W G0 H0 G H σ ρ Q' (.ok ds S)) (s : SI K mg G0 H0 G H σ ρ S) (hp : H p = none) (z : xs.length ≤ sizeLine) (r : Reps K G H xs ds) : Q' (.ref p) (upd H p (.lst xs)) :=
  h p xs (G.own p) (upd H p (.lst xs)) (s.allocO hp) (.allocO hp) hp upd_same z (.inl rfl) (fun c => s.wf.fresh hp (.inl c)) (r.mono (.allocO hp))
end
def EN (X : Cx) (W : WX) (ρ : List Slot) (e : Expr) (m : M (List D)) : Prop := PE X e (tN X.K X.mg W ρ m)
end Dl
namespace Dl
open PySem L2
/-! ### the operations over data -/
mutual
def D.toPy : D → PyData
  | .non => .none
  | .bl b => .bool b
  | .int i => .int i
  | .str x => .str x
  | .lst ds => .list (D.toPys ds)
  | .tup ds => .tuple (D.toPys ds)
  | .dic _ _ => .none
  | .obj _ _ _ _ => .none
  | .ptr _ => .none
  | .strm => .none
def D.toPys : List D → List PyData
  | [] => []
  | d :: ds => d.toPy :: D.toPys ds
end
mutual
/-- no pointer in it -/
def D.flat : D → Bool
  | .lst ds => D.flats ds
  | .tup ds => D.flats ds
  | .dic _ _ => false
  | .obj _ _ _ _ => false
  | .ptr _ => false
  | .strm => false
  | _ => true
def D.flats : List D → Bool
  | [] => true
  | d :: ds => d.flat && D.flats ds
end
def D.plain (d : D) : Bool := d.flat && SeqAt.shaped d.toPy
def D.eqv (d e : D) : Bool := PyData.eqv d.toPy e.toPy
def szOk (n : Nat) : Bool := decide (n ≤ 16777216)
theorem sz_of {n : Nat} (h : szOk n = true) : n ≤ sizeLine := by rw [sizeLine_eq]; exact of_decide_eq_true h
def mulOk (i j : Int) : Bool := (decide (-(2 ^ 64) < i) && decide (i < 2 ^ 64)) || (decide (-(2 ^ 64) < j) && decide (j < 2 ^ 64))
theorem mul_of {i j : Int} (h : mulOk i j = true) : CMul i j := by
  unfold mulOk at h
  simp only [Bool.or_eq_true, Bool.and_eq_true, decide_eq_true_eq] at h
  exact h
def guard (b : Bool) (m : M D) : M D := if b = true then m else M.bad
def dAdd : D → D → M D
  | .int i, .int j => M.pure (.int (i + j))
  | .str x, .str y => guard (szOk (x.length + y.length)) (M.pure (.str (x ++ y)))
  | .lst xs, .lst ys => guard (szOk (xs.length + ys.length)) (M.pure (.lst (xs ++ ys)))
  | .tup xs, .tup ys => guard (szOk (xs.length + ys.length)) (M.pure (.tup (xs ++ ys)))
  | _, _ => M.bad
def dSub : D → D → M D
  | .int i, .int j => M.pure (.int (i - j))
  | _, _ => M.bad
def dMul : D → D → M D
  | .int i, .int j => guard (mulOk i j) (M.pure (.int (i * j)))
  | .lst xs, .int k => guard (decide (-(2 ^ 63) ≤ k) && decide (k < 2 ^ 63) && szOk (xs.length * k.toNat)) (M.pure (.lst (List.replicate k.toNat xs).flatten))
  | _, _ => M.bad
def dPow : D → D → M D
  | .int i, .int j => guard (decide (0 ≤ j) && decide (j ≤ 1000000) && decide (i.natAbs < 2 ^ 64)) (M.pure (.int (i ^ j.toNat)))
  | _, _ => M.bad
def dCmp (f : Int → Int → Bool) : D → D → M D
  | .int i, .int j => M.pure (.bl (f i j))
  | _, _ => M.bad
abbrev dLt := dCmp fun i j => decide (i < j)
abbrev dLe := dCmp fun i j => decide (i ≤ j)
abbrev dGt := dCmp fun i j => decide (j < i)
abbrev dGe := dCmp fun i j => decide (j ≤ i)
def dEq (d e : D) : M D := guard (d.plain && e.plain) (M.pure (.bl (d.eqv e)))
def dNe (d e : D) : M D := guard (d.plain && e.plain) (M.pure (.bl (!d.eqv e)))
def dIsN : D → M D
  | .non => M.pure (.bl true)
  | _ => M.pure (.bl false)
def dNeg : D → M D
  | .int i => M.pure (.int (-i))
  | _ => M.bad
/-- the items of a list or a tuple -/
def asSeq : D → M (List D)
  | .lst ds => M.pure ds
  | .tup ds => M.pure ds
  | .ptr k => fun S => match S.cells[k]? with
    | some (.lst ds) => .ok ds S
    | _ => .bad
  | _ => M.bad
def ofOpt {α : Type} : Option α → M α
  | some a => M.pure a
  | none => M.bad
def dItem (d i : D) : M D := match d, i with
  | .str x, .int i => guard (szOk x.length) (ofOpt ((atI x.cps.toList i).map fun c => .str ⟨#[c]⟩))
  | d, .int i => (asSeq d).bind fun ds => ofOpt (atI ds i)
  | _, _ => M.bad
def dLen (d : D) : M D := match d with
  | .str x => guard (szOk x.length) (M.pure (.int x.length))
  | d => (asSeq d).bind fun ds => M.pure (.int ds.length)
/-! ### the ways to put computations together -/
def bin (f : D → D → M D) (a b : M D) : M D := a.bind fun x => b.bind fun y => f x y
def una (f : D → M D) (a : M D) : M D := a.bind f
def argsM : List (M D) → M (List D)
  | [] => M.pure []
  | m :: ms => m.bind fun d => (argsM ms).bind fun ds => M.pure (d :: ds)
def callM (f : List D → M D) (ms : List (M D)) : M D := (argsM ms).bind f
def tupM (ms : List (M D)) : M D := (argsM ms).bind fun ds => guard (szOk ds.length) (M.pure (.tup ds))
def lstM (ms : List (M D)) : M (List D) := (argsM ms).bind fun ds => if szOk ds.length = true then M.pure ds else M.bad
def frz (m : M (List D)) : M D := m.bind fun ds => M.pure (.lst ds)
def asB : D → M Bool
  | .bl b => M.pure b
  | _ => M.bad
def tst (m : M D) : M Bool := m.bind asB
def ofB (m : M Bool) : M D := m.bind fun b => M.pure (.bl b)
def andT (a b : M Bool) : M Bool := a.bind fun x => if x = true then b else M.pure false
def orT (a b : M Bool) : M Bool := a.bind fun x => if x = true then M.pure true else b
def notT (a : M Bool) : M Bool := a.bind fun x => M.pure (!x)
def ifM {α : Type} (t : M Bool) (a b : M α) : M α := t.bind fun x => if x = true then a else b
def ar1 (f : D → M D) : List D → M D
  | [a] => f a
  | _ => M.bad
def ar2 (f : D → D → M D) : List D → M D
  | [a, b] => f a b
  | _ => M.bad
def ar3 (f : D → D → D → M D) : List D → M D
  | [a, b, c] => f a b c
  | _ => M.bad
def ar4 (f : D → D → D → D → M D) : List D → M D
  | [a, b, c, d] => f a b c d
  | _ => M.bad
def ar5 (f : D → D → D → D → D → M D) : List D → M D
  | [a, b, c, d, e] => f a b c d e
  | _ => M.bad
def ar6 (f : D → D → D → D → D → D → M D) : List D → M D
  | [a, b, c, d, e, g] => f a b c d e g
  | _ => M.bad
end Dl
namespace Dl
open PySem L2
/-! ### expressions -/
section
variable {K : PySem.W.Frag} {mg : Str → Option Value} {G : Gh} {H : Hp}
theorem Reps.length : ∀ {vs : List V} {ds : List D}, Reps K G H vs ds → vs.length = ds.length
  | _, _, .nil => rfl
  | _, _, .cons _ t => by rw [List.length_cons, List.length_cons, Reps.length t]
theorem Reps.append : ∀ {vs us : List V} {ds es : List D}, Reps K G H vs ds → Reps K G H us es → Reps K G H (vs ++ us) (ds ++ es)
  | _, _, _, _, .nil, h => h
  | _, _, _, _, .cons r t, h => .cons r (Reps.append t h)
theorem Reps.get : ∀ {vs : List V} {ds : List D} {i : Nat} {d : D}, Reps K G H vs ds → ds[i]? = some d → ∃ v, vs[i]? = some v ∧ Rep K G H v d
  | _, _, _, _, .nil, h => by simp at h
  | _, _, 0, _, .cons r _, h => by simp at h; subst h; exact ⟨_, rfl, r⟩
  | _, _, i + 1, _, .cons _ t, h => by
    obtain ⟨v, h1, h2⟩ := Reps.get (i := i) t (by simpa using h)
    exact ⟨v, by simpa using h1, h2⟩
theorem Reps.getV : ∀ {vs : List V} {ds : List D} {i : Nat} {v : V}, Reps K G H vs ds → vs[i]? = some v → ∃ d, ds[i]? = some d ∧ Rep K G H v d
  | _, _, _, _, .nil, h => by simp at h
  | _, _, 0, _, .cons r _, h => by simp at h; subst h; exact ⟨_, rfl, r⟩
  | _, _, i + 1, _, .cons _ t, h => by
    obtain ⟨v, h1, h2⟩ := Reps.getV (i := i) t (by simpa using h)
    exact ⟨v, by simpa using h1, h2⟩
theorem Reps.atI {vs : List V} {ds : List D} {i : Int} {d : D} (r : Reps K G H vs ds) (h : L2.atI ds i = some d) : ∃ v, L2.atI vs i = some v ∧ Rep K G H v d := by
  unfold L2.atI at h ⊢
  rw [r.length]
  cases e : ixN ds.length i with
  | none =>
    rw [e] at h
    cases h
  | some j =>
    rw [e] at h
    exact r.get (show ds[j]? = some d from h)
theorem Reps.take : ∀ {vs : List V} {ds : List D} (n : Nat), Reps K G H vs ds → Reps K G H (vs.take n) (ds.take n)
  | _, _, 0, _ => .nil
  | _, _, _ + 1, .nil => .nil
  | _, _, n + 1, .cons r t => .cons r (Reps.take n t)
theorem Reps.drop : ∀ {vs : List V} {ds : List D} (n : Nat), Reps K G H vs ds → Reps K G H (vs.drop n) (ds.drop n)
  | _, _, 0, r => r
  | _, _, _ + 1, .nil => .nil
  | _, _, n + 1, .cons _ t => Reps.drop n t
theorem Reps.set {v : V} {d : D} (r : Rep K G H v d) : ∀ {vs : List V} {ds : List D} (n : Nat), Reps K G H vs ds → Reps K G H (vs.set n v) (ds.set n d)
  | _, _, _, .nil => .nil
  | _, _, 0, .cons _ tl => .cons r tl
  | _, _, n + 1, .cons q t => .cons q (Reps.set r n t)
theorem Reps.rep {vs : List V} {ds : List D} (r : Reps K G H vs ds) : ∀ n : Nat, Reps K G H (List.replicate n vs).flatten (List.replicate n ds).flatten
  | 0 => .nil
  | n + 1 => by
    simp only [List.replicate_succ, List.flatten_cons]
    exact r.append (Reps.rep r n)
mutual
theorem Rep.dp : ∀ {v : V} {d : D}, Rep K G H v d → d.flat = true → Dp K H v d.toPy
  | _, _, .non, _ => .non
  | _, _, .bl b, _ => .bl b
  | _, _, .int i, _ => .int i
  | _, _, .str x, _ => .str x
  | _, _, .lst h _ _ t, f => .lst (SqL.of h) (Reps.dps t f)
  | _, _, .tup h _ t, f => .tup h (Reps.dps t f)
  | _, _, .dic .., f => by cases f
  | _, _, .obj .., f => by cases f
  | _, _, .ptr _, f => by cases f
  | _, _, .strm, f => by cases f
theorem Reps.dps : ∀ {v : List V} {d : List D}, Reps K G H v d → D.flats d = true → DpAll K H v (D.toPys d)
  | _, _, .nil, _ => .nil
  | _, _, .cons r t, f => by
    have f' := Bool.and_eq_true_iff.mp (show (_ && D.flats _) = true from f)
    exact .cons (Rep.dp r f'.1) (Reps.dps t f'.2)
end
variable {S : MS}
theorem rep_new {p : Addr} {xs : List V} {ds : List D} (w : Wf K mg G H S) (hp : H p = none) (z : xs.length ≤ sizeLine) (r : Reps K G H xs ds) : Rep K G (upd H p (.lst xs)) (.ref p) (.lst ds) :=
  .lst upd_same z (w.fresh hp) (r.mono (.alloc hp))
theorem rep_tup {p : Addr} {xs : List V} {ds : List D} (hp : H p = none) (z : xs.length ≤ sizeLine) (r : Reps K G H xs ds) : Rep K G (upd H p (.tup xs)) (.ref p) (.tup ds) :=
  .tup (SqT.of upd_same) z (r.mono (.alloc hp))
end
/-- a two-place operation on data and its reading on values -/
def OpD (K : PySem.W.Frag) (mg : Str → Option Value) (r : R2) (f : D → D → M D) : Prop :=
  ∀ (W : WX) (G0 : Gh) (H0 : Hp) (G : Gh) (H : Hp) (σ : L2.St) (ρ : List Slot) (S : MS) (x y : V) (d e : D) (Q : VK), SI K mg G0 H0 G H σ ρ S → Rep K G H x d → Rep K G H y e →
    okG K mg W (RD K) G0 H0 G H σ ρ Q (f d e S) → r x y H Q
def UnD (K : PySem.W.Frag) (mg : Str → Option Value) (r : V → Hp → VK → Prop) (f : D → M D) : Prop :=
  ∀ (W : WX) (G0 : Gh) (H0 : Hp) (G : Gh) (H : Hp) (σ : L2.St) (ρ : List Slot) (S : MS) (x : V) (d : D) (Q : VK), SI K mg G0 H0 G H σ ρ S → Rep K G H x d →
    okG K mg W (RD K) G0 H0 G H σ ρ Q (f d S) → r x H Q
def CallD (K : PySem.W.Frag) (mg : Str → Option Value) (r : List V → Hp → VK → Prop) (f : List D → M D) : Prop :=
  ∀ (W : WX) (G0 : Gh) (H0 : Hp) (G : Gh) (H : Hp) (σ : L2.St) (ρ : List Slot) (S : MS) (xs : List V) (ds : List D) (Q : VK), SI K mg G0 H0 G H σ ρ S → Reps K G H xs ds →
    okG K mg W (RD K) G0 H0 G H σ ρ Q (f ds S) → r xs H Q
theorem okG.guard {K : PySem.W.Frag} {mg : Str → Option Value} {W : WX} {G0 : Gh} {H0 : Hp} {G : Gh} {H : Hp} {σ : L2.St} {ρ : List Slot} {S : MS} {Q : VK} {b : Bool} {m : M D} (h : okG K mg W (RD K) G0 H0 G H σ ρ Q (guard b m S)) :
    b = true ∧ okG K mg W (RD K) G0 H0 G H σ ρ Q (m S) := by
  unfold Dl.guard at h
  cases b with
  | true => exact ⟨rfl, h⟩
  | false => exact False.elim h
section
variable {X : Cx} {W : WX} {ρ : List Slot} {a b c e : Expr} {es : List Expr} {ma mb mc m : M D} {ms : List (M D)} {pos : Pos}
theorem ed_var (i : Nat) {x : Str} {d : D} (hρ : ρ[i]? = some (.val d) := by rfl) (hN : X.N[i]? = some x := by rfl) (hv : Vis X.env.scope x := by first | exact Or.inl rfl | exact Or.inr (Or.inl rfl) | exact Or.inr (Or.inr rfl))
    (hd : (x == ("__debug__" : Str)) = false := by decide) (hcd : (x == ("__classdict__" : Str)) = false := by decide) : ED X W ρ (.Name x pos) (M.pure d) :=
  PE.imp (pv i hN hv hd hcd) fun σ H Q ⟨G0, H0, G, S, si, h⟩ => by
    obtain ⟨v, e, r⟩ := si.env i _ hρ
    exact ⟨v, e, okG.here h si r⟩
theorem ed_int {i : Int} {j : Nat} : ED X W ρ (.Constant (.int i) j pos) (M.pure (.int i)) := PE.imp pe_int fun σ H Q ⟨G0, H0, G, S, si, h⟩ => okG.here h si (.int i)
theorem ed_bl {i : Bool} {j : Nat} : ED X W ρ (.Constant (.bool i) j pos) (M.pure (.bl i)) := PE.imp pe_bl fun σ H Q ⟨G0, H0, G, S, si, h⟩ => okG.here h si (.bl i)
theorem ed_non {j : Nat} : ED X W ρ (.Constant .none j pos) (M.pure .non) := PE.imp pe_non fun σ H Q ⟨G0, H0, G, S, si, h⟩ => okG.here h si .non
theorem ed_str {x : Str} {j : Nat} : ED X W ρ (.Constant (.str x) j pos) (M.pure (.str x)) := PE.imp pe_str fun σ H Q ⟨G0, H0, G, S, si, h⟩ => okG.here h si (.str x)
/-- two operands, then anything -/
theorem two {K : PySem.W.Frag} {mg : Str → Option Value} {σ : L2.St} {H : Hp} {Q : VK} {f : D → D → M D} {r : R2} (hd : OpD K mg r f) (h : tG K mg W (RD K) ρ (bin f ma mb) σ H Q) :
    tG K mg W (RD K) ρ ma σ H fun x H1 => tG K mg W (RD K) ρ mb σ H1 fun y H2 => r x y H2 Q := by
  obtain ⟨G0, H0, G, S, si, h⟩ := h
  refine ⟨G0, H0, G, S, si, okG.bind h fun G1 H1 S1 x d s1 f1 r1 h1 => ⟨G0, H0, G1, S1, s1, okG.bind h1 fun G2 H2 S2 y d' s2 f2 r2 h2 => ?_⟩⟩
  exact hd W G0 H0 G2 H2 σ ρ S2 x y d d' Q s2 (r1.mono f2) r2 h2
theorem ed_bin {op : Operator} {r : R2} {f : D → D → M D} (ho : OpR X (binaryOp op) r) (hd : OpD X.K X.mg r f) (ha : ED X W ρ a ma) (hb : ED X W ρ b mb) : ED X W ρ (.BinOp a op b pos) (bin f ma mb) :=
  PE.imp (pe_op ho ha hb) fun σ H Q h => two hd h
theorem ed_cmp {op : CmpOp} {r : R2} {f : D → D → M D} (ho : OpR X (compareOp op) r) (hd : OpD X.K X.mg r f) (ha : ED X W ρ a ma) (hb : ED X W ρ b mb) (hm : behindInMarks op b = false := by first | exact nobehind _ (by decide) (by decide) | rfl) : ED X W ρ (.Compare a [op] [b] pos) (bin f ma mb) :=
  PE.imp (pe_cmpR ho ha hb hm) fun σ H Q h => two hd h
theorem ed_un {op : UnaryOp} {r : V → Hp → VK → Prop} {f : D → M D} (ho : UnR X (unaryOp op) r) (hd : UnD X.K X.mg r f) (ha : ED X W ρ a ma) : ED X W ρ (.UnaryOp op a pos) (una f ma) :=
  PE.imp (pe_un ho ha) fun σ H Q ⟨G0, H0, G, S, si, h⟩ => ⟨G0, H0, G, S, si, okG.bind h fun G1 H1 S1 x d s1 f1 r1 h1 => hd W G0 H0 G1 H1 σ ρ S1 x d Q s1 r1 h1⟩
theorem ea_nil : EA X W ρ [] (argsM []) := PA.imp pa_nil fun σ H Q ⟨G0, H0, G, S, si, h⟩ => okG.here h si .nil
theorem ea_cons (ha : ED X W ρ e m) (hr : EA X W ρ es (argsM ms)) (hs : starEach (e :: es) X.env = (false, eval e X.env) :: starEach es X.env := by rfl) : EA X W ρ (e :: es) (argsM (m :: ms)) :=
  PA.imp (pa_cons ha hr hs) fun σ H Q ⟨G0, H0, G, S, si, h⟩ => ⟨G0, H0, G, S, si, okG.bind h fun G1 H1 S1 x d s1 f1 r1 h1 => ⟨G0, H0, G1, S1, s1, okG.bind h1 fun G2 H2 S2 xs ds s2 f2 r2 h2 => okG.here h2 s2 (.cons (r1.mono f2) r2)⟩⟩
theorem ed_tup {k : Nat} (h : EA X W ρ es (argsM ms)) : ED X W ρ (.Tuple es k pos) (tupM ms) :=
  PE.imp (pe_tup h) fun σ H Q ⟨G0, H0, G, S, si, h⟩ => ⟨G0, H0, G, S, si, okG.bind h fun G1 H1 S1 xs ds s1 f1 r1 h1 => by
    obtain ⟨z, h1⟩ := okG.guard h1
    have z' : xs.length ≤ sizeLine := by rw [r1.length]; exact sz_of z
    exact ⟨z', fun p hp => okG.new h1 s1 hp (rep_tup hp z' r1)⟩⟩
/-- a new list -/
theorem en_lst (h : EA X W ρ es (argsM ms)) : EN X W ρ (.List es pos) (lstM ms) :=
  PE.imp (pe_lst h) fun σ H Q ⟨G0, H0, G, S, si, h⟩ => ⟨G0, H0, G, S, si, okN.bind h fun G1 H1 S1 xs ds s1 f1 r1 h1 => by
    have r1 : Reps X.K G1 H1 xs ds := r1
    by_cases z : szOk ds.length = true
    · rw [if_pos z] at h1
      have z' := sz_of z
      rw [← r1.length] at z'
      exact ⟨z', fun p hp => okN.new h1 s1 hp z' r1⟩
    · rw [if_neg z] at h1
      exact False.elim h1⟩
theorem ed_new {m : M (List D)} (h : EN X W ρ e m) : ED X W ρ e (frz m) :=
  PE.imp h fun σ H Q ⟨G0, H0, G, S, si, h⟩ => ⟨G0, H0, G, S, si, by
    unfold frz M.bind at h
    cases q : m S with
    | ok ds S1 =>
      rw [q] at h
      refine fun l xs G' H' s f n e z ho hc t => h (.ref l) (G'.let l) H' (s.let (si.fr.free n) (si.owns n)) (f.let fun b hb q => ?_) (.lst e z (fun q => ?_) t.let)
      · obtain ⟨u, w⟩ := si.wf.live b (.inr hb)
        rw [q, n] at w; cases w
      · rcases q with q | q
        · exact hc q
        · exact q.1 rfl
    | err _ _ => rw [q] at h; exact h
    | bad => rw [q] at h; exact h⟩
/-! tests -/
theorem et_val {tm : M D} (h : ED X W ρ e tm) (he : ∀ whole, isTrue e X.env whole = (do let v ← whole; standAt e.pos; holding [v] (truthy v)) := by intro _; rfl) : ET X W ρ e (tst tm) :=
  PT.imp (pt_val h he) fun σ H Q ⟨G0, H0, G, S, si, h⟩ => ⟨G0, H0, G, S, si, okG.bind h fun G1 H1 S1 x d s1 f1 r1 h1 => by
    cases r1 with
    | bl b => exact ⟨b, rfl, okG.here h1 s1 rfl⟩
    | _ => exact False.elim h1⟩
theorem et_cmp {op : CmpOp} {r : R2} {f : D → D → M D} (ho : OpR X (compareOp op) r) (hd : OpD X.K X.mg r f) (ha : ED X W ρ a ma) (hb : ED X W ρ b mb) (hm : behindInMarks op b = false := by first | exact nobehind _ (by decide) (by decide) | rfl) : ET X W ρ (.Compare a [op] [b] pos) (tst (bin f ma mb)) :=
  PT.imp (pt_cmpR ho ha hb hm) fun σ H Q ⟨G0, H0, G, S, si, h⟩ => by
    refine two (r := fun x y H Q => r x y H Q) hd ⟨G0, H0, G, S, si, okG.bind h fun G1 H1 S1 x d s1 f1 r1 h1 => ?_⟩
    cases r1 with
    | bl b => exact ⟨b, rfl, okG.here h1 s1 rfl⟩
    | _ => exact False.elim h1
variable {ta tb tc : M Bool} {rest : List Expr}
theorem ew_or1 (ha : ET X W ρ a ta) : PW X (.BoolOp .Or [a] pos) (tG X.K X.mg W RB ρ ta) := pw_or1 ha
theorem ew_or (ha : ET X W ρ a ta) (hb : PW X (.BoolOp .Or (b :: rest) pos) (tG X.K X.mg W RB ρ tb)) : PW X (.BoolOp .Or (a :: b :: rest) pos) (tG X.K X.mg W RB ρ (orT ta tb)) :=
  PW.imp (pw_or ha hb) fun σ H Q ⟨G0, H0, G, S, si, h⟩ => ⟨G0, H0, G, S, si, okG.bind h fun G1 H1 S1 x d s1 f1 r1 h1 => by
    cases r1
    cases x with
    | true => exact okG.here h1 s1 rfl
    | false => exact ⟨G0, H0, G1, S1, s1, h1⟩⟩
theorem et_w (h : PW X e (tG X.K X.mg W RB ρ ta)) : ET X W ρ e ta := h.pt
theorem et_not (ha : ET X W ρ a ta) : ET X W ρ (.UnaryOp .Not a pos) (notT ta) :=
  PT.imp (pt_not ha) fun σ H Q ⟨G0, H0, G, S, si, h⟩ => ⟨G0, H0, G, S, si, okG.bind h fun G1 H1 S1 x d s1 f1 r1 h1 => by
    cases r1
    exact okG.here h1 s1 rfl⟩
theorem ed_if (hc : ET X W ρ c tc) (ha : ED X W ρ a ma) (hb : ED X W ρ b mb) : ED X W ρ (.IfExp c a b pos) (ifM tc ma mb) :=
  PE.imp (pe_ifExp hc ha hb) fun σ H Q ⟨G0, H0, G, S, si, h⟩ => ⟨G0, H0, G, S, si, okG.bind h fun G1 H1 S1 x d s1 f1 r1 h1 => by
    cases r1
    cases x with
    | true => exact ⟨G0, H0, G1, S1, s1, h1⟩
    | false => exact ⟨G0, H0, G1, S1, s1, h1⟩⟩
/-- and, or, not as values of truths -/
theorem ed_one {op : BoolOp} (h : ED X W ρ a ma) : ED X W ρ (.BoolOp op [a] pos) ma := pe_one h
def andV (a b : M D) : M D := a.bind fun x => (asB x).bind fun c => if c = true then b else M.pure (.bl false)
def orV (a b : M D) : M D := a.bind fun x => (asB x).bind fun c => if c = true then M.pure (.bl true) else b
def notV (a : M D) : M D := a.bind fun x => (asB x).bind fun c => M.pure (.bl (!c))
theorem ed_and (ha : ED X W ρ a ma) (hb : ED X W ρ (.BoolOp .And (b :: rest) pos) mb) : ED X W ρ (.BoolOp .And (a :: b :: rest) pos) (andV ma mb) :=
  PE.imp (pe_and ha hb) fun σ H Q ⟨G0, H0, G, S, si, h⟩ => ⟨G0, H0, G, S, si, okG.bind h fun G1 H1 S1 x d s1 f1 r1 h1 => by
    cases r1 with
    | bl b =>
      refine ⟨b, rfl, ?_⟩
      cases b with
      | true => exact ⟨G0, H0, G1, S1, s1, h1⟩
      | false => exact okG.here h1 s1 (.bl false)
    | _ => exact False.elim h1⟩
theorem ed_not (ha : ED X W ρ a ma) : ED X W ρ (.UnaryOp .Not a pos) (notV ma) :=
  PE.imp (pe_not ha) fun σ H Q ⟨G0, H0, G, S, si, h⟩ => ⟨G0, H0, G, S, si, okG.bind h fun G1 H1 S1 x d s1 f1 r1 h1 => by
    cases r1 with
    | bl b => exact ⟨b, rfl, okG.here h1 s1 (.bl (!b))⟩
    | _ => exact False.elim h1⟩
/-- a builtin's call -/
theorem ed_callB {x : Str} {id : String} {r : List V → Hp → VK → Prop} {f : List D → M D} {p : Pos} (hc : CallR X (.builtin id) r) (hd : CallD X.K X.mg r f) (hm : X.mg x = none) (hv : bootBuiltins x = some (.builtin id)) (ha : EA X W ρ (e :: es) (argsM ms)) (hg : Gl X x := by rfl) (hn : x ≠ "__name__" := by decide) (hdb : (x == ("__debug__" : Str)) = false := by decide)
    (he : starEach (e :: es) X.env = (false, eval e X.env) :: starEach es X.env := by rfl) (hpl : (backTo pos (starEach es X.env)).any (·.1) = false := by rfl) : ED X W ρ (.Call (.Name x p) (e :: es) [] pos) (callM f ms) :=
  PE.imp (pe_callB hc hg hm hv ha hn hdb he hpl) fun σ H Q ⟨G0, H0, G, S, si, h⟩ => ⟨G0, H0, G, S, si, okG.bind h fun G1 H1 S1 xs ds s1 f1 r1 h1 => hd W G0 H0 G1 H1 σ ρ S1 xs ds Q s1 r1 h1⟩
theorem ed_callTy {x : Str} {T : String} {r : List V → Hp → VK → Prop} {f : List D → M D} {p : Pos} (hc : CallR X (.type T) r) (hd : CallD X.K X.mg r f) (hm : X.mg x = none) (hv : bootBuiltins x = some (.type T)) (ha : EA X W ρ (e :: es) (argsM ms)) (hg : Gl X x := by rfl) (hn : x ≠ "__name__" := by decide) (hdb : (x == ("__debug__" : Str)) = false := by decide)
    (he : starEach (e :: es) X.env = (false, eval e X.env) :: starEach es X.env := by rfl) (hpl : (backTo pos (starEach es X.env)).any (·.1) = false := by rfl) : ED X W ρ (.Call (.Name x p) (e :: es) [] pos) (callM f ms) :=
  PE.imp (pe_callTy hc hg hm hv ha hn hdb he hpl) fun σ H Q ⟨G0, H0, G, S, si, h⟩ => ⟨G0, H0, G, S, si, okG.bind h fun G1 H1 S1 xs ds s1 f1 r1 h1 => hd W G0 H0 G1 H1 σ ρ S1 xs ds Q s1 r1 h1⟩
end
/-! ### own defs -/
section
variable (K : PySem.W.Frag) (mg : Str → Option Value)
def okF (G : Gh) (H : Hp) (Q : VK) (E : XK) : Res D → Prop
  | .ok d S => ∀ v G' H', FR G H G' H' → Wf K mg G' H' S → Rep K G' H' v d → Q v H'
  | .err e S => ∀ cls da G' H', FR G H G' H' → Wf K mg G' H' S → ErrRep K mg G' H' e cls da → E cls da H'
  | .bad => False
def spD (n : Nat) (f : List D → M D) : Sp := fun vs H Q E => ∃ G S ds, ds.length = n ∧ Reps K G H vs ds ∧ Wf K mg G H S ∧ okF K mg G H Q E (f ds S)
end
theorem spD_len {K : PySem.W.Frag} {mg : Str → Option Value} {n : Nat} {f : List D → M D} {vs : List V} {H : Hp} {Q : VK} {E : XK} (h : spD K mg n f vs H Q E) : vs.length = n := by
  obtain ⟨G, S, ds, e, r, _⟩ := h
  rw [r.length, e]
section
variable {X : Cx} {W : WX} {ρ : List Slot} {e o : Expr} {es : List Expr} {ms : List (M D)} {pos p apos : Pos} {x : Str} {k n : Nat} {f : Addr} {fd : FuncData} {ps : List Str} {g : List D → M D}
theorem okF_of {K : PySem.W.Frag} {mg : Str → Option Value} {G0 G : Gh} {H0 H : Hp} {σ : L2.St} {S : MS} {Q : VK} {r : Res D} (h : okG K mg W (RD K) G0 H0 G H σ ρ Q r) (si : SI K mg G0 H0 G H σ ρ S) : okF K mg G H Q (WE W σ) r := by
  cases r with
  | ok d S' => exact fun v G' H' fr wf r => h v G' H' (si.mono fr wf) fr r
  | err e S' => exact fun cls da G' H' fr wf r => h cls da G' H' (si.mono fr wf) fr r
  | bad => exact h
theorem ed_call (F : FnOk X.prog X.w X.K X.mg X.base (L2.CX X.prog X.w) k f fd ps (spD X.K X.mg n g)) (tk : Takes X W) (hr : Room k X.A) (hm : X.mg x = some (.ref f)) (hk : PySem.W.keepIn X.K (.ref f) = true) (hb : Binds X.K fd ps []) (ha : EA X W ρ (e :: es) (argsM ms)) (hn : (e :: es).length = n := by rfl) (hg : Gl X x := by rfl)
    (hdb : (x == ("__debug__" : Str)) = false := by decide) (he : starEach (e :: es) X.env = (false, eval e X.env) :: starEach es X.env := by rfl) (hpl : (backTo pos (starEach es X.env)).any (·.1) = false := by rfl) (hl : ms.length = n := by rfl) :
    ED X W ρ (.Call (.Name x p) (e :: es) [] pos) (callM g ms) :=
  PE.imp (pe_callS F hr hg hm hk hb (fun σ => passAt tk σ) ha hdb he hpl) fun σ H Q ⟨G0, H0, G, S, si, h⟩ => ⟨G0, H0, G, S, si, by
    have al : ∀ (ms : List (M D)) (S S1 : MS) (ds : List D), argsM ms S = .ok ds S1 → ds.length = ms.length := by
      intro ms
      induction ms with
      | nil => intro S S1 ds e; cases e; rfl
      | cons m ms ih =>
        intro S S1 ds e
        unfold argsM M.bind at e
        cases e1 : m S with
        | ok d S2 =>
          rw [e1] at e
          simp only at e
          cases e2 : argsM ms S2 with
          | ok ds' S3 =>
            rw [e2] at e
            cases e
            rw [List.length_cons, List.length_cons, ih _ _ _ e2]
          | err _ _ => rw [e2] at e; cases e
          | bad => rw [e2] at e; cases e
        | err _ _ => rw [e1] at e; cases e
        | bad => rw [e1] at e; cases e
    have h' := h
    unfold callM M.bind at h'
    cases e1 : argsM ms S with
    | ok ds S1 =>
      rw [e1] at h'
      have hd := al ms S S1 ds e1
      exact fun vs G1 H1 s1 f1 r1 => ⟨G1, S1, ds, by rw [hd, hl], r1, s1.wf, okF_of (okG.from h' f1) s1⟩
    | err _ _ => rw [e1] at h'; exact h'
    | bad => rw [e1] at h'; exact h'⟩
end
end Dl
namespace Dl
open PySem L2
section
variable {K : PySem.W.Frag} {mg : Str → Option Value}
theorem opd_cmp {f : Int → Int → Bool} : OpD K mg (rI0 fun i j => .bl (f i j)) (dCmp f) := by
  intro W G0 H0 G H σ ρ S x y d e Q si r1 r2 h
  cases r1 <;> cases r2 <;> first | exact h.elim | exact ⟨_, _, rfl, rfl, okG.here h si (.bl _)⟩
/-- + -/
def rAddD (K : PySem.W.Frag) : R2 := fun x y H Q => (rI0 (fun i j => .int (i + j)) x y H Q ∨ (∃ i j, x = .str i ∧ y = .str j ∧ i.length + j.length ≤ sizeLine ∧ Q (.str (i ++ j)) H)) ∨ (rCat x y H Q ∨ rCatA K x y H Q)
theorem opr_add {X : Cx} : OpR X (binaryOp .Add) (rAddD X.K) := OpR.or (OpR.or op_add op_add_str) (OpR.or op_cat op_catA)
theorem opd_add : OpD K mg (rAddD K) dAdd := by
  intro W G0 H0 G H σ ρ S x y d e Q si r1 r2 h
  cases r1 with
  | int i =>
    cases r2 <;> first | exact h.elim | exact .inl (.inl ⟨_, _, rfl, rfl, okG.here h si (.int _)⟩)
  | str i =>
    cases r2 <;> first | exact h.elim | (obtain ⟨z, h⟩ := okG.guard h; exact .inl (.inr ⟨_, _, rfl, rfl, sz_of z, okG.here h si (.str _)⟩))
  | lst h1 z1 n1 t1 =>
    cases r2 <;> first | exact h.elim | skip
    rename_i h2 z2 n2 t2
    obtain ⟨z, h⟩ := okG.guard h
    have z' := sz_of z
    rw [← t1.length, ← t2.length] at z'
    exact .inr (.inl ⟨_, _, _, _, rfl, rfl, h1, h2, z', fun p hp => okG.new h si hp (rep_new si.wf hp (by rw [List.length_append]; exact z') (t1.append t2))⟩)
  | tup h1 z1 t1 =>
    cases r2 <;> first | exact h.elim | skip
    rename_i h2 z2 t2
    obtain ⟨z, h⟩ := okG.guard h
    have z' := sz_of z
    rw [← t1.length, ← t2.length] at z'
    refine .inr (.inr ⟨_, _, _, _, rfl, rfl, h1, h2, z', fun en => ?_, fun _ en => ?_, fun _ en p hp => ?_⟩)
    · subst en
      cases t1
      exact okG.here h si (.tup h2 z2 t2)
    · subst en
      cases t2
      rw [List.append_nil] at h
      exact okG.here h si (.tup h1 z1 t1)
    · exact okG.new h si hp (rep_tup hp (by rw [List.length_append]; exact z') (t1.append t2))
  | _ => exact h.elim
/-- * -/
def rMulD : R2 := fun x y H Q => rI CMul (fun i j => .int (i * j)) x y H Q ∨ rRep x y H Q
theorem opr_mul {X : Cx} : OpR X (binaryOp .Mult) rMulD := OpR.or op_mul op_rep
theorem opd_mul : OpD K mg rMulD dMul := by
  intro W G0 H0 G H σ ρ S x y d e Q si r1 r2 h
  cases r1 with
  | int i =>
    cases r2 <;> first | exact h.elim | (obtain ⟨z, h⟩ := okG.guard h; exact .inl ⟨_, _, rfl, rfl, mul_of z, okG.here h si (.int _)⟩)
  | lst h1 z1 n1 t1 =>
    cases r2 <;> first | exact h.elim | skip
    obtain ⟨z, h⟩ := okG.guard h
    simp only [Bool.and_eq_true, decide_eq_true_eq] at z
    obtain ⟨⟨k1, k2⟩, z⟩ := z
    have z' := sz_of z
    rw [← t1.length] at z'
    exact .inr ⟨_, _, _, rfl, rfl, h1, k1, k2, z', fun p hp => okG.new h si hp (rep_new si.wf hp (by simp only [List.length_flatten, List.map_replicate, List.sum_replicate_nat]; rw [Nat.mul_comm]; exact z') (t1.rep _))⟩
  | _ => exact h.elim
theorem opd_pow : OpD K mg (rI CPow fun i j => .int (i ^ j.toNat)) dPow := by
  intro W G0 H0 G H σ ρ S x y d e Q si r1 r2 h
  cases r1 <;> cases r2 <;> first | exact h.elim | (obtain ⟨z, h⟩ := okG.guard h; simp only [Bool.and_eq_true, decide_eq_true_eq] at z; exact ⟨_, _, rfl, rfl, ⟨z.1.1, z.1.2, z.2⟩, okG.here h si (.int _)⟩)
theorem plain_of {d : D} (h : d.plain = true) : d.flat = true ∧ SeqAt.shaped d.toPy = true := Bool.and_eq_true_iff.mp h
theorem opd_eq : OpD K mg (rEqD K) dEq := by
  intro W G0 H0 G H σ ρ S x y d e Q si r1 r2 h
  obtain ⟨z, h⟩ := okG.guard h
  obtain ⟨z1, z2⟩ := Bool.and_eq_true_iff.mp z
  obtain ⟨f1, s1⟩ := plain_of z1
  obtain ⟨f2, s2⟩ := plain_of z2
  exact ⟨_, _, r1.dp f1, r2.dp f2, s1, s2, okG.here h si (.bl _)⟩
theorem opd_ne : OpD K mg (rNeD K) dNe := by
  intro W G0 H0 G H σ ρ S x y d e Q si r1 r2 h
  obtain ⟨z, h⟩ := okG.guard h
  obtain ⟨z1, z2⟩ := Bool.and_eq_true_iff.mp z
  obtain ⟨f1, s1⟩ := plain_of z1
  obtain ⟨f2, s2⟩ := plain_of z2
  exact ⟨_, _, r1.dp f1, r2.dp f2, s1, s2, okG.here h si (.bl _)⟩
theorem und_neg : UnD K mg (rU fun i => .int (-i)) dNeg := by
  intro W G0 H0 G H σ ρ S x d Q si r1 h
  cases r1 <;> first | exact h.elim | exact ⟨_, rfl, okG.here h si (.int _)⟩
end
section
variable {X : Cx} {W : WX} {ρ : List Slot} {a b c e : Expr} {es : List Expr} {ma mb mc m : M D} {ms : List (M D)} {pos : Pos}
theorem ed_add (ha : ED X W ρ a ma) (hb : ED X W ρ b mb) : ED X W ρ (.BinOp a .Add b pos) (bin dAdd ma mb) := ed_bin opr_add opd_add ha hb
theorem ed_mul (ha : ED X W ρ a ma) (hb : ED X W ρ b mb) : ED X W ρ (.BinOp a .Mult b pos) (bin dMul ma mb) := ed_bin opr_mul opd_mul ha hb
theorem ed_pow (ha : ED X W ρ a ma) (hb : ED X W ρ b mb) : ED X W ρ (.BinOp a .Pow b pos) (bin dPow ma mb) := ed_bin op_pow opd_pow ha hb
theorem ed_neg (ha : ED X W ρ a ma) : ED X W ρ (.UnaryOp .USub a pos) (una dNeg ma) := ed_un un_neg und_neg ha
theorem ed_eq {k : Nat} (hr : Room k X.A) (ha : ED X W ρ a ma) (hb : ED X W ρ b mb) : ED X W ρ (.Compare a [.Eq] [b] pos) (bin dEq ma mb) := ed_cmp (op_eqD hr.units) opd_eq ha hb
theorem ed_bad : ED X W ρ e M.bad := ⟨fun _ _ _ _ _ _ h => by
  obtain ⟨_, _, _, _, _, h⟩ := h
  exact h.elim⟩
theorem asSeq_ok {K : PySem.W.Frag} {mg : Str → Option Value} {W : WX} {G0 : Gh} {H0 : Hp} {G : Gh} {H : Hp} {σ : L2.St} {ρ : List Slot} {S : MS} {α β : Type} {R : Gh → Hp → β → α → Prop} {Q : β → Hp → Prop} {f : List D → M α} {v : V} {d : D} (si : SI K mg G0 H0 G H σ ρ S) (r : Rep K G H v d)
    (h : okG K mg W R G0 H0 G H σ ρ Q ((asSeq d).bind f S)) : ∃ a xs ds, v = .ref a ∧ (SqL K H a xs ∨ SqT K H a xs) ∧ xs.length ≤ sizeLine ∧ Reps K G H xs ds ∧ okG K mg W R G0 H0 G H σ ρ Q (f ds S) := by
  cases r with
  | lst h1 z n t => exact ⟨_, _, _, rfl, .inl (SqL.of h1), z, t, h⟩
  | tup h1 z t => exact ⟨_, _, _, rfl, .inr h1, z, t, h⟩
  | ptr e =>
    rename_i a k
    unfold asSeq M.bind at h
    cases q : S.cells[k]? with
    | none => simp only [q] at h; exact h.elim
    | some c =>
      have cr := si.wf.cell k c a q e
      cases c with
      | lst ds =>
        simp only [q] at h
        obtain ⟨xs, hx, z, t⟩ := cr
        exact ⟨_, xs, ds, rfl, .inl (SqL.of hx), z, t, h⟩
      | dic _ => simp only [q] at h; exact h.elim
      | out => simp only [q] at h; exact h.elim
      | ins _ _ => simp only [q] at h; exact h.elim
  | _ => exact h.elim
/-- the items of a list -/
def asLst : D → M (List D)
  | .lst ds => M.pure ds
  | .ptr k => fun S => match S.cells[k]? with
    | some (.lst ds) => .ok ds S
    | _ => .bad
  | _ => M.bad
theorem asLst_ok {K : PySem.W.Frag} {mg : Str → Option Value} {W : WX} {G0 : Gh} {H0 : Hp} {G : Gh} {H : Hp} {σ : L2.St} {ρ : List Slot} {S : MS} {α β : Type} {R : Gh → Hp → β → α → Prop} {Q : β → Hp → Prop} {f : List D → M α} {v : V} {d : D} (si : SI K mg G0 H0 G H σ ρ S) (r : Rep K G H v d)
    (h : okG K mg W R G0 H0 G H σ ρ Q ((asLst d).bind f S)) : ∃ a xs ds, v = .ref a ∧ H a = some (.lst xs) ∧ xs.length ≤ sizeLine ∧ Reps K G H xs ds ∧ okG K mg W R G0 H0 G H σ ρ Q (f ds S) := by
  cases r with
  | lst h1 z n t => exact ⟨_, _, _, rfl, h1, z, t, h⟩
  | ptr e =>
    rename_i a k
    unfold asLst M.bind at h
    cases q : S.cells[k]? with
    | none => simp only [q] at h; exact h.elim
    | some c =>
      have cr := si.wf.cell k c a q e
      cases c with
      | lst ds =>
        simp only [q] at h
        obtain ⟨xs, hx, z, t⟩ := cr
        exact ⟨_, xs, ds, rfl, hx, z, t, h⟩
      | dic _ => simp only [q] at h; exact h.elim
      | out => simp only [q] at h; exact h.elim
      | ins _ _ => simp only [q] at h; exact h.elim
  | _ => exact h.elim
theorem opd_item {K : PySem.W.Frag} {mg : Str → Option Value} : OpD K mg (rIx K) dItem := by
  intro W G0 H0 G H σ ρ S x y d e Q si r1 r2 h
  have other : ∀ {i : Int}, y = .int i → okG K mg W (RD K) G0 H0 G H σ ρ Q ((asSeq d).bind (fun ds => ofOpt (atI ds i)) S) → rIx K x y H Q := fun {i} ey h => by
    obtain ⟨a, xs, ds, rfl, hs, zz, t, h⟩ := asSeq_ok si r1 h
    cases q : atI ds i with
    | none => rw [q] at h; exact h.elim
    | some d' =>
      rw [q] at h
      obtain ⟨v, hv, rv⟩ := t.atI q
      have fin := okG.here h si rv
      rcases hs with hs | hs
      · exact .inl ⟨a, xs, i, v, rfl, ey, hs, hv, fin⟩
      · exact .inr (.inl ⟨a, xs, i, v, rfl, ey, hs, hv, fin⟩)
  cases r2 with
  | int i =>
    cases r1 with
    | str z =>
      obtain ⟨g, h⟩ := okG.guard h
      cases q : atI z.cps.toList i with
      | none => rw [q] at h; exact h.elim
      | some c =>
        rw [q] at h
        exact .inr (.inr ⟨z, i, c, rfl, rfl, sz_of g, q, okG.here h si (.str _)⟩)
    | _ => exact other rfl h
  | _ =>
    cases r1 <;> exact h.elim
theorem ed_item {kpos : Pos} (ha : ED X W ρ a ma) (hb : ED X W ρ b mb) (hs : PlainIx b := by exact fun _ _ => rfl) : ED X W ρ (.Subscript a b pos) (bin dItem ma mb) :=
  PE.imp (pe_ix ix_seq ha hb hs) fun σ H Q h => two opd_item h
/-- len -/
def f1 (f : D → M D) : List D → M D := ar1 f
theorem calld_len {K : PySem.W.Frag} {mg : Str → Option Value} : CallD K mg (fun xs H Q => ∃ x n, xs = [x] ∧ LenV K x H n ∧ Q (.int n) H) (ar1 dLen) := by
  intro W G0 H0 G H σ ρ S xs ds Q si r h
  cases r with
  | nil => exact h.elim
  | cons r1 t =>
    cases t with
    | cons _ _ => exact h.elim
    | nil =>
      rename_i v d
      have other : okG K mg W (RD K) G0 H0 G H σ ρ Q ((asSeq d).bind (fun ds => M.pure (.int ds.length)) S) → ∃ x n, [v] = [x] ∧ LenV K x H n ∧ Q (.int n) H := fun h => by
        obtain ⟨a, xs, ds, rfl, hs, zz, t, h⟩ := asSeq_ok si r1 h
        refine ⟨_, xs.length, rfl, ?_, ?_⟩
        · rcases hs with hs | hs
          · exact .inl ⟨xs, hs, rfl⟩
          · exact .inr ⟨xs, hs, rfl⟩
        · rw [t.length]
          exact okG.here h si (.int _)
      cases r1 with
      | str z =>
        obtain ⟨g, h⟩ := okG.guard h
        exact ⟨_, z.length, rfl, ⟨sz_of g, rfl⟩, okG.here h si (.int _)⟩
      | _ => exact other h
end
end Dl
namespace Dl
open PySem L2
/-! ### isinstance with built-in types -/
inductive Ty where
  | non | bool | int | str | list | tuple | dict
  deriving DecidableEq
def Ty.nm : Ty → String
  | .non => "NoneType" | .bool => "bool" | .int => "int" | .str => "str" | .list => "list" | .tuple => "tuple" | .dict => "dict"
def Ty.sub : Ty → Ty → Bool
  | .non, .non => true | .bool, .bool => true | .bool, .int => true | .int, .int => true | .str, .str => true | .list, .list => true | .tuple, .tuple => true | .dict, .dict => true
  | _, _ => false
theorem kit_nm (a b : Ty) (h : b ≠ .non) : kitB a.nm b.nm = some (a.sub b) := by
  cases a <;> cases b <;> first | exact absurd rfl h | decide +kernel
def D.ty? (S : MS) : D → Option Ty
  | .non => some .non
  | .bl _ => some .bool
  | .int _ => some .int
  | .str _ => some .str
  | .lst _ => some .list
  | .tup _ => some .tuple
  | .dic _ _ => some .dict
  | .obj _ _ _ _ => none
  | .ptr k => match S.cells[k]? with
    | some (.lst _) => some .list
    | some (.dic _) => some .dict
    | _ => none
  | .strm => some .list
def dIsi (ts : List Ty) (d : D) : M D := fun S => match d.ty? S with
  | some t => .ok (.bl (ts.any t.sub)) S
  | none => .bad
theorem tyx_of {K : PySem.W.Frag} {mg : Str → Option Value} {G : Gh} {H : Hp} {S : MS} {v : V} {d : D} {t : Ty} (w : Wf K mg G H S) (r : Rep K G H v d) (h : d.ty? S = some t) : TyX K H v (.type t.nm) := by
  cases r with
  | non => cases h; exact .base .non
  | bl b => cases h; exact .base (.bl b)
  | int b => cases h; exact .base (.int b)
  | str b => cases h; exact .base (.str b)
  | lst e _ _ _ => cases h; exact .base (.lst e)
  | tup e _ _ =>
    cases h
    rcases e with (e | ⟨o, e⟩) | e
    · exact .base (.tup e)
    · exact .fTuple e
    · obtain ⟨o, its, n, e, c, _⟩ := e
      exact .kTuple e c
  | dic e _ _ _ _ => cases h; exact .base (.dK e)
  | obj _ _ _ _ _ _ => cases h
  | strm => cases h; exact .base (.lst w.ha)
  | ptr e =>
    rename_i a k
    unfold D.ty? at h
    cases q : S.cells[k]? with
    | none => simp only [q] at h; cases h
    | some c =>
      have cr := w.cell k c a q e
      cases c with
      | lst ds =>
        simp only [q] at h; cases h
        obtain ⟨xs, hx, z, t⟩ := cr
        exact .base (.lst hx)
      | dic _ =>
        simp only [q] at h; cases h
        obtain ⟨xs, hx, z, t⟩ := cr
        exact .base (.dK hx)
      | ins _ _ => simp only [q] at h; cases h
      | out => simp only [q] at h; cases h
theorem kitAny_of {K : PySem.W.Frag} (t : Ty) : ∀ ts : List Ty, (∀ b ∈ ts, b ≠ .non) → PySem.W.kitAny K (.type t.nm) (ts.map fun b => .type b.nm) = some (ts.any t.sub)
  | [], _ => rfl
  | b :: ts, h => by
    have h1 : PySem.W.kitOne K (.type t.nm) (.type b.nm) = some (t.sub b) := kit_ty (kit_nm t b (h b List.mem_cons_self))
    rw [List.map_cons, List.any_cons]
    refine kitAny_cons h1 (fun q => ?_) (fun q => ?_)
    · rw [q, Bool.false_or]
      exact kitAny_of t ts fun c hc => h c (List.mem_cons_of_mem _ hc)
    · rw [q, Bool.true_or]
section
variable {X : Cx} {W : WX} {ρ : List Slot} {a b c e : Expr} {es : List Expr} {ma mb mc m : M D} {ms : List (M D)} {pos p p2 : Pos}
/-- a built-in type by its name -/
def TN (X : Cx) (T : Str) (t : Ty) : Prop := X.mg T = none ∧ bootBuiltins T = some (.type t.nm) ∧ Gl X T ∧ T ≠ "__name__" ∧ (T == ("__debug__" : Str)) = false ∧ t ≠ .non
/-- the names of built-in types in a row -/
inductive TNs (X : Cx) : List Expr → List Ty → Prop
  | nil : TNs X [] []
  | cons {T : Str} {t : Ty} {p : Pos} {es : List Expr} {ts : List Ty} : TN X T t → starEach (.Name T p :: es) X.env = (false, eval (.Name T p) X.env) :: starEach es X.env → TNs X es ts → TNs X (.Name T p :: es) (t :: ts)
theorem TNs.pa : ∀ {es : List Expr} {ts : List Ty}, TNs X es ts → PA X es (fun σ H Q => Q (ts.map fun t => V.ty t.nm) H)
  | _, _, .nil => PA.imp pa_nil fun σ H Q h => h
  | _, _, .cons h hs t => by
    obtain ⟨h1, h2, h3, h4, h5, h6⟩ := h
    exact PA.imp (pa_cons (pe_bltn (v := .ty _) h3 h1 h2 rfl h4 h5) (TNs.pa t) hs) fun σ H Q h => h
theorem TNs.no : ∀ {es : List Expr} {ts : List Ty}, TNs X es ts → ∀ b ∈ ts, b ≠ .non
  | _, _, .nil => fun b h => absurd h (by simp)
  | _, _, .cons h _ t => fun b hb => by
    rcases List.mem_cons.mp hb with e | k
    · rw [e]; exact h.2.2.2.2.2
    · exact TNs.no t b k
theorem paired_ty : ∀ ts : List Ty, Paired ClsV (ts.map fun t => V.ty t.nm) (ts.map fun t => Value.type t.nm)
  | [] => .nil
  | t :: ts => .cons (.ty _) (paired_ty ts)
/-! ### list(x), tuple(x), all(x) -/
def toList (m : M D) : M (List D) := m.bind fun d => (asSeq d).bind M.pure
theorem asSeq_okN {K : PySem.W.Frag} {mg : Str → Option Value} {W : WX} {G0 : Gh} {H0 : Hp} {G : Gh} {H : Hp} {σ : L2.St} {ρ : List Slot} {S : MS} {Q : VK} {f : List D → M (List D)} {v : V} {d : D} (si : SI K mg G0 H0 G H σ ρ S) (r : Rep K G H v d)
    (h : okN K mg W G0 H0 G H σ ρ Q ((asSeq d).bind f S)) : ∃ a xs ds, v = .ref a ∧ (SqL K H a xs ∨ SqT K H a xs) ∧ xs.length ≤ sizeLine ∧ Reps K G H xs ds ∧ okN K mg W G0 H0 G H σ ρ Q (f ds S) := by
  cases r with
  | lst h1 z n t => exact ⟨_, _, _, rfl, .inl (SqL.of h1), z, t, h⟩
  | tup h1 z t => exact ⟨_, _, _, rfl, .inr h1, z, t, h⟩
  | ptr e =>
    rename_i a k
    unfold asSeq M.bind at h
    cases q : S.cells[k]? with
    | none => simp only [q] at h; exact h.elim
    | some c =>
      have cr := si.wf.cell k c a q e
      cases c with
      | lst ds =>
        simp only [q] at h
        obtain ⟨xs, hx, z, t⟩ := cr
        exact ⟨_, xs, ds, rfl, .inl (SqL.of hx), z, t, h⟩
      | dic _ => simp only [q] at h; exact h.elim
      | out => simp only [q] at h; exact h.elim
      | ins _ _ => simp only [q] at h; exact h.elim
  | _ => exact h.elim
/-- list(x): a new list -/
theorem en_list {mL : X.mg "list" = none} (ha : ED X W ρ e ma) (hg : Gl X "list" := by rfl)
    (he : starEach (e :: []) X.env = (false, eval e X.env) :: starEach [] X.env := by rfl) (hpl : (backTo pos (starEach [] X.env)).any (·.1) = false := by rfl) :
    EN X W ρ (.Call (.Name "list" p) [e] [] pos) (toList ma) :=
  PE.imp (pe_callTy call_list_of hg mL (by decide +kernel) (pa_cons ha pa_nil he) (by decide) (by decide) he hpl) fun σ H Q ⟨G0, H0, G, S, si, h⟩ => ⟨G0, H0, G, S, si, okN.bind h fun G1 H1 S1 x d s1 f1 r1 h1 => by
    obtain ⟨a, xs, ds, rfl, hs, z, t, h1⟩ := asSeq_okN s1 r1 h1
    exact ⟨a, xs, rfl, hs, fun l hl => okN.new h1 s1 hl z t⟩⟩
def dTuple (d : D) : M D := (asSeq d).bind fun ds => M.pure (.tup ds)
theorem calld_tuple {K : PySem.W.Frag} {mg : Str → Option Value} : CallD K mg (fun xs H Q => ∃ p ys, xs = [.ref p] ∧ ((SqL K H p ys ∧ ∀ l, H l = none → Q (.ref l) (upd H l (.tup ys))) ∨ (SqT K H p ys ∧ Q (.ref p) H))) (ar1 dTuple) := by
  intro W G0 H0 G H σ ρ S xs ds Q si r h
  cases r with
  | nil => exact h.elim
  | cons r1 t =>
    cases t with
    | cons _ _ => exact h.elim
    | nil =>
      obtain ⟨a, xs, ds, rfl, hs, z, t, h⟩ := asSeq_ok si r1 h
      refine ⟨a, xs, rfl, ?_⟩
      rcases hs with hs | hs
      · exact .inl ⟨hs, fun l hl => okG.new h si hl (rep_tup hl z t)⟩
      · exact .inr ⟨hs, okG.here h si (.tup hs z t)⟩
def bools : List D → Option (List Bool)
  | [] => some []
  | .bl b :: ds => (bools ds).map (b :: ·)
  | _ => none
theorem bools_of {K : PySem.W.Frag} {G : Gh} {H : Hp} : ∀ {xs : List V} {ds : List D} {bs : List Bool}, Reps K G H xs ds → bools ds = some bs → xs = bs.map V.bl
  | _, _, _, .nil, e => by cases e; rfl
  | _, _, _, .cons r t, e => by
    cases r with
    | bl b =>
      rename_i vs ds
      cases q : bools ds with
      | none => unfold bools at e; rw [q] at e; cases e
      | some l =>
        unfold bools at e; rw [q] at e; cases e
        rw [bools_of t q]; rfl
    | _ => unfold bools at e; cases e
def dAll : D → M D
  | .lst ds => match bools ds with
    | some bs => M.pure (.bl (bs.all id))
    | none => M.bad
  | _ => M.bad
theorem calld_all {K : PySem.W.Frag} {mg : Str → Option Value} : CallD K mg (rAll K) (ar1 dAll) := by
  intro W G0 H0 G H σ ρ S xs ds Q si r h
  cases r with
  | nil => exact h.elim
  | cons r1 t =>
    cases t with
    | cons _ _ => exact h.elim
    | nil =>
      cases r1 with
      | lst e z n t =>
        rename_i a xs ds
        have h : okG K mg W (RD K) G0 H0 G H σ ρ Q (dAll (.lst ds) S) := h
        unfold dAll at h
        cases q : bools ds with
        | none => simp only [q] at h; exact h.elim
        | some bs =>
          simp only [q] at h
          exact ⟨a, bs, rfl, by rw [← bools_of t q]; exact SqL.of e, okG.here h si (.bl _)⟩
      | _ => exact h.elim
/-! ### slices of lists -/
def cutD (xs : List D) (lo hi : Option Int) : List D := (xs.drop (HT.sIx xs.length 0 lo)).take (HT.sIx xs.length xs.length hi - HT.sIx xs.length 0 lo)
def partM : Option (M D) → M (Option Int)
  | none => M.pure none
  | some m => m.bind fun d => match d with
    | .int i => M.pure (some i)
    | _ => M.bad
def EO (X : Cx) (W : WX) (ρ : List Slot) (e : Option Expr) (m : M (Option Int)) : Prop := PO X e (tG X.K X.mg W (fun _ _ a b => a = b) ρ m)
theorem PO.imp {X : Cx} {e : Option Expr} {t u : TO} (h : PO X e t) (k : ∀ σ H Q, u σ H Q → t σ H Q) : PO X e u := ⟨fun pins s σ H Q I q => h.run pins s σ H Q I (k σ H Q q)⟩
theorem eo_none : EO X W ρ none (partM none) := PO.imp po_none fun σ H Q ⟨G0, H0, G, S, si, h⟩ => okG.here h si rfl
theorem eo_some (h : ED X W ρ e m) : EO X W ρ (some e) (partM (some m)) := PO.imp (po_some h) fun σ H Q ⟨G0, H0, G, S, si, h⟩ => ⟨G0, H0, G, S, si, okG.bind h fun G1 H1 S1 x d s1 f1 r1 h1 => by
  cases r1 with
  | int i => exact ⟨i, rfl, okG.here h1 s1 rfl⟩
  | _ => exact h1.elim⟩
/-- xs[lo:hi], a new list -/
def cutM (m : M D) (lo hi : M (Option Int)) : M (List D) := m.bind fun d => lo.bind fun l => hi.bind fun u => (asLst d).bind fun ds => M.pure (cutD ds l u)
end
end Dl
namespace Dl
open PySem L2
/-! ### statements -/
/-- how a block ends: behind it (with what it leaves), by return, break, continue -/
inductive Fl (C L : Type) where
  | nx (c : C) | ret (d : D) | brk (l : L) | cnt (l : L)
/-- what is known behind a block, at an error, at break and continue -/
structure Ct (C L : Type) where
  W : WX
  x : List Slot
  emb : C → List Slot
  embL : L → List Slot
  R : Hp → Gh → Hp → V → D → Prop
/-- forgetting what slots hold -/
inductive Wk : List Slot → List Slot → Prop
  | nil : Wk [] []
  | same {s : Slot} {a b : List Slot} : Wk a b → Wk (s :: a) (s :: b)
  | any {s : Slot} {a b : List Slot} : Wk a b → Wk (s :: a) (.any :: b)
theorem wk_any : ∀ ρ : List Slot, Wk ρ (List.replicate ρ.length .any)
  | [] => .nil
  | s :: ρ => .any (wk_any ρ)
theorem wk_refl : ∀ ρ : List Slot, Wk ρ ρ
  | [] => .nil
  | s :: ρ => .same (wk_refl ρ)
theorem wk_set : ∀ (ρ : List Slot) (i : Nat), Wk ρ (ρ.set i .any)
  | [], _ => .nil
  | s :: ρ, 0 => .any (wk_refl ρ)
  | s :: ρ, i + 1 => .same (wk_set ρ i)
theorem Wk.len : ∀ {a b : List Slot}, Wk a b → a.length = b.length
  | _, _, .nil => rfl
  | _, _, .same t => by rw [List.length_cons, List.length_cons, Wk.len t]
  | _, _, .any t => by rw [List.length_cons, List.length_cons, Wk.len t]
theorem Wk.get : ∀ {a b : List Slot} {i : Nat} {s : Slot}, Wk a b → b[i]? = some s → s = .any ∨ a[i]? = some s
  | _, _, _, _, .nil, h => by simp at h
  | _, _, 0, _, .same _, h => .inr h
  | _, _, 0, _, .any _, h => by simp at h; exact .inl h.symm
  | _, _, i + 1, _, .same t, h => by
    rcases Wk.get (i := i) t (by simpa using h) with q | q
    · exact .inl q
    · exact .inr (by simpa using q)
  | _, _, i + 1, _, .any t, h => by
    rcases Wk.get (i := i) t (by simpa using h) with q | q
    · exact .inl q
    · exact .inr (by simpa using q)
theorem Wk.trans : ∀ {a b c : List Slot}, Wk a b → Wk b c → Wk a c
  | _, _, _, .nil, .nil => .nil
  | _, _, _, .same s, .same t => .same (Wk.trans s t)
  | _, _, _, .same s, .any t => .any (Wk.trans s t)
  | _, _, _, .any s, .same t => .any (Wk.trans s t)
  | _, _, _, .any s, .any t => .any (Wk.trans s t)
section
variable {K : PySem.W.Frag} {mg : Str → Option Value} {G G0 G1 : Gh} {H H0 H1 : Hp} {S : MS} {σ : L2.St} {ρ ρ' : List Slot} {p : Addr} {o : HO}
theorem SI.weak (s : SI K mg G0 H0 G H σ ρ S) (w : Wk ρ ρ') : SI K mg G0 H0 G H σ ρ' S where
  fr := s.fr
  live0 := s.live0
  wf := s.wf
  len := s.len.trans w.len
  env := fun i x h => by
    rcases w.get h with q | q
    · subst q; trivial
    · exact s.env i x q
  apart := fun i j ds es l n h1 h2 => by
    rcases w.get h1 with q | q
    · cases q
    · rcases w.get h2 with q' | q'
      · cases q'
      · exact s.apart i j ds es l n q q'
theorem SI.set (s : SI K mg G0 H0 G H σ ρ S) {v : V} {d : D} (i : Nat) (r : Rep K G H v d) : SI K mg G0 H0 G H (σ.set i (some v)) (ρ.set i (.val d)) S where
  fr := s.fr
  live0 := s.live0
  wf := s.wf
  len := by rw [List.length_set, List.length_set]; exact s.len
  env := fun j x h => by
    by_cases e : i = j
    · subst e
      by_cases hl : i < ρ.length
      · rw [List.getElem?_set_self hl] at h
        cases h
        exact ⟨v, List.getElem?_set_self (by rw [s.len]; exact hl), r⟩
      · rw [List.getElem?_eq_none (by rw [List.length_set]; omega)] at h
        cases h
    · rw [List.getElem?_set_ne e] at h ⊢
      exact s.env j x h
  apart := fun a b ds es l n h1 h2 h3 => by
    have ne : ∀ {c : Nat} {fs : List D}, (ρ.set i (.val d))[c]? = some (.own fs) → i ≠ c ∧ ρ[c]? = some (.own fs) := fun {c fs} h => by
      by_cases e : i = c
      · subst e
        by_cases hl : i < ρ.length
        · rw [List.getElem?_set_self hl] at h; cases h
        · rw [List.getElem?_eq_none (by rw [List.length_set]; omega)] at h; cases h
      · rw [List.getElem?_set_ne e] at h
        exact ⟨e, h⟩
    obtain ⟨n1, q1⟩ := ne h1
    obtain ⟨n2, q2⟩ := ne h2
    rw [List.getElem?_set_ne n1] at h3
    rw [List.getElem?_set_ne n2]
    exact s.apart a b ds es l n q1 q2 h3
/-- a new list becomes a frame's own -/
theorem SI.setOwn (s : SI K mg G0 H0 G H σ ρ S) {l : Addr} {xs : List V} {ds : List D} (i : Nat) (hl : H l = some (.lst xs)) (z : xs.length ≤ sizeLine) (ho : G.O l) (hc : ¬ G.cell l) (h0 : H0 l = none) (r : Reps K G H xs ds)
    (fresh : ∀ (j : Nat) (fs : List D), i ≠ j → ρ[j]? = some (.own fs) → σ[j]? ≠ some (some (.ref l))) :
    SI K mg G0 H0 G H (σ.set i (some (.ref l))) (ρ.set i (.own ds)) S where
  fr := s.fr
  live0 := s.live0
  wf := s.wf
  len := by rw [List.length_set, List.length_set]; exact s.len
  env := fun j x h => by
    by_cases e : i = j
    · subst e
      by_cases hi : i < ρ.length
      · rw [List.getElem?_set_self hi] at h
        cases h
        exact ⟨l, xs, List.getElem?_set_self (by rw [s.len]; exact hi), hl, z, r, ho, hc, h0⟩
      · rw [List.getElem?_eq_none (by rw [List.length_set]; omega)] at h
        cases h
    · rw [List.getElem?_set_ne e] at h ⊢
      exact s.env j x h
  apart := fun a b ds' es l' n' h1 h2 h3 => by
    have cs : ∀ {c : Nat} {fs : List D}, (ρ.set i (.own ds))[c]? = some (.own fs) → i = c ∨ (i ≠ c ∧ ρ[c]? = some (.own fs)) := fun {c fs} h => by
      by_cases e : i = c
      · exact .inl e
      · rw [List.getElem?_set_ne e] at h
        exact .inr ⟨e, h⟩
    have hs : ∀ {c : Nat}, i = c → (σ.set i (some (.ref l)))[c]? = some (some (.ref l')) → l = l' := fun {c} e h => by
      subst e
      by_cases hi : i < σ.length
      · rw [List.getElem?_set_self hi] at h
        cases h; rfl
      · rw [List.getElem?_eq_none (by rw [List.length_set]; omega)] at h
        cases h
    rcases cs h1 with e1 | ⟨n1, q1⟩
    · rcases cs h2 with e2 | ⟨n2, q2⟩
      · exact absurd (e1.symm.trans e2) n'
      · have := hs e1 h3
        subst this
        rw [List.getElem?_set_ne n2]
        exact fresh b es n2 q2
    · rw [List.getElem?_set_ne n1] at h3
      rcases cs h2 with e2 | ⟨n2, q2⟩
      · intro h4
        have := hs e2 h4
        subst this
        exact fresh a ds' n1 q1 h3
      · rw [List.getElem?_set_ne n2]
        exact s.apart a b ds' es l' n' q1 q2 h3
end
section
variable (K : PySem.W.Frag) (mg : Str → Option Value) {C L : Type} (k : Ct C L)
def okS (G0 : Gh) (H0 : Hp) (G1 : Gh) (H1 : Hp) (D : Ends) : Res (Fl C L) → Prop
  | .ok (.nx c) S => ∀ σ G H, SI K mg G0 H0 G H σ (k.emb c) S → LR G1 H1 G H → D.nx σ H
  | .ok (.ret d) S => ∀ v G H, FR G0 H0 G H → Wf K mg G H S → k.R H0 G H v d → D.rt v H
  | .ok (.brk l) S => ∀ σ G H, SI K mg G0 H0 G H σ (k.embL l) S → LR G1 H1 G H → D.bk σ H
  | .ok (.cnt l) S => ∀ σ G H, SI K mg G0 H0 G H σ (k.embL l) S → LR G1 H1 G H → D.ct σ H
  | .err e S => ∀ cls da σ G H, SI K mg G0 H0 G H σ k.x S → LR G1 H1 G H → ErrRep K mg G H e cls da → k.W cls da σ H
  | .bad => False
def tS (ρ : List Slot) (m : M (Fl C L)) : TS := fun D σ H => ∃ G0 H0 G S, SI K mg G0 H0 G H σ ρ S ∧ okS K mg k G0 H0 G H D (m S)
end
def SD (X : Cx) {C L : Type} (k : Ct C L) (ρ : List Slot) (sts : List Stmt) (m : M (Fl C L)) : Prop := PSs X sts (tS X.K X.mg k ρ m)
theorem okS.from {K : PySem.W.Frag} {mg : Str → Option Value} {C L : Type} {k : Ct C L} {G0 G G1 : Gh} {H0 H H1 : Hp} {D : Ends} {r : Res (Fl C L)} (h : okS K mg k G0 H0 G H D r) (f : LR G H G1 H1) : okS K mg k G0 H0 G1 H1 D r := by
  cases r with
  | ok z S =>
    cases z with
    | nx c => exact fun σ G H s r => h σ G H s (f.trans r)
    | ret d => exact h
    | brk l => exact fun σ G H s r => h σ G H s (f.trans r)
    | cnt l => exact fun σ G H s r => h σ G H s (f.trans r)
  | err e S => exact fun cls da σ G H s r => h cls da σ G H s (f.trans r)
  | bad => exact h
/-- behind an expression in a statement -/
theorem okS.bind {K : PySem.W.Frag} {mg : Str → Option Value} {C L : Type} {k : Ct C L} {α β : Type} {R : Gh → Hp → β → α → Prop} {G0 G : Gh} {H0 H : Hp} {D : Ends} {σ : L2.St} {ρ : List Slot} {Q : β → Hp → Prop} {S : MS} {m : M α} {f : α → M (Fl C L)}
    (h : okS K mg k G0 H0 G H D (m.bind f S)) (w : Wk ρ k.x)
    (q : ∀ G1 H1 S1 b a, SI K mg G0 H0 G1 H1 σ ρ S1 → R G1 H1 b a → okS K mg k G0 H0 G1 H1 D (f a S1) → Q b H1) : okG K mg k.W R G0 H0 G H σ ρ Q (m S) := by
  unfold M.bind at h
  cases e : m S with
  | ok a S1 =>
    rw [e] at h
    exact fun b G' H' s r z => q G' H' S1 b a s z (okS.from h r.lr)
  | err x S1 =>
    rw [e] at h
    exact fun cls da G' H' s f r => h cls da σ G' H' (s.weak w) f.lr r
  | bad => rw [e] at h; exact h
theorem okS.bind2 {K : PySem.W.Frag} {mg : Str → Option Value} {C L : Type} {k : Ct C L} {α β : Type} {R : Gh → Hp → β → α → Prop} {G0 G : Gh} {H0 H : Hp} {D : Ends} {σ : L2.St} {ρ : List Slot} {Q : β → Hp → Prop} {S : MS} {m : M α} {f : α → M (Fl C L)}
    (h : okS K mg k G0 H0 G H D (m.bind f S)) (w : Wk ρ k.x)
    (q : ∀ G1 H1 S1 b a, SI K mg G0 H0 G1 H1 σ ρ S1 → FR G H G1 H1 → R G1 H1 b a → okS K mg k G0 H0 G1 H1 D (f a S1) → Q b H1) : okG K mg k.W R G0 H0 G H σ ρ Q (m S) := by
  unfold M.bind at h
  cases e : m S with
  | ok a S1 =>
    rw [e] at h
    exact fun b G' H' s r z => q G' H' S1 b a s r z (okS.from h r.lr)
  | err x S1 =>
    rw [e] at h
    exact fun cls da G' H' s f r => h cls da σ G' H' (s.weak w) f.lr r
  | bad => rw [e] at h; exact h
theorem okS.bindN {K : PySem.W.Frag} {mg : Str → Option Value} {C L : Type} {k : Ct C L} {G0 G : Gh} {H0 H : Hp} {E : Ends} {σ : L2.St} {ρ : List Slot} {Q : VK} {S : MS} {m : M (List D)} {f : List D → M (Fl C L)}
    (h : okS K mg k G0 H0 G H E (m.bind f S)) (w : Wk ρ k.x)
    (q : ∀ l xs G1 H1 S1 ds, SI K mg G0 H0 G1 H1 σ ρ S1 → FR G H G1 H1 → H l = none → H1 l = some (.lst xs) → xs.length ≤ sizeLine → G1.O l → ¬ G1.cell l → Reps K G1 H1 xs ds → okS K mg k G0 H0 G1 H1 E (f ds S1) → Q (.ref l) H1) : okN K mg k.W G0 H0 G H σ ρ Q (m S) := by
  unfold M.bind at h
  cases e : m S with
  | ok a S1 =>
    rw [e] at h
    exact fun l xs G' H' s r n hl z ho hc t => q l xs G' H' S1 a s r n hl z ho hc t (okS.from h r.lr)
  | err x S1 =>
    rw [e] at h
    exact fun cls da G' H' s f r => h cls da σ G' H' (s.weak w) f.lr r
  | bad => rw [e] at h; exact h
/-! ### the statements' rules -/
section
variable {X : Cx} {C L : Type} {k : Ct C L} {ρ : List Slot} {a b c e : Expr} {es : List Expr} {m : M D} {pos p : Pos} {rest sts : List Stmt}
/-- the end of a block -/
theorem sd_nil {c : C} (w : Wk ρ (k.emb c)) : SD X k ρ [] (M.pure (.nx c)) := PSs.imp pss_nil fun D σ H ⟨G0, H0, G, S, si, h⟩ => h σ G H (si.weak w) (.refl G H)
theorem sd_bad : SD X k ρ sts M.bad := ⟨fun _ _ _ _ _ _ h => by
  obtain ⟨_, _, _, _, _, h⟩ := h
  exact h.elim⟩
def retM {C L : Type} (m : M D) : M (Fl C L) := m.bind fun d => M.pure (.ret d)
theorem sd_ret (w : Wk ρ k.x) (he : ED X k.W ρ e m) (hR : ∀ H0 G H v d, Rep X.K G H v d → k.R H0 G H v d := by exact fun _ _ _ _ _ h => h) : SD X k ρ (.Return (some e) pos :: rest) (retM m) :=
  PSs.imp (pss_cons (ps_ret he) pss_never) fun D σ H ⟨G0, H0, G, S, si, h⟩ => ⟨G0, H0, G, S, si, okS.bind h w fun G1 H1 S1 v d s1 r1 h1 => h1 v G1 H1 s1.fr s1.wf (hR _ _ _ _ _ r1)⟩
/-- x = e -/
theorem sd_set (i : Nat) {x : Str} {f : D → M (Fl C L)} (w : Wk ρ k.x) (hN : X.N.Nodup) (he : ED X k.W ρ e m) (hr : ∀ d, SD X k (ρ.set i (.val d)) rest (f d)) (hi : X.N[i]? = some x := by rfl) (hx : Loc X.env.scope x := by first | exact Or.inl rfl | exact Or.inr rfl)
    (hs : swapsWith e (some (.Name x p)) pos.line X.env = pure false := by rfl) (hf : X.fn x = true ∨ X.env.scope.names.lookup x = some .local := by first | exact .inl rfl | exact .inr rfl) :
    SD X k ρ (.Assign [.Name x p] e pos :: rest) (m.bind f) := by
  let u : TS := fun D σ H => ∃ d, tS X.K X.mg k (ρ.set i (.val d)) (f d) D σ H
  have hu : PSs X rest u := ⟨fun pins s σ H D I ⟨d, q⟩ => (hr d).run pins s σ H D I q⟩
  refine PSs.imp (pss_cons (ps_set hN hi hx he hs hf) hu) fun D σ H ⟨G0, H0, G, S, si, h⟩ => ⟨G0, H0, G, S, si, okS.bind h w fun G1 H1 S1 v d s1 r1 h1 => ?_⟩
  exact ⟨d, G0, H0, G1, S1, s1.set i r1, h1⟩
/-- what is built is done -/
theorem sd_frz (i : Nat) {ds : List D} {m : M (Fl C L)} (h : SD X k (ρ.set i (.val (.lst ds))) sts m) (hρ : ρ[i]? = some (.own ds) := by rfl) : SD X k ρ sts m := PSs.imp h fun D σ H ⟨G0, H0, G, S, si, h⟩ => by
  obtain ⟨l, xs, e, hl, z, t, ho, hc, h0⟩ := si.env i _ hρ
  have hi : i < ρ.length := (List.getElem?_eq_some_iff.mp hρ).1
  have s1 : SI X.K X.mg G0 H0 G H σ (ρ.set i .any) S := si.weak (wk_set ρ i)
  have s2 : SI X.K X.mg G0 H0 (G.let l) H σ (ρ.set i .any) S := s1.let h0 fun j es ej q => by
    by_cases q' : i = j
    · subst q'
      rw [List.getElem?_set_self hi] at ej; cases ej
    · rw [List.getElem?_set_ne q'] at ej
      exact si.apart i j ds es l q' hρ ej e q
  have s3 := s2.set (v := .ref l) (d := .lst ds) i (.lst hl z (fun q => q.elim hc fun y => y.1 rfl) t.let)
  have e1 : σ.set i (some (.ref l)) = σ := by
    apply List.ext_getElem?
    intro j
    by_cases q : i = j
    · subst q
      rw [List.getElem?_set_self (by rw [si.len]; exact hi), e]
    · rw [List.getElem?_set_ne q]
  rw [e1, List.set_set] at s3
  exact ⟨G0, H0, G.let l, S, s3, okS.from h LR.let⟩
/-- an expression alone -/
theorem sd_expr {mr : M (Fl C L)} (w : Wk ρ k.x) (he : ED X k.W ρ e m) (hr : SD X k ρ rest mr) (hs : swapsWith e none pos.line X.env = pure false := by rfl) : SD X k ρ (.Expr e pos :: rest) (m.bind fun _ => mr) :=
  PSs.imp (pss_cons (ps_expr he hs) hr) fun D σ H ⟨G0, H0, G, S, si, h⟩ => ⟨G0, H0, G, S, si, okS.bind h w fun G1 H1 S1 v d s1 r1 h1 => ⟨G0, H0, G1, S1, s1, h1⟩⟩
/-- a way that never goes on behind the if -/
def outM {C L : Type} (m : M (Fl Empty L)) : M (Fl C L) := m.bind fun f => match f with
  | .ret d => M.pure (.ret d)
  | .brk l => M.pure (.brk l)
  | .cnt l => M.pure (.cnt l)
  | .nx c => c.elim
def Ct.no {C L : Type} (k : Ct C L) : Ct Empty L := ⟨k.W, k.x, fun c => c.elim, k.embL, k.R⟩
theorem okS.out {K : PySem.W.Frag} {mg : Str → Option Value} {G0 : Gh} {H0 : Hp} {D D' : Ends} {S : MS} {m : M (Fl Empty L)} {G1 : Gh} {H1 : Hp} (h : okS K mg k G0 H0 G1 H1 D (outM m S)) (e1 : D'.rt = D.rt) (e2 : D'.bk = D.bk) (e3 : D'.ct = D.ct) : okS K mg k.no G0 H0 G1 H1 D' (m S) := by
  unfold outM M.bind at h
  cases q : m S with
  | ok f S1 =>
    rw [q] at h
    cases f with
    | nx c => exact c.elim
    | ret d => intro v G H; rw [e1]; exact h v G H
    | brk l => intro σ G H; rw [e2]; exact h σ G H
    | cnt l => intro σ G H; rw [e3]; exact h σ G H
  | err x S1 => rw [q] at h; exact h
  | bad => rw [q] at h; exact h
theorem sd_ifR {tc : M Bool} {ma : M (Fl Empty L)} {mr : M (Fl C L)} {sa : List Stmt} (w : Wk ρ k.x) (hc : ET X k.W ρ c tc) (ha : SD X k.no ρ sa ma) (hr : SD X k ρ rest mr) : SD X k ρ (.If c sa [] pos :: rest) (ifM tc (outM ma) mr) :=
  PSs.imp (pss_cons (ps_if hc ha pss_nil) hr) fun D σ H ⟨G0, H0, G, S, si, h⟩ => ⟨G0, H0, G, S, si, okS.bind h w fun G1 H1 S1 v d s1 r1 h1 => by
    cases r1
    cases v with
    | true => exact ⟨G0, H0, G1, S1, s1, h1.out rfl rfl rfl⟩
    | false => exact ⟨G0, H0, G1, S1, s1, h1⟩⟩
/-- a block, then what follows it -/
def thenM {J C L : Type} (m : M (Fl J L)) (f : J → M (Fl C L)) : M (Fl C L) := m.bind fun z => match z with
  | .nx c => f c
  | .ret d => M.pure (.ret d)
  | .brk l => M.pure (.brk l)
  | .cnt l => M.pure (.cnt l)
def Ct.to {C L J : Type} (k : Ct C L) (emb : J → List Slot) : Ct J L := ⟨k.W, k.x, emb, k.embL, k.R⟩
theorem okS.then {K : PySem.W.Frag} {mg : Str → Option Value} {G0 : Gh} {H0 : Hp} {D D' : Ends} {S : MS} {J : Type} {emb : J → List Slot} {m : M (Fl J L)} {f : J → M (Fl C L)} {G1 : Gh} {H1 : Hp} (h : okS K mg k G0 H0 G1 H1 D (thenM m f S)) (e0 : ∀ c S1 σ G H, SI K mg G0 H0 G H σ (emb c) S1 → LR G1 H1 G H → okS K mg k G0 H0 G H D (f c S1) → D'.nx σ H)
    (e1 : D'.rt = D.rt) (e2 : D'.bk = D.bk) (e3 : D'.ct = D.ct) : okS K mg (k.to emb) G0 H0 G1 H1 D' (m S) := by
  unfold thenM M.bind at h
  cases q : m S with
  | ok f S1 =>
    rw [q] at h
    cases f with
    | nx c => intro σ G H si lr; exact e0 c S1 σ G H si lr (okS.from h lr)
    | ret d => intro v G H; rw [e1]; exact h v G H
    | brk l => intro σ G H; rw [e2]; exact h σ G H
    | cnt l => intro σ G H; rw [e3]; exact h σ G H
  | err x S1 => rw [q] at h; exact h
  | bad => rw [q] at h; exact h
theorem sd_ifJ {J : Type} (emb : J → List Slot) {tc : M Bool} {ma mb : M (Fl J L)} {f : J → M (Fl C L)} {sa sb : List Stmt} (w : Wk ρ k.x) (hc : ET X k.W ρ c tc) (ha : SD X (k.to emb) ρ sa ma) (hb : SD X (k.to emb) ρ sb mb) (hr : ∀ c, SD X k (emb c) rest (f c)) :
    SD X k ρ (.If c sa sb pos :: rest) (thenM (ifM tc ma mb) f) := by
  let u : TS := fun D σ H => ∃ c, tS X.K X.mg k (emb c) (f c) D σ H
  have hu : PSs X rest u := ⟨fun pins s σ H D I ⟨d, q⟩ => (hr d).run pins s σ H D I q⟩
  refine PSs.imp (pss_cons (ps_if hc ha hb) hu) fun D σ H ⟨G0, H0, G, S, si, h⟩ => ?_
  have h' : okS X.K X.mg (k.to emb) G0 H0 G H { D with nx := u D } (ifM tc ma mb S) := okS.then h (fun c S1 σ G H si _ h => ⟨c, G0, H0, G, S1, si, h⟩) rfl rfl rfl
  exact ⟨G0, H0, G, S, si, okS.bind (k := k.to emb) h' w fun G1 H1 S1 v d s1 r1 h1 => by
    cases r1
    cases v with
    | true => exact ⟨G0, H0, G1, S1, s1, h1⟩
    | false => exact ⟨G0, H0, G1, S1, s1, h1⟩⟩
end
end Dl
namespace Dl
open PySem L2
/-! ### what is walked -/
/-- J gives the items ds, one by one, as long as what does not change stands -/
def IsW (K : PySem.W.Frag) (J : It) (ds : List D) (G : Gh) (H : Hp) : Prop := ∃ (Gd : Hp → Prop) (Y : Nat → Hp → V → Hp → Prop), Walk J ds.length Gd Y ∧ (∀ G1 H1, LR G H G1 H1 → Gd H1) ∧
  ∀ i G1 H1 x H2, i < ds.length → LR G H G1 H1 → Y i H1 x H2 → (H2 = H1 ∨ ∃ p o, H1 p = none ∧ H2 = upd H1 p o) ∧ ∃ d, ds[i]? = some d ∧ Rep K G1 H2 x d
section
variable (K : PySem.W.Frag) (mg : Str → Option Value) (W : WX)
def okI (G0 : Gh) (H0 : Hp) (G : Gh) (H : Hp) (σ : L2.St) (ρ : List Slot) (R : It → Hp → Prop) : Res (List D) → Prop
  | .ok ds S => ∀ J G' H', SI K mg G0 H0 G' H' σ ρ S → FR G H G' H' → IsW K J ds G' H' → R J H'
  | .err e S => ∀ cls da G' H', SI K mg G0 H0 G' H' σ ρ S → FR G H G' H' → ErrRep K mg G' H' e cls da → W cls da σ H'
  | .bad => False
def tI (ρ : List Slot) (m : M (List D)) : TI := fun σ H R => ∃ G0 H0 G S, SI K mg G0 H0 G H σ ρ S ∧ okI K mg W G0 H0 G H σ ρ R (m S)
end
def ID (X : Cx) (W : WX) (ρ : List Slot) (tg iter : Expr) (m : M (List D)) : Prop := PI X tg iter (tI X.K X.mg W ρ m)
theorem PI.imp {X : Cx} {tg it : Expr} {t u : TI} (h : PI X tg it t) (k : ∀ σ H R, u σ H R → t σ H R) : PI X tg it u := ⟨fun pins s σ H R I q => h.run pins s σ H R I (k σ H R q)⟩
section
variable {K : PySem.W.Frag} {mg : Str → Option Value} {W : WX} {α β : Type} {R : Gh → Hp → β → α → Prop} {G0 G G1 : Gh} {H0 H H1 : Hp} {σ : L2.St} {ρ : List Slot} {Q : β → Hp → Prop} {Q' : It → Hp → Prop} {S : MS}
theorem okI.from {r : Res (List D)} (h : okI K mg W G0 H0 G H σ ρ Q' r) (f : FR G H G1 H1) : okI K mg W G0 H0 G1 H1 σ ρ Q' r := by
  cases r with
  | ok a S => exact fun J G' H' s r q => h J G' H' s (f.trans r) q
  | err e S => exact fun cls da G' H' s r => h cls da G' H' s (f.trans r)
  | bad => exact h
theorem okI.bind {m : M α} {f : α → M (List D)} (h : okI K mg W G0 H0 G H σ ρ Q' (m.bind f S))
    (k : ∀ G1 H1 S1 b a, SI K mg G0 H0 G1 H1 σ ρ S1 → FR G H G1 H1 → R G1 H1 b a → okI K mg W G0 H0 G1 H1 σ ρ Q' (f a S1) → Q b H1) : okG K mg W R G0 H0 G H σ ρ Q (m S) := by
  unfold M.bind at h
  cases e : m S with
  | ok a S1 =>
    rw [e] at h
    exact fun b G' H' s r q => k G' H' S1 b a s r q (okI.from h r)
  | err x S1 => rw [e] at h; exact h
  | bad => rw [e] at h; exact h
theorem okI.here {J : It} {ds : List D} (h : okI K mg W G0 H0 G H σ ρ Q' (.ok ds S)) (s : SI K mg G0 H0 G H σ ρ S) (w : IsW K J ds G H) : Q' J H := h J G H s (.refl G H) w
theorem isW_list {a : Addr} {xs : List V} {ds : List D} (h : H a = some (.lst xs)) (n : ¬ G.mu a) (t : Reps K G H xs ds) : IsW K (Itl K a) ds G H := by
  refine ⟨fun H => SqL K H a xs, YAt xs, by rw [← t.length]; exact walk_list, fun G1 H1 r => SqL.of (r.keep _ _ h (.inl n)), fun i G1 H1 x H2 _ r y => ?_⟩
  obtain ⟨e, q⟩ := y
  subst e
  obtain ⟨d, hd, rd⟩ := (t.lr r).getV q
  exact ⟨.inl rfl, d, hd, rd⟩
theorem isW_tup {a : Addr} {xs : List V} {ds : List D} (h : SqT K H a xs) (t : Reps K G H xs ds) : IsW K (Itt K a) ds G H := by
  refine ⟨fun H => SqT K H a xs, YAt xs, by rw [← t.length]; exact walk_tup, fun G1 H1 r => r.sqT h, fun i G1 H1 x H2 _ r y => ?_⟩
  obtain ⟨e, q⟩ := y
  subst e
  obtain ⟨d, hd, rd⟩ := (t.lr r).getV q
  exact ⟨.inl rfl, d, hd, rd⟩
theorem isW_fn {J : It} {n : Nat} {f : Nat → V} {g : Nat → D} (w : Walk J n (fun _ => True) (YFn f)) (h : ∀ i G H, Rep K G H (f i) (g i)) : IsW K J ((List.range n).map g) G H := by
  refine ⟨fun _ => True, YFn f, by rw [List.length_map, List.length_range]; exact w, fun _ _ _ => trivial, fun i G1 H1 x H2 hi r y => ?_⟩
  obtain ⟨e, q⟩ := y
  subst e q
  rw [List.length_map, List.length_range] at hi
  exact ⟨.inl rfl, g i, by rw [List.getElem?_map, List.getElem?_range hi]; rfl, h i _ _⟩
/-- pairs that are made on the way -/
theorem isW_pair {J : It} {n : Nat} {Gd : Hp → Prop} {xs ys : Nat → Option V} {ds es : List D} (w : Walk J n Gd (YPair xs ys)) (hG : ∀ G1 H1, LR G H G1 H1 → Gd H1) (hn : (ds.zip es).length = n)
    (hx : ∀ i x G1 H1, LR G H G1 H1 → i < n → xs i = some x → ∃ d, ds[i]? = some d ∧ Rep K G1 H1 x d) (hy : ∀ i x G1 H1, LR G H G1 H1 → i < n → ys i = some x → ∃ d, es[i]? = some d ∧ Rep K G1 H1 x d) :
    IsW K J ((ds.zip es).map fun p => .tup [p.1, p.2]) G H := by
  refine ⟨Gd, YPair xs ys, by rw [List.length_map, hn]; exact w, hG, fun i G1 H1 v H2 hi r y => ?_⟩
  rw [List.length_map, hn] at hi
  obtain ⟨T, x, z, e1, e2, e3, e4, e5⟩ := y
  subst e1 e3
  obtain ⟨d, hd, rd⟩ := hx i x G1 H1 r hi e4
  obtain ⟨e, he, re⟩ := hy i z G1 H1 r hi e5
  refine ⟨.inr ⟨T, _, e2, rfl⟩, .tup [d, e], ?_, rep_tup e2 (by show 2 ≤ sizeLine; rw [sizeLine_eq]; decide) (.cons rd (.cons re .nil))⟩
  rw [List.getElem?_map, show (ds.zip es)[i]? = some (d, e) from List.getElem?_zip_eq_some.mpr ⟨hd, he⟩]
  rfl
end
section
variable {X : Cx} {W : WX} {ρ : List Slot} {a b c e tg : Expr} {es : List Expr} {ma mb mc m : M D} {ms : List (M D)} {pos p p2 : Pos}
/-- a list or a tuple -/
def iSeq (K : PySem.W.Frag) (tl : TE) : TI := fun σ H R => tl σ H fun x H1 => ∃ a, x = .ref a ∧ (((∃ xs, SqL K H1 a xs) ∧ R (Itl K a) H1) ∨ ((∃ xs, SqT K H1 a xs) ∧ R (Itt K a) H1))
theorem pi_seq {l : Expr} {tl : TE} (hl : PE X l tl) : PI X tg l (iSeq X.K tl) := by
  constructor
  intro pins s σ H R I h
  refine wpAny_mono (hl.run pins s σ H _ I h) ?_ (fun _ _ z => z)
  rintro v t ⟨x, H1, J, rx, a, e, w⟩
  subst e
  cases rx
  -- the iterator is the object that is made now
  have fresh : ∀ b ∈ [t.heap.objs.size], FpOk X pins H1 b := fun b hb => by
    cases List.mem_singleton.mp hb
    exact J.fpOk (Nat.le_refl t.heap.objs.size) (J.hok.fresh (Nat.le_refl t.heap.objs.size))
  have kept : ∀ (o : Obj) (b : Addr) (u : Obj), t.heap.get? b = some u → (t.heap.push o).get? b = some u := fun o b u z => Heap.get?_push_of_some o z
  rcases w with ⟨⟨xs, sq⟩, r⟩ | ⟨⟨xs, sq⟩, r⟩
  · obtain ⟨is, _, p, _⟩ := J.list sq
    exact wpAny_pyIter_list p.isList ⟨_, _, _, _, H1, rfl, J.kept (t' := t.toks) (kept _), turn_list a _, ⟨_, Heap.get?_push_size _ rfl, rfl, rfl⟩, fresh, r⟩
  · obtain ⟨is, _, p, _⟩ := J.tuple sq
    exact wpAny_pyIter_tuple (show Heap.IsTuple t.heap a is.toArray from p) ⟨_, _, _, _, H1, rfl, J.kept (t' := t.toks) (kept _), turn_tuple a _, ⟨_, Heap.get?_push_size _ rfl, rfl, rfl⟩, fresh, r⟩
/-- the items of a list that does not change, or of a tuple -/
def items : D → M (List D)
  | .lst ds => M.pure ds
  | .tup ds => M.pure ds
  | _ => M.bad
theorem id_seq (h : ED X W ρ e m) : ID X W ρ tg e (m.bind items) := PI.imp (pi_seq h) fun σ H R ⟨G0, H0, G, S, si, h⟩ => ⟨G0, H0, G, S, si, okI.bind h fun G1 H1 S1 x d s1 f1 r1 h1 => by
  cases r1 with
  | lst e z n t => exact ⟨_, rfl, .inl ⟨⟨_, SqL.of e⟩, okI.here h1 s1 (isW_list e n t)⟩⟩
  | tup e z t => exact ⟨_, rfl, .inr ⟨⟨_, e⟩, okI.here h1 s1 (isW_tup e t)⟩⟩
  | _ => exact h1.elim⟩
def rng1i (j : Int) : M (List D) := if decide (-(2 ^ 62) ≤ j) && decide (j < 2 ^ 62) then M.pure ((List.range j.toNat).map fun (i : Nat) => .int i) else M.bad
def rng1 : D → M (List D)
  | .int j => rng1i j
  | _ => M.bad
theorem id_rng1 (hm : X.mg "range" = none) (ha : ED X W ρ a m) (hg : Gl X "range" := by rfl) (hs : starEach [a] X.env = [(false, eval a X.env)] := by rfl) : ID X W ρ tg (.Call (.Name "range" p) [a] [] pos) (m.bind rng1) :=
  PI.imp (pi_range1 hg hm (pa_cons ha pa_nil hs) hs) fun σ H R ⟨G0, H0, G, S, si, h⟩ => ⟨G0, H0, G, S, si, okI.bind h fun G1 H1 S1 x d s1 f1 r1 h1 => by
    cases r1 with
    | int j =>
      have h1 : okI X.K X.mg W G0 H0 G1 H1 σ ρ R (rng1i j S1) := h1
      unfold rng1i at h1
      by_cases z : (decide (-(2 ^ 62) ≤ j) && decide (j < 2 ^ 62)) = true
      · rw [if_pos z] at h1
        simp only [Bool.and_eq_true, decide_eq_true_eq] at z
        refine ⟨j, rfl, z.1, z.2, okI.here h1 s1 (isW_fn (walk_range (lo := 0) (n := j.toNat)) fun i G H => ?_)⟩
        rw [Int.zero_add]
        exact .int _
      · rw [if_neg z] at h1
        exact h1.elim
    | _ => exact h1.elim⟩
def enumD (ds : List D) : List D := (((List.range ds.length).map fun (i : Nat) => D.int i).zip ds).map fun p => .tup [p.1, p.2]
def enumM : D → M (List D)
  | .lst ds => M.pure (enumD ds)
  | _ => M.bad
def zipD (ds es : List D) : List D := (ds.zip es).map fun p => .tup [p.1, p.2]
def zipM : List D → M (List D)
  | [.lst ds, .lst es] => M.pure (zipD ds es)
  | [.tup ds, .tup es] => M.pure (zipD ds es)
  | _ => M.bad
theorem walk_zipT {K : PySem.W.Frag} {a b : Addr} {xs ys : List V} {n : Nat} (hn : n = min xs.length ys.length) : Walk (RZ.ItzT K a b) n (fun H => SqT K H a xs ∧ SqT K H b ys) (YPair (fun i => xs[i]?) (fun i => ys[i]?)) := by
  subst hn
  constructor
  · intro i _ lt sq
    obtain ⟨l1, l2⟩ : i < xs.length ∧ i < ys.length := ⟨by omega, by omega⟩
    exact ⟨xs, ys, xs[i]'l1, ys[i]'l2, sq.1, sq.2, List.getElem?_eq_getElem l1, List.getElem?_eq_getElem l2⟩
  · exact fun _ sq => ⟨xs, ys, sq.1, sq.2, by omega⟩
  · rintro i _ _ _ _ sq ⟨T, x, y, c1, c2, c3, c4, c5⟩
    exact ⟨T, x, y, c1, c2, c3, c4 xs sq.1, c5 ys sq.2⟩
theorem id_zip {elts : List Expr} {kk : Nat} (hm : X.mg "zip" = none) (ha : EA X W ρ [a, b] (argsM ms)) (hg : Gl X "zip" := by rfl) (hs : starEach [a, b] X.env = (false, eval a X.env) :: starEach [b] X.env := by rfl) (hpl : (backTo pos (starEach [b] X.env)).any (·.1) = false := by rfl) :
    ID X W ρ (.Tuple elts kk p2) (.Call (.Name "zip" p) [a, b] [] pos) ((argsM ms).bind zipM) :=
  PI.imp (RZ.pi_zipA hg hm ha hs hpl) fun σ H R ⟨G0, H0, G, S, si, h⟩ => ⟨G0, H0, G, S, si, okI.bind h fun G1 H1 S1 xs ds s1 f1 r1 h1 => by
    cases r1 with
    | nil => exact h1.elim
    | cons r1 t =>
      cases t with
      | nil => cases r1 <;> exact h1.elim
      | cons r2 t =>
        cases t with
        | cons _ _ => cases r1 <;> cases r2 <;> exact h1.elim
        | nil =>
          cases r1 with
          | lst e1 z1 n1 t1 =>
            cases r2 with
            | lst e2 z2 n2 t2 =>
              refine ⟨_, _, _, _, rfl, .inl ⟨SqL.of e1, SqL.of e2, okI.here h1 s1 ?_⟩⟩
              exact isW_pair (walk_zip rfl) (fun G1 H1 r => ⟨SqL.of (r.keep _ _ e1 (.inl n1)), SqL.of (r.keep _ _ e2 (.inl n2))⟩) (by rw [List.length_zip, t1.length, t2.length]) (fun i x G1 H1 r hi q => (t1.lr r).getV q) (fun i x G1 H1 r hi q => (t2.lr r).getV q)
            | _ => exact h1.elim
          | tup e1 z1 t1 =>
            cases r2 with
            | tup e2 z2 t2 =>
              refine ⟨_, _, _, _, rfl, .inr ⟨e1, e2, okI.here h1 s1 ?_⟩⟩
              exact isW_pair (walk_zipT rfl) (fun G1 H1 r => ⟨r.sqT e1, r.sqT e2⟩) (by rw [List.length_zip, t1.length, t2.length]) (fun i x G1 H1 r hi q => (t1.lr r).getV q) (fun i x G1 H1 r hi q => (t2.lr r).getV q)
            | _ => exact h1.elim
          | _ => cases r2 <;> exact h1.elim⟩
/-! ### targets -/
/-- what is stored at a target: u takes the item apart, sl tells the slots -/
def TgD (K : PySem.W.Frag) (mg : Str → Option Value) (g : TG) (u : D → Option (List D)) (sl : List Slot → List D → List Slot) (is : List Nat) : Prop :=
  ∀ (G0 : Gh) (H0 : Hp) (G : Gh) (H : Hp) (σ : L2.St) (ρ : List Slot) (S : MS) (v : V) (d : D) (ds : List D) (Q : L2.St → Hp → Prop), SI K mg G0 H0 G H σ ρ S → Rep K G H v d → u d = some ds → (∀ σ', SI K mg G0 H0 G H σ' (sl ρ ds) S → (∀ vs, (∀ i ∈ is, i ∈ vs) → wipe σ' vs = wipe σ vs) → Q σ' H) → g v σ H Q
def TgsD (K : PySem.W.Frag) (mg : Str → Option Value) (g : TGs) (u : List D → Option (List D)) (sl : List Slot → List D → List Slot) (is : List Nat) : Prop :=
  ∀ (G0 : Gh) (H0 : Hp) (G : Gh) (H : Hp) (σ : L2.St) (ρ : List Slot) (S : MS) (v : List V) (d : List D) (ds : List D) (Q : L2.St → Hp → Prop), SI K mg G0 H0 G H σ ρ S → Reps K G H v d → u d = some ds → (∀ σ', SI K mg G0 H0 G H σ' (sl ρ ds) S → (∀ vs, (∀ i ∈ is, i ∈ vs) → wipe σ' vs = wipe σ vs) → Q σ' H) → g v σ H Q
def u1 : D → Option (List D) := fun d => some [d]
def sl1 (i : Nat) : List Slot → List D → List Slot
  | ρ, [d] => ρ.set i (.val d)
  | ρ, _ => ρ
theorem wipe_set {σ : L2.St} {i : Nat} {x : Option V} : ∀ {vs : List Nat}, i ∈ vs → wipe (σ.set i x) vs = wipe σ vs
  | [], h => absurd h (by simp)
  | v :: vs, h => by
    unfold wipe
    by_cases q : i ∈ vs
    · rw [wipe_set q]
    · have e : i = v := by
        cases List.mem_cons.mp h with
        | inl y => exact y
        | inr y => exact absurd y q
      subst e
      have z : ∀ ws : List Nat, i ∉ ws → wipe (σ.set i x) ws = (wipe σ ws).set i x := by
        intro ws
        induction ws with
        | nil => intro _; rfl
        | cons w ws ih =>
          intro hn
          have h1 : i ≠ w := fun e => hn (by rw [e]; exact List.mem_cons_self)
          have h2 : i ∉ ws := fun e => hn (List.mem_cons_of_mem _ e)
          unfold wipe
          rw [ih h2, List.set_comm _ _ (Ne.symm h1)]
      rw [z vs q, List.set_set]
theorem tg_name {K : PySem.W.Frag} {mg : Str → Option Value} (i : Nat) : TgD K mg (gName i) u1 (sl1 i) [i] := fun G0 H0 G H σ ρ S v d ds Q si r e k => by
  cases e
  exact k _ (si.set i r) fun vs h => wipe_set (h i List.mem_cons_self)
def slN : List Nat → List Slot → List D → List Slot
  | i :: is, ρ, d :: ds => slN is (ρ.set i (.val d)) ds
  | _, ρ, _ => ρ
/-! ### for -/
def forM {C L : Type} (body : C → D → M (Fl C C)) : List D → C → M (Fl C L)
  | [], c => M.pure (.nx c)
  | d :: ds, c => (body c d).bind fun z => match z with
    | .nx c' => forM body ds c'
    | .cnt c' => forM body ds c'
    | .brk c' => M.pure (.nx c')
    | .ret v => M.pure (.ret v)
def unM {α : Type} (u : D → Option (List D)) (f : List D → M α) (d : D) : M α := (ofOpt (u d)).bind f
theorem LR.new {G : Gh} {H : Hp} {p : Addr} {o : HO} (h : H p = none) : LR G H G (upd H p o) := (FR.alloc h).lr
theorem sd_for {C L J : Type} {k : Ct C L} (emb : J → List Slot) (c0 : J) {iter : Expr} {body rest : List Stmt} {mi : M (List D)} {g : TG} {u : D → Option (List D)} {sl : List Slot → List D → List Slot} {mb : J → List D → M (Fl J J)} {f : J → M (Fl C L)}
    (w : Wk ρ k.x) (w0 : Wk ρ (emb c0)) (hp : PassesOwn (model X.prog X.w) X.A X.env X.xe) (hi : ID X k.W ρ tg iter mi) (hg : PG X tg g) {is : List Nat} (ht : TgD X.K X.mg g u sl is)
    (hb : ∀ c ds, SD X ⟨k.W, k.x, emb, emb, k.R⟩ (sl (emb c) ds) body (mb c ds)) (hr : ∀ c, SD X k (emb c) rest (f c)) (hc : X.calm = true := by rfl) (hs : ∀ x, foldedSetIterable iter X.env x = pure x := by intro _; rfl) :
    SD X k ρ (.For tg iter body [] pos :: rest) (mi.bind fun ds => thenM (forM (fun c => unM u (mb c)) ds c0) f) := by
  let ub : TS := fun D σ H => ∃ c ds, tS X.K X.mg ⟨k.W, k.x, emb, emb, k.R⟩ (sl (emb c) ds) (mb c ds) D σ H
  have hub : PSs X body ub := ⟨fun pins s σ H D I ⟨c, d, q⟩ => (hb c d).run pins s σ H D I q⟩
  let ur : TS := fun D σ H => ∃ c, tS X.K X.mg k (emb c) (f c) D σ H
  have hur : PSs X rest ur := ⟨fun pins s σ H D I ⟨c, q⟩ => (hr c).run pins s σ H D I q⟩
  refine PSs.imp (pss_cons (ps_for hp hc hi hg hub hs) hur) fun D σ H ⟨G0, H0, G, S, si, h⟩ => ⟨G0, H0, G, S, si, ?_⟩
  unfold M.bind at h
  cases e : mi S with
  | err x S1 =>
    rw [e] at h
    exact fun cls da G' H' s f r => h cls da σ G' H' (s.weak w) f.lr r
  | bad => rw [e] at h; exact h
  | ok ds S1 =>
    rw [e] at h
    intro J1 G1 H1 s1 f1 iw
    have h1 : okS X.K X.mg k G0 H0 G1 H1 D (thenM (forM (fun c => unM u (mb c)) ds c0) f S1) := okS.from h f1.lr
    obtain ⟨Gd, Y, wk, hG, hY⟩ := iw
    let Pv : Nat → L2.St → Hp → Prop := fun i σ' H' => ∃ c G' S', SI X.K X.mg G0 H0 G' H' σ' (emb c) S' ∧ LR G1 H1 G' H' ∧ okS X.K X.mg k G0 H0 G' H' D (thenM (forM (fun c => unM u (mb c)) (ds.drop i) c) f S')
    refine for_it wk Pv ⟨c0, G1, S1, s1.weak w0, .refl _ _, h1⟩
      (fun i σ' H' _ ⟨c, G', S', _, lr, _⟩ => hG G' H' lr) ?_ ?_
    · rintro i x σ' H' H2 hi ⟨c, G', S', s', lr, h'⟩ y
      obtain ⟨hH, d, hd, rd⟩ := hY i G' H' x H2 hi lr y
      have s2 : SI X.K X.mg G0 H0 G' H2 σ' (emb c) S' := by
        rcases hH with e | ⟨p, o, hp, e⟩
        · rw [e]; exact s'
        · rw [e]; exact s'.alloc hp
      have l2 : LR G' H' G' H2 := by
        rcases hH with e | ⟨p, o, hp, e⟩
        · rw [e]; exact .refl _ _
        · rw [e]; exact LR.new hp
      have ed : ds.drop i = d :: ds.drop (i + 1) := by
        obtain ⟨hi', e⟩ := List.getElem?_eq_some_iff.mp hd
        rw [← e]
        exact List.drop_eq_getElem_cons hi'
      rw [ed] at h'
      have h2 := okS.from h' l2
      have h3 : okS X.K X.mg ⟨k.W, k.x, emb, emb, k.R⟩ G0 H0 G' H2 { D with nx := Pv (i + 1), ct := Pv (i + 1), bk := ur D } (unM u (mb c) d S') := by
        unfold thenM forM M.bind at h2
        cases q : unM u (mb c) d S' with
        | ok z S3 =>
          rw [q] at h2
          cases z with
          | nx c' => exact fun σ'' G'' H'' s'' l'' => ⟨c', G'', S3, s'', (lr.trans l2).trans l'', okS.from h2 l''⟩
          | cnt c' => exact fun σ'' G'' H'' s'' l'' => ⟨c', G'', S3, s'', (lr.trans l2).trans l'', okS.from h2 l''⟩
          | brk c' => exact fun σ'' G'' H'' s'' l'' => ⟨c', G0, H0, G'', S3, s'', okS.from h2 l''⟩
          | ret v => exact h2
        | err x S3 => rw [q] at h2; exact h2
        | bad => rw [q] at h2; exact h2
      unfold unM at h3
      cases q : u d with
      | none => rw [q] at h3; exact h3.elim
      | some us =>
        rw [q] at h3
        exact ht G0 H0 G' H2 σ' (emb c) S' x d us _ s2 rd q fun σ3 s3 _ => ⟨c, us, G0, H0, G', S', s3, h3⟩
    · rintro σ' H' ⟨c, G', S', s', lr, h'⟩
      rw [List.drop_length] at h'
      exact ⟨c, G0, H0, G', S', s', h'⟩
end
end Dl
namespace Dl
open PySem L2
/-! ### a list of a frame's own changes -/
section
variable {K : PySem.W.Frag} {mg : Str → Option Value} {G G0 G1 : Gh} {H H0 H1 : Hp} {S : MS} {σ : L2.St} {ρ : List Slot} {l : Addr} {o o' : HO}
theorem FR.putO (r : FR G0 H0 G H) (h : H0 l = none) (hl : H l = some o) (ho : HO.ord o := by trivial) : FR G0 H0 G (upd H l o') where
  pre := r.pre
  sa := r.sa
  sb := r.sb
  mg := r.mg
  keep := fun b u e q => by rw [upd_ne (ne_of_none e h)]; exact r.keep b u e q
  cnew := r.cnew
  onew := r.onew
  oold := r.oold
  there := fun b u e => by
    obtain ⟨u', q⟩ := r.there b u e
    exact ⟨u', by rw [upd_ne (ne_of_none e h)]; exact q⟩
  T := r.T
  tb := r.tb.trans (.put hl ho)
theorem Wf.putO (w : Wf K mg G H S) (hl : H l = some o) (hf : ¬ Fix o) (hO : G.O l) (hc : ¬ G.cell l) (kt : KeepT G.T H (upd H l o')) : Wf K mg G (upd H l o') S where
  hT := w.hT
  tb := fun p hp => kt.tab p hp (w.tb p hp)
  len := w.len
  nd := w.nd
  cell := fun i c a h1 h2 => by
    have q := w.cell i c a h1 h2
    have ne : c ≠ .out → a ≠ l := fun n e => hc (.inl (by rw [← e]; exact ⟨List.mem_of_getElem? h2, w.nz i c a h1 h2 n⟩))
    have r : LR G H G (upd H l o') := .put hl hf (.inr hO)
    cases c with
    | out => trivial
    | lst ds => obtain ⟨xs, e, z, t⟩ := q; exact ⟨xs, by rw [upd_ne (ne (by intro h; cases h))]; exact e, z, t.lr r⟩
    | dic kvs => obtain ⟨xs, e, z, t⟩ := q; exact ⟨xs, by rw [upd_ne (ne (by intro h; cases h))]; exact e, z, t.lr r⟩
    | ins c fs => obtain ⟨C, dx, gs, m, e, t⟩ := q; exact ⟨C, dx, gs, m, by rw [upd_ne (ne (by intro h; cases h))]; exact e, t.lr r⟩
  live := fun b h => by
    obtain ⟨u, e⟩ := w.live b h
    exact (LR.put (o' := o') hl hf (.inr hO)).there b u e
  ha := by rw [upd_ne fun e => hc (.inr (.inl e.symm))]; exact w.ha
  hb := by rw [upd_ne fun e => hc (.inr (.inr (.inl e.symm)))]; exact w.hb
  sab := w.sab
  na := w.na
  nb := w.nb
  zs := w.zs
  hmg := w.hmg
  nz := w.nz
  zo := w.zo
  zl := fun b h => by
    obtain ⟨u, e⟩ := w.zl b h
    exact (LR.put (o' := o') hl hf (.inr hO)).there b u e
theorem SI.putO (s : SI K mg G0 H0 G H σ ρ S) (hl : H l = some o) (hf : ¬ Fix o) (hO : G.O l) (hc : ¬ G.cell l) (h0 : H0 l = none) (n : ∀ (i : Nat) (ds : List D), ρ[i]? = some (.own ds) → σ[i]? ≠ some (some (V.ref l))) (ho : HO.ord o := by trivial) : SI K mg G0 H0 G (upd H l o') σ ρ S where
  fr := s.fr.putO h0 hl ho
  live0 := s.live0
  wf := s.wf.putO hl hf hO hc (.put hl ho)
  len := s.len
  env := fun i x h => by
    have q := s.env i x h
    have r : LR G H G (upd H l o') := .put hl hf (.inr hO)
    cases x with
    | any => trivial
    | val d => obtain ⟨v, e, t⟩ := q; exact ⟨v, e, t.lr r⟩
    | own ds =>
      obtain ⟨m, xs, e, hm, z, t, ho, hc', h0'⟩ := q
      refine ⟨m, xs, e, ?_, z, t.lr r, ho, hc', h0'⟩
      rw [upd_ne fun e' => ?_]
      · exact hm
      · subst e'
        exact n i ds h e
    | exc a dd f d => obtain ⟨e, v, hd, n, t⟩ := q; exact ⟨e, v, r.keep _ _ hd (.inl n), n, t.lr r⟩
    | raw f c y Ga Ha => obtain ⟨e, hco, f1, e0, l0⟩ := q; exact ⟨e, (KeepT.put (T := []) hl ho).code _ _ hco, f1.putO (by rw [e0]; exact h0) hl ho, e0, l0⟩
  apart := s.apart
def wipeR (ρ : List Slot) : List Nat → List Slot
  | [] => ρ
  | v :: vs => (wipeR ρ vs).set v .any
theorem SI.wipe (s : SI K mg G0 H0 G H σ ρ S) : ∀ vs : List Nat, SI K mg G0 H0 G H (wipe σ vs) (wipeR ρ vs) S
  | [] => s
  | v :: vs => by
    have ih := SI.wipe s vs
    unfold L2.wipe wipeR
    have key : ∀ (i : Nat) (x : Slot), ((wipeR ρ vs).set v .any)[i]? = some x → x = .any ∨ (v ≠ i ∧ (wipeR ρ vs)[i]? = some x) := fun i x h => by
      by_cases e : v = i
      · subst e
        by_cases hl : v < (wipeR ρ vs).length
        · rw [List.getElem?_set_self hl] at h; cases h; exact .inl rfl
        · rw [List.getElem?_eq_none (by rw [List.length_set]; omega)] at h; cases h
      · rw [List.getElem?_set_ne e] at h
        exact .inr ⟨e, h⟩
    refine ⟨ih.fr, ih.live0, ih.wf, by rw [List.length_set, List.length_set]; exact ih.len, fun i x h => ?_, fun i j ds es l n h1 h2 h3 => ?_⟩
    · rcases key i x h with e | ⟨ne, q⟩
      · subst e; trivial
      · rw [List.getElem?_set_ne ne]
        exact ih.env i x q
    · rcases key i _ h1 with e | ⟨ne, q⟩
      · cases e
      · rcases key j _ h2 with e | ⟨ne', q'⟩
        · cases e
        · rw [List.getElem?_set_ne ne] at h3
          rw [List.getElem?_set_ne ne']
          exact ih.apart i j ds es l n q q' h3
end
theorem wipe_idem {σ : L2.St} {vs : List Nat} : ∀ ws : List Nat, (∀ v ∈ ws, v ∈ vs) → L2.wipe (L2.wipe σ vs) ws = L2.wipe σ vs
  | [], _ => rfl
  | v :: ws, hv => by
    have ih := wipe_idem (σ := σ) ws fun w hw' => hv w (List.mem_cons_of_mem _ hw')
    have hvv := hv v List.mem_cons_self
    generalize hτ : L2.wipe σ vs = τ at ih ⊢
    show (L2.wipe τ ws).set v none = τ
    rw [ih]
    apply List.ext_getElem?
    intro j
    by_cases ej : v = j
    · subst ej
      by_cases hl : v < τ.length
      · rw [List.getElem?_set_self hl]
        cases qq : τ[v]? with
        | none => rw [List.getElem?_eq_none_iff] at qq; omega
        | some z =>
          cases z with
          | none => rfl
          | some z =>
            rw [← hτ] at qq
            exact absurd hvv (wipe_some qq).2
      · rw [List.getElem?_eq_none (by rw [List.length_set]; omega), List.getElem?_eq_none (by omega)]
    · rw [List.getElem?_set_ne ej]
/-! ### comprehensions -/
def compM (f : D → M (Option D)) : List D → M (List D)
  | [] => M.pure []
  | d :: ds => (f d).bind fun o => (compM f ds).bind fun r => M.pure (match o with | some x => x :: r | none => r)
/-- nothing is raised here -/
def calmM {α : Type} (m : M α) : M α := fun S => match m S with
  | .err _ _ => .bad
  | r => r
def eltM (mt : List D → M Bool) (me : List D → M D) (us : List D) : M (Option D) := (mt us).bind fun b => if b = true then (me us).bind fun x => M.pure (some x) else M.pure none
abbrev W0 : WX := fun _ _ _ _ => False
theorem okG_calm {K : PySem.W.Frag} {mg : Str → Option Value} {W : WX} {G0 G : Gh} {H0 H : Hp} {σ : L2.St} {ρ : List Slot} {S : MS} {α β : Type} {R : Gh → Hp → β → α → Prop} {Q : β → Hp → Prop} {m : M α} (h : okG K mg W R G0 H0 G H σ ρ Q (calmM m S)) : okG K mg W0 R G0 H0 G H σ ρ Q (m S) := by
  unfold calmM at h
  cases e : m S with
  | ok a S1 => rw [e] at h; exact h
  | err x S1 => rw [e] at h; exact h.elim
  | bad => rw [e] at h; exact h
section
variable {X : Cx} {W : WX} {ρ : List Slot} {tg iter elt : Expr} {ifs : List Expr} {scope : Scope} {own : List (Str × Nat)} {pos : Pos} {mi : M (List D)} {g : TG} {u : D → Option (List D)} {sl : List Slot → List D → List Slot} {is : List Nat} {mt : List D → M Bool} {me : List D → M D}
theorem etf_nil {us : List D} {ρ' : List Slot} : PTs X [] (tG X.K X.mg W RB ρ' (M.pure true)) := ⟨fun pins s σ H Q I ⟨G0, H0, G, S, si, h⟩ => pts_nil.run pins s σ H Q I (okG.here h si rfl)⟩
end
end Dl
namespace Dl
open PySem L2
/-! ### lists of the frame's own, changed -/
section
variable {K : PySem.W.Frag} {mg : Str → Option Value} {G G0 G1 : Gh} {H H0 H1 : Hp} {S : MS} {σ : L2.St} {ρ : List Slot} {l : Addr} {o o' : HO}
theorem SI.ownPut (s : SI K mg G0 H0 G H σ ρ S) {i : Nat} {ds es : List D} {xs ys : List V} (hρ : ρ[i]? = some (.own ds)) (hσ : σ[i]? = some (some (.ref l))) (z : ys.length ≤ sizeLine) (t : Reps K G H ys es) :
    SI K mg G0 H0 G (upd H l (.lst ys)) σ (ρ.set i (.own es)) S ∧ LR G H G (upd H l (.lst ys)) := by
  obtain ⟨l', xs, e, hl, _, _, ho, hc, h0⟩ := s.env i _ hρ
  rw [hσ] at e; cases e
  have hi : i < ρ.length := (List.getElem?_eq_some_iff.mp hρ).1
  have na : ∀ (j : Nat) (fs : List D), (ρ.set i .any)[j]? = some (.own fs) → σ[j]? ≠ some (some (V.ref l)) := fun j fs ej q => by
    by_cases q' : i = j
    · subst q'
      rw [List.getElem?_set_self hi] at ej; cases ej
    · rw [List.getElem?_set_ne q'] at ej
      exact s.apart i j ds fs l q' hρ ej hσ q
  have lr : LR G H G (upd H l (.lst ys)) := .put hl (fun z => z) (.inr ho)
  have s1 := (s.weak (wk_set ρ i)).putO (o' := .lst ys) hl (fun z => z) ho hc h0 na
  have s2 := s1.setOwn (ds := es) i upd_same z ho hc h0 (t.lr lr) fun j fs nj ej => na j fs ej
  have e1 : σ.set i (some (.ref l)) = σ := by
    apply List.ext_getElem?
    intro j
    by_cases q : i = j
    · subst q
      rw [List.getElem?_set_self (by rw [s.len]; exact hi), hσ]
    · rw [List.getElem?_set_ne q]
  rw [e1, List.set_set] at s2
  exact ⟨s2, lr⟩
end
def szLt (n : Nat) : Bool := decide (n < 16777216)
theorem szLt_of {n : Nat} (h : szLt n = true) : n < sizeLine := by rw [sizeLine_eq]; exact of_decide_eq_true h
def gd {α : Type} (b : Bool) (m : M α) : M α := if b = true then m else M.bad
section
variable {X : Cx} {C L : Type} {k : Ct C L} {ρ : List Slot} {a b c e o : Expr} {es : List Expr} {m mo mi mv : M D} {pos p p2 cp ap : Pos} {rest sts : List Stmt}
theorem okS.gd {K : PySem.W.Frag} {mg : Str → Option Value} {G0 G : Gh} {H0 H : Hp} {D : Ends} {S : MS} {b : Bool} {m : M (Fl C L)} (h : okS K mg k G0 H0 G H D (Dl.gd b m S)) : b = true ∧ okS K mg k G0 H0 G H D (m S) := by
  unfold Dl.gd at h
  cases b with
  | true => exact ⟨rfl, h⟩
  | false => exact h.elim
/-- xs.append(e) -/
theorem sd_append (i : Nat) {x : Str} {ds : List D} {f : D → M (Fl C L)} (w : Wk ρ k.x) (hpe : PE X (.Call (.Attribute (.Name x p) "append" ap) [e] [] cp) (tBM X.K "list" rAppend (tVar i) (tCons (tG X.K X.mg k.W (RD X.K) ρ m) tNil)))
    (hr : ∀ d, SD X k (ρ.set i (.own (ds ++ [d]))) rest (f d)) (hρ : ρ[i]? = some (.own ds) := by rfl) (hs : swapsWith (.Call (.Attribute (.Name x p) "append" ap) [e] [] cp) none pos.line X.env = pure false := by rfl) :
    SD X k ρ (.Expr (.Call (.Attribute (.Name x p) "append" ap) [e] [] cp) pos :: rest) (m.bind fun d => gd (szLt ds.length) (f d)) := by
  let u : TS := fun D σ H => ∃ d, tS X.K X.mg k (ρ.set i (.own (ds ++ [d]))) (f d) D σ H
  have hu : PSs X rest u := ⟨fun pins s σ H D I ⟨d, q⟩ => (hr d).run pins s σ H D I q⟩
  refine PSs.imp (pss_cons (ps_expr hpe hs) hu) fun D σ H ⟨G0, H0, G, S, si, h⟩ => ?_
  obtain ⟨l, xs, e1, hl, z, t, ho, hc, h0⟩ := si.env i _ hρ
  refine ⟨.ref l, e1, .inl ⟨rfl, _, SqL.of hl⟩, G0, H0, G, S, si, okS.bind h w fun G1 H1 S1 v d s1 r1 h1 => ?_⟩
  obtain ⟨zz, h1⟩ := h1.gd
  obtain ⟨l', xs', e1', hl', z', t', ho', hc', h0'⟩ := s1.env i _ hρ
  rw [e1] at e1'; cases e1'
  have zl := szLt_of zz
  rw [← t'.length] at zl
  refine ⟨l, xs', v, rfl, rfl, hl', zl, d, ?_⟩
  obtain ⟨s2, lr⟩ := s1.ownPut (xs := xs') hρ e1 (ys := xs' ++ [v]) (by rw [List.length_append, List.length_singleton]; omega) (t'.append (.cons r1 .nil))
  exact ⟨G0, H0, G1, S1, s2, okS.from h1 lr⟩
end
/-! ### what stands at a pointer changes -/
def MS.put (S : MS) (k : Nat) (c : Cell) : MS := { S with cells := S.cells.set k c }
section
variable {K : PySem.W.Frag} {mg : Str → Option Value} {G G0 G1 : Gh} {H H0 H1 : Hp} {S : MS} {σ : L2.St} {ρ : List Slot} {a : Addr} {o o' : HO} {k : Nat} {c : Cell}
theorem FR.putC (hk : G.φ[k]? = some a) (ha : H a = some o) (hf : ¬ Fix o) (hz : ¬ G.Z a) (ho : HO.ord o := by trivial) : FR G H G (upd H a o') where
  pre := List.prefix_rfl
  sa := rfl
  sb := rfl
  mg := rfl
  keep := fun b u e q => by
    rw [upd_ne fun z => ?_]
    · exact e
    · subst z
      rw [ha] at e; cases e
      exact q.elim (fun y => y (.inl ⟨List.mem_of_getElem? hk, hz⟩)) hf
  cnew := fun _ h => .inl h
  onew := fun _ h => .inl h
  oold := fun _ h => h
  there := fun b u e => by
    by_cases z : b = a
    · rw [z]; exact ⟨o', upd_same⟩
    · exact ⟨u, by rw [upd_ne z]; exact e⟩
  T := rfl
  tb := .put ha ho
theorem Wf.putC (w : Wf K mg G H S) (hk : G.φ[k]? = some a) (ha : H a = some o) (hf : ¬ Fix o) (hz : ¬ G.Z a) (hc : CellRep K mg G (upd H a o') a c) (ho : HO.ord o := by trivial) : Wf K mg G (upd H a o') (S.put k c) where
  hT := w.hT
  tb := fun p hp => (KeepT.put ha ho).tab p hp (w.tb p hp)
  len := by show _ = (S.cells.set k c).length; rw [List.length_set]; exact w.len
  nd := w.nd
  cell := fun i c' b h1 h2 => by
    have h1 : (S.cells.set k c)[i]? = some c' := h1
    have hkl : k < S.cells.length := by rw [← w.len]; exact (List.getElem?_eq_some_iff.mp hk).1
    by_cases e : k = i
    · subst e
      rw [List.getElem?_set_self hkl] at h1
      cases h1
      rw [hk] at h2; cases h2
      exact hc
    · rw [List.getElem?_set_ne e] at h1
      have q := w.cell i c' b h1 h2
      have ne : b ≠ a := fun z => e (by
        subst z
        have e1 := List.getElem?_eq_some_iff.mp hk
        have e2 := List.getElem?_eq_some_iff.mp h2
        exact (List.getElem_inj w.nd).mp (e1.2.trans e2.2.symm))
      have r : LR G H G (upd H a o') := .put ha hf (.inl (.inl ⟨List.mem_of_getElem? hk, hz⟩))
      cases c' with
      | out => trivial
      | lst ds => obtain ⟨xs, e, z, t⟩ := q; exact ⟨xs, by rw [upd_ne ne]; exact e, z, t.lr r⟩
      | dic kvs => obtain ⟨xs, e, z, t⟩ := q; exact ⟨xs, by rw [upd_ne ne]; exact e, z, t.lr r⟩
      | ins c fs => obtain ⟨C, dx, gs, m, e, t⟩ := q; exact ⟨C, dx, gs, m, by rw [upd_ne ne]; exact e, t.lr r⟩
  live := fun b h => by
    obtain ⟨u, e⟩ := w.live b h
    exact (FR.putC (o' := o') hk ha hf hz ho).there b u e
  ha := by
    have ne : G.sa ≠ a := fun z => w.na (by rw [z]; exact List.mem_of_getElem? hk)
    rw [upd_ne ne]; exact w.ha
  hb := by
    have ne : G.sb ≠ a := fun z => w.nb (by rw [z]; exact List.mem_of_getElem? hk)
    rw [upd_ne ne]; exact w.hb
  sab := w.sab
  na := w.na
  nb := w.nb
  zs := w.zs
  hmg := w.hmg
  zo := w.zo
  nz := fun i c' b h1 h2 n => by
    have h1 : (S.cells.set k c)[i]? = some c' := h1
    by_cases e : k = i
    · subst e
      rw [hk] at h2; cases h2
      exact hz
    · rw [List.getElem?_set_ne e] at h1
      exact w.nz i c' b h1 h2 n
  zl := fun b h => by
    obtain ⟨u, e⟩ := w.zl b h
    exact (FR.putC (o' := o') hk ha hf hz ho).there b u e
theorem SI.putC (s : SI K mg G0 H0 G H σ ρ S) (hk : G.φ[k]? = some a) (ha : H a = some o) (hf : ¬ Fix o) (hz : ¬ G.Z a) (hc : CellRep K mg G (upd H a o') a c) (ho : HO.ord o := by trivial) : SI K mg G0 H0 G (upd H a o') σ ρ (S.put k c) := s.mono (.putC hk ha hf hz ho) (s.wf.putC hk ha hf hz hc ho)
end
/-- o[i] = v, a list at a pointer -/
def setI (o i v : D) : M Unit := fun S => match o, i with
  | .ptr k, .int i => match S.cells[k]? with
    | some (.lst ds) => match ixN ds.length i with
      | some j => .ok () (S.put k (.lst (ds.set j v)))
      | none => .bad
    | _ => .bad
  | _, _ => .bad
section
variable {X : Cx} {C L : Type} {k : Ct C L} {ρ : List Slot} {a b c e o i : Expr} {es : List Expr} {m mo mi mv : M D} {pos p p2 cp ap : Pos} {rest sts : List Stmt}
theorem sd_setI {mr : M (Fl C L)} (w : Wk ρ k.x) (hr : SD X k ρ rest mr)
    (hps : PS X (.Assign [.Subscript o i p] e pos) (tAsg (tG X.K X.mg k.W (RD X.K) ρ mv) (gSub (tG X.K X.mg k.W (RD X.K) ρ mo) (tG X.K X.mg k.W (RD X.K) ρ mi) rSetL))) :
    SD X k ρ (.Assign [.Subscript o i p] e pos :: rest) (mv.bind fun v => mo.bind fun o => mi.bind fun i => (setI o i v).bind fun _ => mr) := by
  refine PSs.imp (pss_cons hps hr) fun D σ H ⟨G0, H0, G, S, si, h⟩ => ?_
  refine ⟨G0, H0, G, S, si, okS.bind h w fun G1 H1 S1 v d s1 r1 h1 => ⟨G0, H0, G1, S1, s1, ?_⟩⟩
  -- the value is kept while the object and the place are looked up
  have key : ∀ {G2 : Gh} {H2 : Hp} {S2 : MS} {ov iv : V} {od id : Dl.D}, SI X.K X.mg G0 H0 G2 H2 σ ρ S2 → Rep X.K G2 H2 v d → Rep X.K G2 H2 ov od → Rep X.K G2 H2 iv id → okS X.K X.mg k G0 H0 G2 H2 D ((setI od id d).bind (fun _ => mr) S2) →
      rSetL ov iv v H2 fun H3 => tS X.K X.mg k ρ mr D σ H3 := fun {G2 H2 S2 ov iv od id} s2 rv ro ri h => by
    unfold setI M.bind at h
    cases ro with
    | ptr q =>
      rename_i a kk
      cases ri with
      | int n =>
        cases qc : S2.cells[kk]? with
        | none => simp only [qc] at h; exact h.elim
        | some c =>
          have cr := s2.wf.cell kk c a qc q
          cases c with
          | lst es =>
            obtain ⟨ys, hy, zy, tt⟩ := cr
            cases qi : ixN es.length n with
            | none => simp only [qc, qi] at h; exact h.elim
            | some j =>
              simp only [qc, qi] at h
              have lr : LR G2 H2 G2 (upd H2 a (.lst (ys.set j v))) := .put hy (fun z => z) (.inl (.inl ⟨List.mem_of_getElem? q, s2.wf.nz _ _ _ qc q (by intro h; cases h)⟩))
              refine ⟨a, ys, n, j, rfl, rfl, hy, by rw [tt.length]; exact qi, ?_⟩
              refine ⟨G0, H0, G2, S2.put kk (.lst (es.set j d)), s2.putC q hy (fun z => z) (s2.wf.nz _ _ _ qc q (by intro h; cases h)) ⟨_, upd_same, by rw [List.length_set]; exact zy, (tt.set rv j).lr lr⟩, okS.from h lr⟩
          | dic _ => simp only [qc] at h; exact h.elim
          | out => simp only [qc] at h; exact h.elim
          | ins _ _ => simp only [qc] at h; exact h.elim
      | _ => exact h.elim
    | _ => exact h.elim
  refine okS.bind2 h1 w fun G2 H2 S2 ov od s2 f2 r2 h2 => ⟨G0, H0, G2, S2, s2, okS.bind2 h2 w fun G3 H3 S3 iv id s3 f3 r3 h3 => ?_⟩
  exact key s3 (r1.mono (f2.trans f3)) (r2.mono f3) r3 h3
end
end Dl
namespace Dl
open PySem L2
/-! ### instances -/
section
variable {K : PySem.W.Frag} {G : Gh} {H : Hp}
theorem FReps.look : ∀ {gs : List (Str × V)} {fs : List (Str × D)} {f : Str}, FReps K G H gs fs → (∀ d, fs.lookup f = some d → ∃ v, gs.lookup f = some v ∧ Rep K G H v d) ∧ (fs.lookup f = none → gs.lookup f = none)
  | _, _, f, .nil => ⟨fun d h => (by cases h), fun _ => rfl⟩
  | _, _, f, .cons (k := k) r t => by
    have ih := FReps.look (f := f) t
    by_cases e : f = k
    · subst e
      refine ⟨fun d h => ?_, fun h => ?_⟩
      · rw [List.lookup_cons_self] at h ⊢
        cases h
        exact ⟨_, rfl, r⟩
      · rw [List.lookup_cons_self] at h; cases h
    · have q : (f == k) = false := by simpa using e
      refine ⟨fun d h => ?_, fun h => ?_⟩
      · simp only [List.lookup, q] at h ⊢
        exact ih.1 d h
      · simp only [List.lookup, q] at h ⊢
        exact ih.2 h
theorem FReps.length : ∀ {gs : List (Str × V)} {fs : List (Str × D)}, FReps K G H gs fs → gs.length = fs.length
  | _, _, .nil => rfl
  | _, _, .cons _ t => by rw [List.length_cons, List.length_cons, FReps.length t]
def putFD (f : Str) (v : D) : List (Str × D) → List (Str × D)
  | [] => [(f, v)]
  | (g, w) :: r => if g = f then (g, v) :: r else (g, w) :: putFD f v r
theorem FReps.put {f : Str} {v : V} {d : D} (r : Rep K G H v d) : ∀ {gs : List (Str × V)} {fs : List (Str × D)}, FReps K G H gs fs → FReps K G H (putF f v gs) (putFD f d fs)
  | _, _, .nil => .cons r .nil
  | _, _, .cons (k := k) q t => by
    unfold putF putFD
    by_cases e : k = f
    · rw [if_pos e, if_pos e]; exact .cons r t
    · rw [if_neg e, if_neg e]; exact .cons q (FReps.put r t)
end
/-- an instance: its class and its attributes -/
def insOf (S : MS) : D → Option (Str × List (Str × D))
  | .ptr k => match S.cells[k]? with
    | some (.ins c fs) => some (c, fs)
    | _ => none
  | .obj _ c ns ds => some (c, ns.zip ds)
  | _ => none
/-- e.f of an instance of the class c -/
def dFld (c f : Str) (d : D) : M D := fun S => match insOf S d with
  | some (c', fs) => if c' = c then (match fs.lookup f with
      | some d => .ok d S
      | none => .bad) else .bad
  | none => .bad
/-- it is an instance of the class c without an attribute m of its own -/
def isA (c m : Str) (d : D) : M Unit := fun S => match insOf S d with
  | some (c', fs) => if c' = c then (match fs.lookup m with
      | some _ => .bad
      | none => .ok () S) else .bad
  | none => .bad
def setF (c f : Str) (o v : D) : M Unit := fun S => match o with
  | .ptr k => match S.cells[k]? with
    | some (.ins c' fs) => if c' = c then (if fs.length < 900 then .ok () (S.put k (.ins c (putFD f v fs))) else .bad) else .bad
    | _ => .bad
  | _ => .bad
/-- what is known of a class -/
structure CI (K : PySem.W.Frag) (mg : Str → Option Value) (c : Str) (C : Addr) : Prop where
  mg : mg c = some (.ref C)
  cl : Cls K C
theorem FReps.zip {K : PySem.W.Frag} {G : Gh} {H : Hp} : ∀ {gs : List (Str × V)} {ns : List Str} {ds : List D}, gs.map Prod.fst = ns → Reps K G H (gs.map Prod.snd) ds → FReps K G H gs (ns.zip ds)
  | [], _, _, e, r => by subst e; cases r; exact .nil
  | (k, v) :: gs, _, _, e, r => by
    subst e
    cases r with
    | cons r t => exact .cons r (FReps.zip rfl t)
theorem ins_of {K : PySem.W.Frag} {mg : Str → Option Value} {G : Gh} {H : Hp} {S : MS} {v : V} {d : D} {c : Str} {C : Addr} {fs : List (Str × D)} (w : Wf K mg G H S) (r : Rep K G H v d) (e : insOf S d = some (c, fs)) (T : mg c = some (.ref C)) :
    ∃ a dx gs, v = .ref a ∧ H a = some (.ins C dx gs) ∧ FReps K G H gs fs := by
  cases r with
  | ptr q =>
    rename_i a k
    unfold insOf at e
    cases q1 : S.cells[k]? with
    | none => simp only [q1] at e; cases e
    | some cc =>
      cases cc with
      | ins c' fs' =>
        simp only [q1] at e; cases e
        obtain ⟨C', dx, gs, m, h, t⟩ := w.cell k _ _ q1 q
        rw [T] at m; cases m
        exact ⟨_, dx, gs, rfl, h, t⟩
      | lst _ => simp only [q1] at e; cases e
      | dic _ => simp only [q1] at e; cases e
      | out => simp only [q1] at e; cases e
  | obj p m h n en t =>
    cases e
    rw [w.hmg, T] at m; cases m
    exact ⟨_, _, _, rfl, h, FReps.zip en t⟩
  | _ => cases e
theorem ins_ptr {K : PySem.W.Frag} {mg : Str → Option Value} {G : Gh} {H : Hp} {S : MS} {v : V} {k : Nat} {c : Str} {C : Addr} {fs : List (Str × D)} (w : Wf K mg G H S) (r : Rep K G H v (.ptr k)) (e : S.cells[k]? = some (.ins c fs)) (T : mg c = some (.ref C)) :
    ∃ a dx gs, v = .ref a ∧ G.φ[k]? = some a ∧ H a = some (.ins C dx gs) ∧ FReps K G H gs fs := by
  cases r with
  | ptr q =>
    obtain ⟨C', dx, gs, m, h, t⟩ := w.cell k _ _ e q
    rw [T] at m; cases m
    exact ⟨_, dx, gs, rfl, q, h, t⟩
section
variable {X : Cx} {W : WX} {ρ : List Slot} {a b c e o : Expr} {es : List Expr} {m mo mv : M D} {ms : List (M D)} {pos p apos p2 : Pos}
theorem ed_fld {cn f : Str} {CA : Addr} (T : CI X.K X.mg cn CA) (n : NoAttr X.K CA f) (he : ED X W ρ e m) (hb : attributeBase e f X.env (eval e X.env) = eval e X.env := by rfl) : ED X W ρ (.Attribute e f pos) (una (dFld cn f) m) :=
  PE.imp (pe_fld he hb) fun σ H Q ⟨G0, H0, G, S, si, h⟩ => ⟨G0, H0, G, S, si, okG.bind h fun G1 H1 S1 x d s1 f1 r1 h1 => by
    unfold dFld at h1
    cases q : insOf S1 d with
    | none => simp only [q] at h1; exact h1.elim
    | some cc =>
      obtain ⟨c', fs⟩ := cc
      simp only [q] at h1
      by_cases ec : c' = cn
      · subst ec
        simp only [if_true] at h1
        obtain ⟨a, dx, gs, ev, ha, t⟩ := ins_of s1.wf r1 q T.mg
        cases ql : fs.lookup f with
        | none => simp only [ql] at h1; exact h1.elim
        | some d' =>
          simp only [ql] at h1
          obtain ⟨v, hv, rv⟩ := t.look.1 d' ql
          exact ⟨a, CA, dx, gs, v, ev, ha, T.cl, n, hv, okG.here h1 s1 rv⟩
      · rw [if_neg ec] at h1; exact h1.elim⟩
variable {C L : Type} {k : Ct C L} {rest : List Stmt}
/-- o.f = e -/
theorem sd_fld {cn f : Str} {CA : Addr} {mr : M (Fl C L)} (w : Wk ρ k.x) (T : CI X.K X.mg cn CA) (n : NoAttr X.K CA f) (ho : ED X k.W ρ o mo) (he : ED X k.W ρ e mv) (hr : SD X k ρ rest mr) (hs : swapsWith e (some (.Attribute o f p)) pos.line X.env = pure false := by rfl) :
    SD X k ρ (.Assign [.Attribute o f p] e pos :: rest) (mv.bind fun v => mo.bind fun o => (setF cn f o v).bind fun _ => mr) :=
  PSs.imp (pss_cons (ps_fld ho he hs) hr) fun D σ H ⟨G0, H0, G, S, si, h⟩ => ⟨G0, H0, G, S, si, okS.bind2 h w fun G1 H1 S1 v d s1 f1 r1 h1 => ⟨G0, H0, G1, S1, s1, okS.bind2 h1 w fun G2 H2 S2 ov od s2 f2 r2 h2 => by
    have rv : Rep X.K G2 H2 v d := Rep.mono f2 r1
    unfold setF M.bind at h2
    cases od with
    | ptr kk =>
      cases q : S2.cells[kk]? with
      | none => simp only [q] at h2; exact h2.elim
      | some cc =>
        cases cc with
        | ins c' fs =>
          simp only [q] at h2
          by_cases ec : c' = cn
          · subst ec
            simp only [if_true] at h2
            by_cases hz : fs.length < 900
            · rw [if_pos hz] at h2
              obtain ⟨a, dx, gs, ev, hk, ha, t⟩ := ins_ptr s2.wf r2 q T.mg
              have nz := s2.wf.nz _ _ _ q hk (by intro h; cases h)
              have lr : LR G2 H2 G2 (upd H2 a (.ins CA dx (putF f v gs))) := .put ha (fun z => z) (.inl (.inl ⟨List.mem_of_getElem? hk, nz⟩))
              refine ⟨a, CA, dx, gs, ev, ha, T.cl, n, by rw [t.length]; omega, ?_⟩
              exact ⟨G0, H0, G2, _, s2.putC (c := .ins c' (putFD f d fs)) hk ha (fun z => z) nz ⟨CA, dx, _, T.mg, upd_same, (FReps.put rv t).lr lr⟩, okS.from h2 lr⟩
            · rw [if_neg hz] at h2; exact h2.elim
          · rw [if_neg ec] at h2; exact h2.elim
        | lst _ => simp only [q] at h2; exact h2.elim
        | dic _ => simp only [q] at h2; exact h2.elim
        | out => simp only [q] at h2; exact h2.elim
    | _ => exact h2.elim⟩⟩
/-- the side conditions of calls: no star among the arguments -/
abbrev NS1 (X : Cx) (e : Expr) (es : List Expr) : Prop := starEach (e :: es) X.env = (false, eval e X.env) :: starEach es X.env
abbrev NS2 (X : Cx) (pos : Pos) (es : List Expr) : Prop := (backTo pos (starEach es X.env)).any (·.1) = false
/-- how the call of a method runs -/
abbrev MC (X : Cx) (o : Expr) (mn : Str) (apos pos : Pos) (es : List Expr) (pl : Sem Bool) : Prop :=
  eval (.Call (.Attribute o mn apos) es [] pos) X.env = (eval o X.env >>= fun ov => standAt apos.atName >>= fun _ => holding [ov] (getMethod ov mn pl) >>= fun fb => callWith pos fb.1 fb.2 (backTo pos (starEach es X.env)) (backToKw pos (keywordEach [] X.env)))
/-! ### methods -/
def tMethV (C : Addr) (m : Str) (sp : Sp) (E : L2.St → XK) (ta : TE) (t : TA) : TE := fun σ H Q => ta σ H fun x H1 => ∃ a dx fs, x = .ref a ∧ H1 a = some (.ins C dx fs) ∧ fs.lookup m = none ∧ t σ H1 fun vs H2 => sp (x :: vs) H2 Q (E σ)
theorem pe_methV {CX : CXT} {kk : Nat} {f CA : Addr} {fd : FuncData} {ps : List Str} {sp : Sp} {E : L2.St → XK} {mn : Str} {ta : TE} {t : TA} {pl : Sem Bool} (he : PE X o ta) (c : Cls X.K CA) (hm : Meth X.K CA mn f) (F : FnOk X.prog X.w X.K X.mg X.base CX kk f fd ps sp) (hr : Room kk X.A) (hb : Binds X.K fd ps []) (hx : ∀ σ, PassesAt CX X σ (E σ)) (ha : PA X (e :: es) t)
    (hst : NS1 X e es := by rfl) (hpl : NS2 X pos es := by rfl)
    (ht : MC X o mn apos pos (e :: es) pl := by rfl) :
    PE X (.Call (.Attribute o mn apos) (e :: es) [] pos) (tMethV CA mn sp E ta t) := by
  constructor
  intro pins s σ H Q I h
  refine PySem.W.methodCall_KW (pl := pl) (wpAny_mono (he.run pins s σ H _ I h) ?_ fun _ _ z => z) ht
  rintro u t1 ⟨x, H1, J1, rx, a, dx, fs, ex, ea, nl, w⟩
  subst ex
  cases rx
  refine getmeth_ok J1 ea c hm nl (PySem.W.callWith_K (first := [.ref a]) (h₀ := X.base) I.ok.mod.kin hm.kp (wpAny_mono (ha.run pos pins t1 σ H1 _ J1 w) ?_ fun _ _ z => z) hst hpl)
  rintro us t2 ⟨vs, H2, J2, rs, w2⟩
  exact ⟨J2.kIn, run_fnS (vs := V.ref a :: vs) (us := Value.ref a :: us) F hr hb (hx σ) J2 (.cons rfl rs) w2⟩
theorem pe_methV0 {CX : CXT} {kk : Nat} {f CA : Addr} {fd : FuncData} {ps : List Str} {sp : Sp} {E : L2.St → XK} {mn : Str} {ta : TE} {pl : Sem Bool} (he : PE X o ta) (c : Cls X.K CA) (hm : Meth X.K CA mn f) (F : FnOk X.prog X.w X.K X.mg X.base CX kk f fd ps sp) (hr : Room kk X.A) (hb : Binds X.K fd ps []) (hx : ∀ σ, PassesAt CX X σ (E σ))
    (ht : MC X o mn apos pos [] pl := by rfl) :
    PE X (.Call (.Attribute o mn apos) [] [] pos) (tMethV CA mn sp E ta tNil) := by
  constructor
  intro pins s σ H Q I h
  refine PySem.W.methodCall_KW (pl := pl) (wpAny_mono (he.run pins s σ H _ I h) ?_ fun _ _ z => z) ht
  rintro u t1 ⟨x, H1, J1, rx, a, dx, fs, ex, ea, nl, w⟩
  subst ex
  cases rx
  exact getmeth_ok J1 ea c hm nl (PySem.W.callWith_K0 (first := [.ref a]) J1.kIn hm.kp (run_fnS (us := [.ref a]) (vs := [.ref a]) F hr hb (hx σ) J1 (.cons rfl .nil) w))
def methM (cn mn : Str) (g : List D → M D) (mo : M D) (ms : List (M D)) : M D := mo.bind fun o => (isA cn mn o).bind fun _ => (argsM ms).bind fun ds => g (o :: ds)
theorem args_len : ∀ {ms : List (M D)} {S S1 : MS} {ds : List D}, argsM ms S = .ok ds S1 → ds.length = ms.length
  | [], S, S1, ds, e => by cases e; rfl
  | m :: ms, S, S1, ds, e => by
    unfold argsM M.bind at e
    cases e1 : m S with
    | ok d S2 =>
      rw [e1] at e
      simp only at e
      cases e2 : argsM ms S2 with
      | ok ds' S3 =>
        rw [e2] at e
        cases e
        rw [List.length_cons, List.length_cons, args_len e2]
      | err _ _ => rw [e2] at e; cases e
      | bad => rw [e2] at e; cases e
    | err _ _ => rw [e1] at e; cases e
    | bad => rw [e1] at e; cases e
theorem isA_ok {K : PySem.W.Frag} {mg : Str → Option Value} {α β : Type} {R : Gh → Hp → β → α → Prop} {G0 G : Gh} {H0 H : Hp} {σ : L2.St} {S : MS} {Q : β → Hp → Prop} {cn mn : Str} {CA : Addr} {v : V} {d : D} {f : Unit → M α} (si : SI K mg G0 H0 G H σ ρ S) (r : Rep K G H v d) (T : mg cn = some (.ref CA))
    (h : okG K mg W R G0 H0 G H σ ρ Q ((isA cn mn d).bind f S)) : (∃ a dx gs, v = .ref a ∧ H a = some (.ins CA dx gs) ∧ gs.lookup mn = none) ∧ okG K mg W R G0 H0 G H σ ρ Q (f () S) := by
  unfold isA M.bind at h
  cases q : insOf S d with
  | none => simp only [q] at h; exact h.elim
  | some cc =>
    obtain ⟨c', fs⟩ := cc
    simp only [q] at h
    by_cases ec : c' = cn
    · subst ec
      simp only [if_true] at h
      obtain ⟨a, dx, gs, ev, ha, t⟩ := ins_of si.wf r q T
      cases ql : fs.lookup mn with
      | none => simp only [ql] at h; exact ⟨⟨a, dx, gs, ev, ha, t.look.2 ql⟩, h⟩
      | some d' => simp only [ql] at h; exact h.elim
    · rw [if_neg ec] at h; exact h.elim
theorem ed_meth {kk n : Nat} {f CA : Addr} {fd : FuncData} {ps : List Str} {g : List D → M D} {cn mn : Str} {pl : Sem Bool} (T : CI X.K X.mg cn CA) (hm : Meth X.K CA mn f) (F : FnOk X.prog X.w X.K X.mg X.base (L2.CX X.prog X.w) kk f fd ps (spD X.K X.mg n g)) (tk : Takes X W) (hr : Room kk X.A) (hb : Binds X.K fd ps []) (ho : ED X W ρ o mo) (ha : EA X W ρ (e :: es) (argsM ms)) (hl : ms.length + 1 = n := by rfl)
    (hst : NS1 X e es := by rfl) (hpl : NS2 X pos es := by rfl)
    (ht : MC X o mn apos pos (e :: es) pl := by rfl) :
    ED X W ρ (.Call (.Attribute o mn apos) (e :: es) [] pos) (methM cn mn g mo ms) :=
  PE.imp (pe_methV (pl := pl) ho T.cl hm F hr hb (fun σ => passAt tk σ) ha hst hpl ht) fun σ H Q ⟨G0, H0, G, S, si, h⟩ => ⟨G0, H0, G, S, si, okG.bind h fun G1 H1 S1 x d s1 f1 r1 h1 => by
    obtain ⟨⟨a, dx, gs, ev, ea, el⟩, h1⟩ := isA_ok s1 r1 T.mg h1
    refine ⟨a, dx, gs, ev, ea, el, G0, H0, G1, S1, s1, ?_⟩
    unfold M.bind at h1
    cases q : argsM ms S1 with
    | ok ds S2 =>
      rw [q] at h1
      exact fun vs G2 H2 s2 f2 r2 => ⟨G2, S2, d :: ds, by rw [List.length_cons, args_len q, hl], .cons (Rep.mono f2 r1) r2, s2.wf, okF_of (okG.from h1 f2) s2⟩
    | err _ _ => rw [q] at h1; exact h1
    | bad => rw [q] at h1; exact h1⟩
/-! ### a new instance -/
def newM (cn : Str) (g : List D → M D) (ms : List (M D)) : M D := (argsM ms).bind fun ds S => match g (.ptr S.cells.length :: ds) { S with cells := S.cells ++ [.ins cn []] } with
  | .ok .non S' => .ok (.ptr S.cells.length) S'
  | .ok _ _ => .bad
  | .err e S' => .err e S'
  | .bad => .bad
theorem alloc_ins {K : PySem.W.Frag} {mg : Str → Option Value} {G : Gh} {H : Hp} {S : MS} {x dx CA : Addr} {cn : Str} (w : Wf K mg G H S) (hx : H x = none) (hd : H dx = none) (ne : dx ≠ x) (T : mg cn = some (.ref CA)) :
    FR G H { G with φ := G.φ ++ [x] } (upd (upd H dx (.own x)) x (.ins CA dx [])) ∧ Wf K mg { G with φ := G.φ ++ [x] } (upd (upd H dx (.own x)) x (.ins CA dx [])) { S with cells := S.cells ++ [.ins cn []] } := by
  have keep : ∀ b u, H b = some u → (upd (upd H dx (.own x)) x (.ins CA dx [])) b = some u := fun b u e => by rw [upd_ne (ne_of_none e hx), upd_ne (ne_of_none e hd)]; exact e
  have cc : ∀ b, Gh.cell { G with φ := G.φ ++ [x] } b → G.cell b ∨ b = x := fun b h => by
    rcases h with h | h | h
    · rcases List.mem_append.mp h.1 with k | h'
      · exact .inl (.inl ⟨k, h.2⟩)
      · have h := h'; exact Or.inr (List.mem_singleton.mp h)
    · exact .inl (.inr (.inl h))
    · exact .inl (.inr (.inr h))
  have fr : FR G H { G with φ := G.φ ++ [x] } (upd (upd H dx (.own x)) x (.ins CA dx [])) :=
    ⟨List.prefix_append _ _, rfl, rfl, rfl, fun b u e _ => keep b u e, fun b h => (cc b h).elim .inl fun e => by rw [e]; exact .inr hx, fun b h => .inl h, fun b h => h, fun b u e => ⟨u, keep b u e⟩, rfl, .ext keep⟩
  have nx : ∀ b, G.mu b → b ≠ x := fun b h e => by
    obtain ⟨u, q⟩ := w.live b h
    rw [e, hx] at q; cases q
  refine ⟨fr, ⟨?_, ?_, ?_, ?_, keep _ _ w.ha, keep _ _ w.hb, w.sab, ?_, ?_, w.zs, w.hmg, ?_, fun b h => ?_, fun b h => ⟨fun q => ?_, (w.zo b h).2⟩, w.hT, fr.tabs w.tb⟩⟩
  · show (G.φ ++ [x]).length = (S.cells ++ [Cell.ins cn []]).length
    rw [List.length_append, List.length_append, w.len]
    rfl
  · show (G.φ ++ [x]).Nodup
    rw [List.nodup_append]
    refine ⟨w.nd, by simp, fun a ha b hb => ?_⟩
    have e : b = x := by simpa using hb
    rw [e]
    exact fun e => by
      obtain ⟨u, q⟩ := w.phi ha
      rw [e, hx] at q; cases q
  · intro i c a h1 h2
    have h1 : (S.cells ++ [Cell.ins cn []])[i]? = some c := h1
    have h2 : (G.φ ++ [x])[i]? = some a := h2
    by_cases hi : i < S.cells.length
    · rw [List.getElem?_append_left hi] at h1
      rw [List.getElem?_append_left (by rw [w.len]; exact hi)] at h2
      have q := w.cell i c a h1 h2
      cases c with
      | lst ds => obtain ⟨xs, e, z, t⟩ := q; exact ⟨xs, keep _ _ e, z, t.mono fr⟩
      | dic kvs => obtain ⟨xs, e, z, t⟩ := q; exact ⟨xs, keep _ _ e, z, t.mono fr⟩
      | ins c fs => obtain ⟨C, dx, gs, m, e, t⟩ := q; exact ⟨C, dx, gs, m, keep _ _ e, t.mono fr⟩
      | out => trivial
    · rw [List.getElem?_append_right (by omega)] at h1
      rw [List.getElem?_append_right (by rw [w.len]; omega)] at h2
      have ei : i - S.cells.length = 0 := by
        have := (List.getElem?_eq_some_iff.mp h1).1
        simp at this
        omega
      rw [ei] at h1
      rw [w.len, ei] at h2
      cases h1; cases h2
      exact ⟨CA, dx, [], T, upd_same, .nil⟩
  · intro b h
    rcases h with h | h
    · rcases cc b h with h | h
      · obtain ⟨u, e⟩ := w.live b (.inl h)
        exact ⟨u, keep _ _ e⟩
      · rw [h]; exact ⟨_, upd_same⟩
    · obtain ⟨u, e⟩ := w.live b (.inr h)
      exact ⟨u, keep _ _ e⟩
  · intro h
    rcases List.mem_append.mp (show G.sa ∈ G.φ ++ [x] from h) with h | h
    · exact w.na h
    · exact nx G.sa (.inl (.inr (.inl rfl))) (by simpa using h)
  · intro h
    rcases List.mem_append.mp (show G.sb ∈ G.φ ++ [x] from h) with h | h
    · exact w.nb h
    · exact nx G.sb (.inl (.inr (.inr (.inl rfl)))) (by simpa using h)
  · intro i c a h1 h2 hn z
    have h1 : (S.cells ++ [Cell.ins cn []])[i]? = some c := h1
    have h2 : (G.φ ++ [x])[i]? = some a := h2
    have z : G.Z a := z
    by_cases hi : i < S.cells.length
    · rw [List.getElem?_append_left hi] at h1
      rw [List.getElem?_append_left (by rw [w.len]; exact hi)] at h2
      exact w.nz i c a h1 h2 hn z
    · rw [List.getElem?_append_right (by rw [w.len]; omega)] at h2
      have e : a = x := by simpa using List.mem_of_getElem? h2
      obtain ⟨u, q⟩ := w.zl a z
      rw [e, hx] at q; cases q
  · obtain ⟨u, e⟩ := w.zl b h
    exact ⟨u, keep _ _ e⟩
  · rcases List.mem_append.mp (show b ∈ G.φ ++ [x] from q) with q | q
    · exact (w.zo b h).1 q
    · exact nx b (.inr h) (by simpa using q)
def tMakeV (C : Addr) (sp : Sp) (E : L2.St → XK) (t : TA) : TE := fun σ H Q => t σ H fun vs H1 => ∀ x dx, H1 x = none → H1 dx = none → dx ≠ x →
  sp (.ref x :: vs) (upd (upd H1 dx (.own x)) x (.ins C dx [])) (fun v H2 => v = .non ∧ Q (.ref x) H2) (E σ)
theorem pe_makeV {CX : CXT} {kk : Nat} {f CA : Addr} {fd : FuncData} {ps : List Str} {sp : Sp} {E : L2.St → XK} {x : Str} {t : TA} (M : Mk X.K CA f) (F : FnOk X.prog X.w X.K X.mg X.base CX kk f fd ps sp) (hr : Room (kk + 1) X.A) (hg : Gl X x) (hm : X.mg x = some (.ref CA)) (hb : Binds X.K fd ps []) (hx : ∀ σ, PassesAt CX X σ (E σ))
    (ha : PA X (e :: es) t) (hdb : (x == ("__debug__" : Str)) = false := by decide) (he : NS1 X e es := by rfl) (hpl : NS2 X pos es := by rfl) :
    PE X (.Call (.Name x p) (e :: es) [] pos) (tMakeV CA sp E t) := by
  constructor
  intro pins s σ H Q I h
  refine wpAny_Call_Name_kw (ld_glob I hg hm (PySem.W.callWith_K (h₀ := X.base) I.ok.mod.kin M.kp (wpAny_mono (ha.run pos pins s σ H _ I h) ?_ fun _ _ z => z) he hpl) hdb)
  rintro us t1 ⟨vs, H1, J1, rs, w⟩
  refine ⟨J1.kIn, ?_⟩
  -- the new instance stands at n, its dict ahead of it
  generalize en : t1.heap.objs.size + 1 = n
  have w0 := w n t1.heap.objs.size (J1.hok.fresh (by rw [← en]; exact Nat.le_succ _)) (J1.hok.fresh (Nat.le_refl _)) (by rw [← en]; exact (Nat.succ_ne_self _).symm)
  have J2 := Inv.made (C := CA) J1
  rw [en] at J2
  have rs' : Vals (V.ref n :: vs) (Value.ref n :: us) := .cons rfl rs
  have ln : (Value.ref n :: us).length = ps.length := by rw [← rs'.length]; exact F.len _ _ _ _ w0
  have bd := hb _ (Value.ref n :: us) J2.kIn (by rw [List.append_nil]; exact ln)
  rw [List.append_nil] at bd
  have run := F.run _ X.stack _ _ ⟨Value.ref n :: us, []⟩ (Value.ref n :: us) _ _ (E σ) (hr.make CA us []) (J2.env0.make CA us []) bd rs' w0
  subst en
  refine wpAny_call (make_map (f := f) J1.kIn M.makes M.init (beq_iff_eq.mp M.fn) (codeAny_mono run ?_))
  rintro (z | fl) t2 post
  · exact hx σ pins _ _ z t2 J2 post
  · cases fl with
    | ret u =>
      obtain ⟨v, H', J3, rv, ev, w3⟩ := J2.after post
      subst ev
      exact ⟨rv, ⟨.ref (t1.heap.objs.size + 1), H', J3, rfl, w3⟩⟩
    | _ => exact post.elim
theorem ed_make {kk n : Nat} {f CA : Addr} {fd : FuncData} {ps : List Str} {g : List D → M D} {x : Str} (T : CI X.K X.mg x CA) (mk : Mk X.K CA f) (F : FnOk X.prog X.w X.K X.mg X.base (L2.CX X.prog X.w) kk f fd ps (spD X.K X.mg n g)) (tk : Takes X W) (hr : Room (kk + 1) X.A) (hb : Binds X.K fd ps []) (ha : EA X W ρ (e :: es) (argsM ms)) (hl : ms.length + 1 = n := by rfl) (hg : Gl X x := by rfl)
    (hdb : (x == ("__debug__" : Str)) = false := by decide) (he : NS1 X e es := by rfl) (hpl : NS2 X pos es := by rfl) :
    ED X W ρ (.Call (.Name x p) (e :: es) [] pos) (newM x g ms) :=
  PE.imp (pe_makeV mk F hr hg T.mg hb (fun σ => passAt tk σ) ha hdb he hpl) fun σ H Q ⟨G0, H0, G, S, si, h⟩ => ⟨G0, H0, G, S, si, by
    unfold newM M.bind at h
    cases q : argsM ms S with
    | err _ _ => rw [q] at h; exact h
    | bad => rw [q] at h; exact h
    | ok ds S1 =>
      rw [q] at h
      intro vs G1 H1 s1 f1 r1 x' dx hx hd ne
      have h := okG.from h f1
      obtain ⟨fr, wf⟩ := alloc_ins s1.wf hx hd ne T.mg
      refine ⟨{ G1 with φ := G1.φ ++ [x'] }, _, .ptr S1.cells.length :: ds, by rw [List.length_cons, args_len q, hl], .cons (.ptr ?_) (r1.mono fr), wf, ?_⟩
      · show (G1.φ ++ [x'])[S1.cells.length]? = some x'
        rw [← s1.wf.len, List.getElem?_append_right (Nat.le_refl _), Nat.sub_self]
        rfl
      · simp only at h
        cases qg : g (.ptr S1.cells.length :: ds) { S1 with cells := S1.cells ++ [.ins x []] } with
        | ok d S2 =>
          rw [qg] at h
          intro v G2 H2 fr2 wf2 rv
          cases d with
          | non =>
            cases rv
            refine ⟨rfl, h (.ref x') G2 H2 (s1.mono (fr.trans fr2) wf2) (fr.trans fr2) (.ptr ?_)⟩
            obtain ⟨t, e⟩ := fr2.pre
            rw [← e]
            show ((G1.φ ++ [x']) ++ t)[S1.cells.length]? = some x'
            rw [List.append_assoc, ← s1.wf.len, List.getElem?_append_right (Nat.le_refl _), Nat.sub_self]
            rfl
          | _ => exact h.elim
        | err _ _ =>
          rw [qg] at h
          exact fun cls da G2 H2 fr2 wf2 r2 => h cls da G2 H2 (s1.mono (fr.trans fr2) wf2) (fr.trans fr2) r2
        | bad => rw [qg] at h; exact h⟩
end
end Dl
namespace Dl
open PySem L2
/-! ### errors -/
/-- the __init__ of an error: self.f = f -/
def spExc (C : Addr) (f : Str) : Sp := fun vs H Q _ => ∃ a v, vs = [.ref a, v] ∧ H a = some (exo a C none) ∧ ∀ dx, H dx = none → dx ≠ a → Q .non (upd (upd H dx (exd dx [(f, v)])) a (exo a C (some dx)))
/-- what is known of an error's class -/
structure XI (P : Program) (w : World) (K : PySem.W.Frag) (mg : Str → Option Value) (base : Heap) (c f : Str) (C fI : Addr) (fd : FuncData) : Prop where
  hm : mg c = some (.ref C)
  ox : OexC K C
  nf : PySem.W.findIn K (.ref C) f = some none
  iC : PySem.W.findIn K (.ref C) "__init__" = some (some (.ref fI))
  tI : PySem.W.typeIn K (.ref fI) = some (.type "function")
  ok : FnOk P w K mg base (L2.CX P w) 1 fI fd ["self", f] (spExc C f)
  bd : Binds K fd ["self", f] []
theorem ok_exc {P : Program} {w : World} {K : PySem.W.Frag} {mg : Str → Option Value} {base : Heap} {x f : Str} {st : Stmt} {fI C : Addr} {fd : FuncData} {p1 p2 p3 p4 : Pos} (F : Fun K "__init__" x st fI fd) (S : FnScope ["self", f] ["self", f] (defScope st)) (hb : defBody st = [.Assign [.Attribute (.Name "self" p1) f p2] (.Name f p3) p4])
    (T : OexC K C) (n : PySem.W.findIn K (.ref C) f = some none) (hl1 : (defScope st).names.lookup ("self" : Str) = some .local := by rfl) (hl2 : (defScope st).names.lookup f = some .local := by rfl) (hd : (f == ("__debug__" : Str)) = false := by decide) (hcd : (f == ("__classdict__" : Str)) = false := by decide) : FnOk P w K mg base (L2.CX P w) 1 fI fd ["self", f] (spExc C f) := by
  refine F.okX S (fun vs H Q E h => ?_) (fun cdv A outer s H vs Q E hr h => ?_)
  · obtain ⟨a, v, rfl, _⟩ := h
    rfl
  · obtain ⟨a, v, rfl, ha, q⟩ := h
    rw [hb]
    refine ⟨_, pss_one (ps_ost (pv 0 rfl (.inl hl1)) (pv 1 rfl (.inl hl2) hd hcd)), v, rfl, .ref a, rfl, a, C, rfl, T, n, .inl ⟨ha, fun dx hd ne => ?_⟩⟩
    exact q dx hd ne
section
variable {X : Cx} {C L : Type} {k : Ct C L} {ρ : List Slot} {a b c e o : Expr} {es : List Expr} {m mo mi mv : M D} {pos p p2 cp ap : Pos} {rest sts : List Stmt}
/-- raise C(e) -/
theorem sd_raise {x f : Str} {CA fI : Addr} {fd : FuncData} (w : Wk ρ k.x) (T : XI X.prog X.w X.K X.mg X.base x f CA fI fd) (tk : Takes X k.W) (hr : Room 2 X.A) (he : ED X k.W ρ e m) (hc : X.calm = true := by rfl) (hg : Gl X x := by rfl)
    (hdb : (x == ("__debug__" : Str)) = false := by decide) (hst : starEach (e :: []) X.env = (false, eval e X.env) :: starEach [] X.env := by rfl) (hpl : (backTo p2 (starEach [] X.env)).any (·.1) = false := by rfl) :
    SD X k ρ (.Raise (some (.Call (.Name x p) [e] [] p2)) none pos :: rest) (m.bind fun d => M.raise ⟨x, f, d⟩) := by
  refine PSs.imp (pss_cons (ps_raise hc tk (pmk_oex T.ox T.iC T.tI T.ok hr T.bd .nil passL hg T.hm (pa_cons he pa_nil hst) hdb hst hpl)) pss_never) fun D σ H ⟨G0, H0, G, S, si, h⟩ => ?_
  refine ⟨G0, H0, G, S, si, okS.bind2 h w fun G1 H1 S1 v d s1 f1 r1 h1 => ?_⟩
  refine ⟨by show 1 ≤ 1000; decide, fun a ha => ⟨a, v, rfl, upd_same, fun dx hdx ne => ⟨rfl, dx, [(f, v)], upd_same, ?_, ?_, ?_⟩⟩⟩
  · rw [upd_ne ne, upd_same]
  · rw [upd_ne ne] at hdx; exact hdx
  · have hdx' : H1 dx = none := by rw [upd_ne ne] at hdx; exact hdx
    have eH : upd (del (upd (upd (upd H1 a (exo a CA none)) dx (exd dx [(f, v)])) a (exo a CA (some dx))) a) dx (.xd [(f, v)]) = upd H1 dx (.xd [(f, v)]) := by
      funext b
      by_cases e1 : b = dx
      · rw [e1, upd_same, upd_same]
      · rw [upd_ne e1, upd_ne e1]
        by_cases e2 : b = a
        · rw [e2, del_same, ha]
        · rw [del_ne e2, upd_ne e2, upd_ne e1, upd_ne e2]
    rw [eH]
    exact h1 (.ref CA) (some dx) σ G1 _ ((s1.weak w).alloc hdx') (FR.alloc hdx').lr ⟨CA, dx, v, T.hm, rfl, rfl, upd_same, s1.wf.fresh hdx', Rep.mono (.alloc hdx') r1⟩
/-- try .. except x as n: what is raised of the class x is handled; that of the classes in no goes on -/
def tryM {α : Type} (x f : Str) (no : List Str) (m : M α) (hd : D → M α) : M α := fun S => match m S with
  | .err e S' => if e.cls = x then (if e.fld = f then calmM (hd e.val) S' else .bad) else if no.contains e.cls = true then .err e S' else .bad
  | r => r
theorem sd_try {J : Type} (emb : J → List Slot) (ρx : List Slot) {x n f : Str} {CA : Addr} {no : List Str} {i : Nat} {body suite : List Stmt} {b₀ : Stmt} {np pos' : Pos} {mb : M (Fl J L)} {mh : D → M (Fl J L)} {fr : J → M (Fl C L)}
    (w : Wk ρ k.x) (wx : Wk ρx k.x) (hmg : X.mg x = some (.ref CA)) (tk : Takes X k.W) (hN : X.N.Nodup)
    (hyes : PySem.W.exmOne X.K (.ref CA) (.ref CA) = some true) (hno : ∀ y ∈ no, ∀ C', X.mg y = some (.ref C') → PySem.W.exmOne X.K (.ref C') (.ref CA) = some false)
    (hb : ∀ (W : WX) (pn : List (Addr × Obj)) (xe : Value → Shared → Prop), Takes (X.tr pn xe) W → PassesOwn (model X.prog X.w) X.A X.env xe → SD (X.tr pn xe) (⟨W, ρx, emb, k.embL, k.R⟩ : Ct J L) ρ body mb)
    (hsu : ∀ (a dd : Addr) (oe : Obj) (d : D) (pn : List (Addr × Obj)), Zc (.ref CA) (some dd) oe → (∃ vs, oe.data = .fields vs) → SD (X.suite a ((a, oe) :: pn)) (⟨W0, List.replicate ρx.length .any, emb, k.embL, k.R⟩ : Ct J L) (ρx.set i (.exc a dd f d)) (b₀ :: suite) (mh d))
    (hr : ∀ c, SD X k (emb c) rest (fr c))
    (he : ∀ c, (emb c)[i]? = some .any) (hel : ∀ l, (k.embL l)[i]? = some .any ∨ (k.embL l)[i]? = none)
    (hi : X.N[i]? = some n := by rfl) (hln : X.env.kindOf n = some .local := by rfl) (hgx : Gl X x := by rfl) (hdx : (x == ("__debug__" : Str)) = false := by decide) (hs : X.stack = X.env :: X.outer := by rfl) (hf : X.env.frame = some X.env.locals := by rfl) :
    SD X k ρ (.Try body [.ExceptHandler (some (.Name x np)) (some n) (b₀ :: suite) pos'] [] [] pos :: rest) (thenM (tryM x f no mb mh) fr) := by
  let ur : TS := fun D σ H => ∃ c, tS X.K X.mg k (emb c) (fr c) D σ H
  have hur : PSs X rest ur := ⟨fun pins s σ H D I ⟨c, q⟩ => (hr c).run pins s σ H D I q⟩
  let ts : Addr → Value → Option Addr → TS := fun a cls d D σ H => ∃ dd dat, cls = .ref CA ∧ d = some dd ∧ tS X.K X.mg (⟨W0, List.replicate ρx.length .any, emb, k.embL, k.R⟩ : Ct J L) (ρx.set i (.exc a dd f dat)) (mh dat) D σ H
  have hts : ∀ (a : Addr) (oe : Obj) (cls : Value) (d : Option Addr) (pn : List (Addr × Obj)), Zc cls d oe → (∃ vs, oe.data = .fields vs) → PSs (X.suite a ((a, oe) :: pn)) (b₀ :: suite) (ts a cls d) := fun a oe cls d pn hz hv => ⟨fun pins s σ H D I ⟨dd, dat, e1, e2, q⟩ => by
    subst e1 e2
    exact (hsu a dd oe dat pn hz hv).run pins s σ H D I q⟩
  refine PSs.imp (pss_cons (ps_try_as (tb := fun W => tS X.K X.mg (⟨W, ρx, emb, k.embL, k.R⟩ : Ct J L) ρ mb) hs hf hN hi hln ⟨hgx, hdx, .inl hmg⟩ tk hb hts) hur) fun D σ H ⟨G0, H0, G, S, si, h⟩ => ?_
  have h1 : okS X.K X.mg (k.to emb) G0 H0 G H { D with nx := ur D } (tryM x f no mb mh S) := okS.then h (fun c S1 σ G H si _ h => ⟨c, G0, H0, G, S1, si, h⟩) rfl rfl rfl
  refine ⟨G0, H0, G, S, si, ?_⟩
  unfold tryM at h1
  cases q : mb S with
  | ok z S1 => rw [q] at h1; cases z <;> exact h1
  | bad => rw [q] at h1; exact h1
  | err er S1 =>
    rw [q] at h1
    intro cls da σ' G' H' s' lr erep
    obtain ⟨C', dd, v, hC, e1, e2, hdd, hmu, rv⟩ := erep
    subst e1 e2
    simp only at h1
    by_cases ec : er.cls = x
    · rw [if_pos ec] at h1
      by_cases ef : er.fld = f
      case neg => rw [if_neg ef] at h1; exact h1.elim
      rw [if_pos ef] at h1
      rw [ef] at hdd
      rw [ec, hmg] at hC; cases hC
      refine ⟨true, hyes, fun _ a ha => ?_, (fun z => nomatch z)⟩
      refine ⟨dd, er.val, rfl, rfl, G0, H0, G', S1, ?_, ?_⟩
      · -- the name holds the error
        have hlen : σ'.length = ρx.length := s'.len
        refine ⟨s'.fr, s'.live0, s'.wf, by rw [List.length_set, List.length_set]; exact s'.len, fun j y hy => ?_, fun j j' ds es l nj h1 h2 h3 => ?_⟩
        · by_cases ej : i = j
          · subst ej
            by_cases hl : i < ρx.length
            · rw [List.getElem?_set_self hl] at hy
              cases hy
              exact ⟨List.getElem?_set_self (by rw [hlen]; exact hl), v, hdd, hmu, rv⟩
            · rw [List.getElem?_eq_none (by rw [List.length_set]; omega)] at hy; cases hy
          · rw [List.getElem?_set_ne ej] at hy ⊢
            exact s'.env j y hy
        · have ne : ∀ {c : Nat} {fs : List Dl.D}, (ρx.set i (.exc a dd f er.val))[c]? = some (.own fs) → i ≠ c ∧ ρx[c]? = some (.own fs) := fun {c fs} h => by
            by_cases e : i = c
            · subst e
              by_cases hl : i < ρx.length
              · rw [List.getElem?_set_self hl] at h; cases h
              · rw [List.getElem?_eq_none (by rw [List.length_set]; omega)] at h; cases h
            · rw [List.getElem?_set_ne e] at h
              exact ⟨e, h⟩
          obtain ⟨n1, q1⟩ := ne h1
          obtain ⟨n2, q2⟩ := ne h2
          rw [List.getElem?_set_ne n1] at h3
          rw [List.getElem?_set_ne n2]
          exact s'.apart j j' ds es l nj q1 q2 h3
      · -- behind the suite the name is gone
        have gone : ∀ {σ2 : L2.St} {G2 : Gh} {H2 : Hp} {S2 : MS} {ρ2 : List Slot}, SI X.K X.mg G0 H0 G2 H2 σ2 ρ2 S2 → (ρ2[i]? = some .any ∨ ρ2[i]? = none) → SI X.K X.mg G0 H0 G2 H2 (σ2.set i none) ρ2 S2 := fun {σ2 G2 H2 S2 ρ2} s2 hρ => by
          have noti : ∀ {j : Nat} {y : Slot}, ρ2[j]? = some y → y ≠ .any → i ≠ j := fun {j y} hy ny e => by
            subst e
            rcases hρ with hρ | hρ
            · rw [hρ] at hy; cases hy; exact ny rfl
            · rw [hρ] at hy; cases hy
          refine ⟨s2.fr, s2.live0, s2.wf, by rw [List.length_set]; exact s2.len, fun j y hy => ?_, fun j j' ds es l nj h1 h2 h3 => ?_⟩
          · cases y with
            | any => trivial
            | val d => rw [List.getElem?_set_ne (noti hy (fun z => nomatch z))]; exact s2.env j _ hy
            | own d => rw [List.getElem?_set_ne (noti hy (fun z => nomatch z))]; exact s2.env j _ hy
            | exc _ _ _ _ => rw [List.getElem?_set_ne (noti hy (fun z => nomatch z))]; exact s2.env j _ hy
            | raw _ _ _ _ _ => rw [List.getElem?_set_ne (noti hy (fun z => nomatch z))]; exact s2.env j _ hy
          · rw [List.getElem?_set_ne (noti h1 (fun z => nomatch z))] at h3
            rw [List.getElem?_set_ne (noti h2 (fun z => nomatch z))]
            exact s2.apart j j' ds es l nj h1 h2 h3
        have h2 := okS.from h1 lr
        unfold calmM at h2
        cases qh : mh er.val S1 with
        | ok z S2 =>
          rw [qh] at h2
          cases z with
          | nx c => exact fun σ3 G3 H3 s3 l3 => h2 _ G3 H3 (gone s3 (.inl (he c))) l3
          | ret d => exact h2
          | brk l => exact fun σ3 G3 H3 s3 l3 => h2 _ G3 H3 (gone s3 (hel l)) l3
          | cnt l => exact fun σ3 G3 H3 s3 l3 => h2 _ G3 H3 (gone s3 (hel l)) l3
        | err _ _ => rw [qh] at h2; exact h2.elim
        | bad => rw [qh] at h2; exact h2
    · rw [if_neg ec] at h1
      by_cases en : no.contains er.cls = true
      · rw [if_pos en] at h1
        refine ⟨false, hno _ (by simpa using en) C' hC, (fun z => nomatch z), fun _ => ?_⟩
        exact h1 _ _ σ' G' H' (s'.weak wx) lr ⟨C', dd, v, hC, rfl, rfl, hdd, hmu, rv⟩
      · rw [if_neg en] at h1; exact h1.elim
/-- e.f of a caught error -/
theorem ed_xf {W : WX} {i : Nat} {n f : Str} {CA aa dd : Addr} {oe : Obj} {d : D} {pn : List (Addr × Obj)} {np : Pos} (T : XfC X.K CA) (hno : PySem.W.findIn X.K (.ref CA) f = some none) (hz : Zc (.ref CA) (some dd) oe) (hv : ∃ vs, oe.data = .fields vs)
    (hρ : ρ[i]? = some (.exc aa dd f d)) (hN : X.N[i]? = some n := by rfl) (hvis : Vis X.env.scope n := by first | exact Or.inl rfl | exact Or.inr (Or.inl rfl) | exact Or.inr (Or.inr rfl)) (hd : (n == ("__debug__" : Str)) = false := by decide) (hcd : (n == ("__classdict__" : Str)) = false := by decide)
    (hb : attributeBase (.Name n np) f X.env (eval (.Name n np) X.env) = eval (.Name n np) X.env := by rfl) :
    ED (X.suite aa ((aa, oe) :: pn)) W ρ (.Attribute (.Name n np) f pos) (M.pure d) :=
  PE.imp (pe_xf T hno hz hv (pv i hN hvis hd hcd) hb) fun σ H Q ⟨G0, H0, G, S, si, h⟩ => by
    obtain ⟨e, v, hdd, hmu, rv⟩ := si.env i _ hρ
    exact ⟨_, e, rfl, rfl, dd, _, v, rfl, hdd, by rw [List.lookup_cons_self], okG.here h si rv⟩
end
end Dl
namespace Dl
open PySem L2
/-! ### a def as a computation -/
def finM (m : M (Fl Unit Empty)) : M D := m.bind fun z => match z with
  | .nx _ => M.pure .non
  | .ret d => M.pure d
  | .brk l => l.elim
  | .cnt l => l.elim
/-- the context of a def's body -/
def Ct.fn (K : PySem.W.Frag) (n : Nat) (E : XK) : Ct Unit Empty := ⟨fun cls d _ H => E cls d H, List.replicate n .any, fun _ => List.replicate n .any, fun l => l.elim, fun _ G H v d => Rep K G H v d⟩
/-- a new list is handed back, which nobody else knows -/
def RNw (K : PySem.W.Frag) : Hp → Gh → Hp → V → D → Prop := fun H0 G H v d => ∃ l xs ds, d = .lst ds ∧ v = .ref l ∧ H0 l = none ∧ H l = some (.lst xs) ∧ xs.length ≤ sizeLine ∧ G.O l ∧ ¬ G.cell l ∧ Reps K G H xs ds
def Ct.fnN (K : PySem.W.Frag) (n : Nat) (E : XK) : Ct Unit Empty := ⟨fun cls d _ H => E cls d H, List.replicate n .any, fun _ => List.replicate n .any, fun l => l.elim, RNw K⟩
def finN (m : M (Fl Unit Empty)) : M (List D) := m.bind fun z => match z with
  | .ret (.lst ds) => M.pure ds
  | _ => M.bad
def args (n : Nat) (ds : List D) : List Slot := ds.map .val ++ List.replicate (n - ds.length) .any
section
variable {P : Program} {w : World} {K : PySem.W.Frag} {base : Heap} {mg : Str → Option Value}
theorem si_start {G : Gh} {H : Hp} {S : MS} {N : List Str} {vs : List V} {ds : List D} (wf : Wf K mg G H S) (r : Reps K G H vs ds) : SI K mg G H G H (L2.start N vs) (args N.length ds) S where
  fr := .refl G H
  live0 := wf.live
  wf := wf
  len := by unfold L2.start args; rw [List.length_append, List.length_append, List.length_map, List.length_map, List.length_replicate, List.length_replicate, r.length]
  env := fun i s h => by
    unfold args at h
    by_cases hi : i < ds.length
    · rw [List.getElem?_append_left (by rw [List.length_map]; exact hi), List.getElem?_map] at h
      cases q : ds[i]? with
      | none => rw [q] at h; cases h
      | some d =>
        rw [q] at h
        cases h
        obtain ⟨v, hv, rv⟩ := r.get q
        refine ⟨v, ?_, rv⟩
        unfold L2.start
        rw [List.getElem?_append_left (by rw [List.length_map, r.length]; exact hi), List.getElem?_map, hv]
        rfl
    · rw [List.getElem?_append_right (by rw [List.length_map]; omega), List.getElem?_replicate] at h
      split at h
      · cases h; trivial
      · cases h
  apart := fun i j ds' es l n h1 => by
    unfold args at h1
    by_cases hi : i < ds.length
    · rw [List.getElem?_append_left (by rw [List.length_map]; exact hi), List.getElem?_map] at h1
      cases q : ds[i]? with
      | none => rw [q] at h1; cases h1
      | some d => rw [q] at h1; cases h1
    · rw [List.getElem?_append_right (by rw [List.length_map]; omega), List.getElem?_replicate] at h1
      split at h1
      · cases h1
      · cases h1
/-- THE RULE for a def: its body's computation -/
theorem fn_of_D {x qual : Str} {st : Stmt} {f : Addr} {fd : FuncData} {N ps : List Str} {k : Nat} {g : List D → M D} (F : Fun K x qual st f fd) (S : FnScope N ps (defScope st))
    (hb : ∀ (ds : List D), ds.length = ps.length → ∀ (cdv : Value) (A : Around) (outer : List Env) (s : Shared) (H : Hp) (E : XK), Room k (A.deeper (PyProof.Rows.envOfC qual (defScope st) s.heap.objs.size f cdv)) →
      Takes (cxOf (L2.CX P w) P w K mg base N qual (defScope st) f cdv A outer s H E) (fun cls d _ H => E cls d H) → PassesOwn (model P w) (A.deeper (PyProof.Rows.envOfC qual (defScope st) s.heap.objs.size f cdv)) (PyProof.Rows.envOfC qual (defScope st) s.heap.objs.size f cdv) (cxOf (L2.CX P w) P w K mg base N qual (defScope st) f cdv A outer s H E).xe →
      ∃ m : M (Fl Unit Empty), g ds = finM m ∧ SD (cxOf (L2.CX P w) P w K mg base N qual (defScope st) f cdv A outer s H E) (Ct.fn K N.length E) (args N.length ds) (defBody st) m) :
    FnOk P w K mg base (L2.CX P w) (k + 1) f fd ps (spD K mg ps.length g) := by
  refine F.okX S (fun vs H Q E h => spD_len h) (fun cdv A outer s H vs Q E hr h => ?_)
  obtain ⟨G, S', ds, hl, r, wf, h⟩ := h
  obtain ⟨m, e, hm⟩ := hb ds hl cdv A outer s H E hr (takes_of rfl rfl rfl rfl) (passes_of rfl)
  refine ⟨_, hm, G, H, G, S', si_start wf r, ?_⟩
  rw [e] at h
  unfold finM M.bind at h
  cases q : m S' with
  | ok z S1 =>
    rw [q] at h
    cases z with
    | nx c => exact fun σ G' H' s' _ => h .non G' H' s'.fr s'.wf .non
    | ret d => exact fun v G' H' fr wf r => h v G' H' fr wf r
    | brk l => exact l.elim
    | cnt l => exact l.elim
  | err x S1 =>
    rw [q] at h
    exact fun cls da σ G' H' s' _ r => h cls da G' H' s'.fr s'.wf r
  | bad => rw [q] at h; exact h
end
section
variable (K : PySem.W.Frag) (mg : Str → Option Value)
def okFN (G : Gh) (H : Hp) (Q : VK) (E : XK) : Res (List D) → Prop
  | .ok ds S => ∀ l xs G' H', FR G H G' H' → Wf K mg G' H' S → H l = none → H' l = some (.lst xs) → xs.length ≤ sizeLine → G'.O l → ¬ G'.cell l → Reps K G' H' xs ds → Q (.ref l) H'
  | .err e S => ∀ cls da G' H', FR G H G' H' → Wf K mg G' H' S → ErrRep K mg G' H' e cls da → E cls da H'
  | .bad => False
def spN (n : Nat) (f : List D → M (List D)) : Sp := fun vs H Q E => ∃ G S ds, ds.length = n ∧ Reps K G H vs ds ∧ Wf K mg G H S ∧ okFN K mg G H Q E (f ds S)
end
section
variable {P : Program} {w : World} {K : PySem.W.Frag} {base : Heap} {mg : Str → Option Value}
theorem fn_of_N {x qual : Str} {st : Stmt} {f : Addr} {fd : FuncData} {N ps : List Str} {k : Nat} {g : List D → M (List D)} (F : Fun K x qual st f fd) (S : FnScope N ps (defScope st))
    (hb : ∀ (ds : List D), ds.length = ps.length → ∀ (cdv : Value) (A : Around) (outer : List Env) (s : Shared) (H : Hp) (E : XK), Room k (A.deeper (PyProof.Rows.envOfC qual (defScope st) s.heap.objs.size f cdv)) →
      Takes (cxOf (L2.CX P w) P w K mg base N qual (defScope st) f cdv A outer s H E) (fun cls d _ H => E cls d H) → PassesOwn (model P w) (A.deeper (PyProof.Rows.envOfC qual (defScope st) s.heap.objs.size f cdv)) (PyProof.Rows.envOfC qual (defScope st) s.heap.objs.size f cdv) (cxOf (L2.CX P w) P w K mg base N qual (defScope st) f cdv A outer s H E).xe →
      ∃ m : M (Fl Unit Empty), g ds = finN m ∧ SD (cxOf (L2.CX P w) P w K mg base N qual (defScope st) f cdv A outer s H E) (Ct.fnN K N.length E) (args N.length ds) (defBody st) m) :
    FnOk P w K mg base (L2.CX P w) (k + 1) f fd ps (spN K mg ps.length g) := by
  refine F.okX S (fun vs H Q E h => ?_) (fun cdv A outer s H vs Q E hr h => ?_)
  · obtain ⟨G, S', ds, hl, r, _⟩ := h
    rw [r.length, hl]
  obtain ⟨G, S', ds, hl, r, wf, h⟩ := h
  obtain ⟨m, e, hm⟩ := hb ds hl cdv A outer s H E hr (takes_of rfl rfl rfl rfl) (passes_of rfl)
  refine ⟨_, hm, G, H, G, S', si_start wf r, ?_⟩
  rw [e] at h
  unfold finN M.bind at h
  cases q : m S' with
  | ok z S1 =>
    rw [q] at h
    cases z with
    | nx c => exact h.elim
    | ret d =>
      intro v G' H' fr wf r
      obtain ⟨l, xs, ds, rfl, rfl, hn, hl, z, ho, hc, t⟩ := r
      exact h l xs G' H' fr wf hn hl z ho hc t
    | brk l => exact l.elim
    | cnt l => exact l.elim
  | err x S1 =>
    rw [q] at h
    exact fun cls da σ G' H' s' _ r => h cls da G' H' s'.fr s'.wf r
  | bad => rw [q] at h; exact h
end
/-! ### what a caller must know of defs, methods, classes, errors -/
section
variable (P : Program) (w : World) (K : PySem.W.Frag) (mg : Str → Option Value) (base : Heap)
def FI (x : Str) (ps : List Str) (k : Nat) (g : List D → M D) : Prop :=
  ∃ f fd, mg x = some (.ref f) ∧ PySem.W.keepIn K (.ref f) = true ∧ Binds K fd ps [] ∧ FnOk P w K mg base (L2.CX P w) k f fd ps (spD K mg ps.length g)
def FN (x : Str) (ps : List Str) (k : Nat) (g : List D → M (List D)) : Prop :=
  ∃ f fd, mg x = some (.ref f) ∧ PySem.W.keepIn K (.ref f) = true ∧ Binds K fd ps [] ∧ FnOk P w K mg base (L2.CX P w) k f fd ps (spN K mg ps.length g)
def MI (c m : Str) (ps : List Str) (k : Nat) (g : List D → M D) : Prop :=
  ∃ C f fd, CI K mg c C ∧ Meth K C m f ∧ Binds K fd ps [] ∧ FnOk P w K mg base (L2.CX P w) k f fd ps (spD K mg ps.length g)
def KI (c : Str) (ps : List Str) (k : Nat) (g : List D → M D) : Prop :=
  ∃ C f fd, CI K mg c C ∧ Mk K C f ∧ Binds K fd ps [] ∧ FnOk P w K mg base (L2.CX P w) k f fd ps (spD K mg ps.length g)
def EI (c f : Str) : Prop := ∃ C fI fd, XI P w K mg base c f C fI fd
/-- what a clause that catches an error must know -/
def EX (c f : Str) : Prop := ∃ C, mg c = some (.ref C) ∧ PySem.W.exmOne K (.ref C) (.ref C) = some true ∧ XfC K C ∧ PySem.W.findIn K (.ref C) f = some none
/-- a field that no class has as an attribute of its own -/
def NA (c f : Str) : Prop := ∃ C, CI K mg c C ∧ NoAttr K C f
end
section
variable {X : Cx} {W : WX} {ρ : List Slot} {a b c e o : Expr} {es : List Expr} {m mo mv : M D} {ms : List (M D)} {pos p apos p2 : Pos}
theorem ed_callF {x : Str} {ps : List Str} {k : Nat} {g : List D → M D} (F : FI X.prog X.w X.K X.mg X.base x ps k g) (tk : Takes X W) (hr : Room k X.A) (ha : EA X W ρ (e :: es) (argsM ms)) (hl : ms.length = ps.length := by rfl) (hn : (e :: es).length = ps.length := by rfl) (hg : Gl X x := by rfl)
    (hdb : (x == ("__debug__" : Str)) = false := by decide) (he : NS1 X e es := by rfl) (hpl : NS2 X pos es := by rfl) :
    ED X W ρ (.Call (.Name x p) (e :: es) [] pos) (callM g ms) := by
  obtain ⟨f, fd, h1, h2, h3, h4⟩ := F
  exact ed_call h4 tk hr h1 h2 h3 ha hn hg hdb he hpl hl
theorem en_callN {x : Str} {ps : List Str} {k : Nat} {g : List D → M (List D)} (F : FN X.prog X.w X.K X.mg X.base x ps k g) (tk : Takes X W) (hr : Room k X.A) (ha : EA X W ρ (e :: es) (argsM ms)) (hl : ms.length = ps.length := by rfl) (hg : Gl X x := by rfl)
    (hdb : (x == ("__debug__" : Str)) = false := by decide) (he : NS1 X e es := by rfl) (hpl : NS2 X pos es := by rfl) :
    EN X W ρ (.Call (.Name x p) (e :: es) [] pos) ((argsM ms).bind g) := by
  obtain ⟨f, fd, h1, h2, h3, h4⟩ := F
  refine PE.imp (pe_callS h4 hr hg h1 h2 h3 (fun σ => passAt tk σ) ha hdb he hpl) fun σ H Q ⟨G0, H0, G, S, si, h⟩ => ⟨G0, H0, G, S, si, ?_⟩
  unfold M.bind at h
  cases q : argsM ms S with
  | ok ds S1 =>
    rw [q] at h
    refine fun vs G1 H1 s1 f1 r1 => ⟨G1, S1, ds, by rw [args_len q, hl], r1, s1.wf, ?_⟩
    have h : okN X.K X.mg W G0 H0 G1 H1 σ ρ Q (g ds S1) := okN.from h f1
    cases qg : g ds S1 with
    | ok es S2 =>
      rw [qg] at h
      exact fun l xs G' H' fr wf n hl' z ho hc t => h l xs G' H' (s1.mono fr wf) fr n hl' z ho hc t
    | err _ _ =>
      rw [qg] at h
      exact fun cls da G' H' fr wf r => h cls da G' H' (s1.mono fr wf) fr r
    | bad =>
      rw [qg] at h
      exact h
  | err _ _ => rw [q] at h; exact h
  | bad => rw [q] at h; exact h
theorem ed_methF {cn mn : Str} {ps : List Str} {k : Nat} {g : List D → M D} {pl : Sem Bool} (F : MI X.prog X.w X.K X.mg X.base cn mn ps k g) (tk : Takes X W) (hr : Room k X.A) (ho : ED X W ρ o mo) (ha : EA X W ρ (e :: es) (argsM ms)) (hl : ms.length + 1 = ps.length := by rfl)
    (hst : NS1 X e es := by rfl) (hpl : NS2 X pos es := by rfl)
    (ht : MC X o mn apos pos (e :: es) pl := by rfl) :
    ED X W ρ (.Call (.Attribute o mn apos) (e :: es) [] pos) (methM cn mn g mo ms) := by
  obtain ⟨C, f, fd, h1, h2, h3, h4⟩ := F
  exact ed_meth (pl := pl) h1 h2 h4 tk hr h3 ho ha hl hst hpl ht
theorem ed_makeF {x : Str} {ps : List Str} {k : Nat} {g : List D → M D} (F : KI X.prog X.w X.K X.mg X.base x ps k g) (tk : Takes X W) (hr : Room (k + 1) X.A) (ha : EA X W ρ (e :: es) (argsM ms)) (hl : ms.length + 1 = ps.length := by rfl) (hg : Gl X x := by rfl)
    (hdb : (x == ("__debug__" : Str)) = false := by decide) (he : NS1 X e es := by rfl) (hpl : NS2 X pos es := by rfl) :
    ED X W ρ (.Call (.Name x p) (e :: es) [] pos) (newM x g ms) := by
  obtain ⟨C, f, fd, h1, h2, h3, h4⟩ := F
  exact ed_make h1 h2 h4 tk hr h3 ha hl hg hdb he hpl
theorem ed_fldF {cn f : Str} (T : NA X.K X.mg cn f) (he : ED X W ρ e m) (hb : attributeBase e f X.env (eval e X.env) = eval e X.env := by rfl) : ED X W ρ (.Attribute e f pos) (una (dFld cn f) m) := by
  obtain ⟨C, h1, h2⟩ := T
  exact ed_fld h1 h2 he hb
variable {C L : Type} {k : Ct C L} {rest : List Stmt}
theorem sd_fldF {cn f : Str} {mr : M (Fl C L)} (w : Wk ρ k.x) (T : NA X.K X.mg cn f) (ho : ED X k.W ρ o mo) (he : ED X k.W ρ e mv) (hr : SD X k ρ rest mr) (hs : swapsWith e (some (.Attribute o f p)) pos.line X.env = pure false := by rfl) :
    SD X k ρ (.Assign [.Attribute o f p] e pos :: rest) (mv.bind fun v => mo.bind fun o => (setF cn f o v).bind fun _ => mr) := by
  obtain ⟨CA, h1, h2⟩ := T
  exact sd_fld w h1 h2 ho he hr hs
theorem sd_raiseF {x f : Str} (w : Wk ρ k.x) (T : EI X.prog X.w X.K X.mg X.base x f) (tk : Takes X k.W) (hr : Room 2 X.A) (he : ED X k.W ρ e m) (hc : X.calm = true := by rfl) (hg : Gl X x := by rfl)
    (hdb : (x == ("__debug__" : Str)) = false := by decide) (hst : starEach (e :: []) X.env = (false, eval e X.env) :: starEach [] X.env := by rfl) (hpl : (backTo p2 (starEach [] X.env)).any (·.1) = false := by rfl) :
    SD X k ρ (.Raise (some (.Call (.Name x p) [e] [] p2)) none pos :: rest) (m.bind fun d => M.raise ⟨x, f, d⟩) := by
  obtain ⟨CA, fI, fd, T⟩ := T
  exact sd_raise w T tk hr he hc hg hdb hst hpl
end
/-! ### the law's stream -/
def fill : List Int → Int → Int → List Int × Int × Int
  | [], cur, mix => ([], cur, mix)
  | x :: xs, cur, mix => if cur = 0 then (if x < 10 ^ 18 then fill xs 0 ((mix * 31 + x + 7) % 2147483647) else (xs, x, mix)) else (x :: xs, cur, mix)
def Strm.full (s : Strm) : Strm := let f := fill s.xs s.cur s.mix; ⟨f.1, f.2.1, s.cnt, f.2.2⟩
def Strm.mixd (s : Strm) : Int := ((s.mix + 104729 * (s.cnt + 1) + 17) ^ 5) % 2147483629
def Strm.last (s : Strm) : Int := ((s.mixd * 48271 + 40503 * (s.cnt + 1) * (s.cnt + 1) + 13) ^ 3) % 1000000007
def Strm.take (s : Strm) (n : Int) : Int := if 0 < s.full.cur then s.full.cur % n else s.full.last % n
def Strm.next (s : Strm) (n : Int) : Strm := if 0 < s.full.cur then { s.full with cur := s.full.cur / n } else { s.full with cnt := s.full.cnt + 1 }
/-- a stream from which so many numbers may be drawn -/
def Strm.good (s : Strm) : Bool := decide (0 ≤ s.mix) && decide (s.mix < 2147483647) && decide (0 ≤ s.cnt) && decide (s.cnt < 8388607) && decide (0 ≤ s.cur)
def drawD (st n : D) : M D := fun S => match st, n with
  | .strm, .int n => if (decide (0 < n) && decide (n < 18446744073709551616) && S.st.good) = true then .ok (.int (S.st.take n)) { S with st := S.st.next n } else .bad
  | _, _ => .bad
theorem fill_mix : ∀ (xs : List Int) (cur mix : Int), 0 ≤ mix → mix < 2147483647 → 0 ≤ (fill xs cur mix).2.2 ∧ (fill xs cur mix).2.2 < 2147483647
  | [], cur, mix, h1, h2 => ⟨h1, h2⟩
  | x :: xs, cur, mix, h1, h2 => by
    unfold fill
    by_cases e : cur = 0
    · rw [if_pos e]
      by_cases q : x < 10 ^ 18
      · rw [if_pos q]
        exact fill_mix xs 0 _ (Int.emod_nonneg _ (by decide)) (Int.emod_lt_of_pos _ (by decide))
      · rw [if_neg q]; exact ⟨h1, h2⟩
    · rw [if_neg e]; exact ⟨h1, h2⟩
theorem fill_cur : ∀ (xs : List Int) (cur mix : Int), 0 ≤ cur → 0 ≤ (fill xs cur mix).2.1
  | [], cur, mix, h => h
  | x :: xs, cur, mix, h => by
    unfold fill
    by_cases e : cur = 0
    · rw [if_pos e]
      by_cases q : x < 10 ^ 18
      · rw [if_pos q]; exact fill_cur xs 0 _ (Int.le_refl _)
      · rw [if_neg q]
        have : (10 : Int) ^ 18 ≤ x := Int.not_lt.mp q
        exact Int.le_trans (by decide) this
    · rw [if_neg e]; exact h
end Dl
namespace Dl
open PySem L2
/-! ### new lists -/
section
variable {X : Cx} {W : WX} {ρ : List Slot} {a b c e o : Expr} {es : List Expr} {m mo mv ma mb : M D} {ms : List (M D)} {pos p apos p2 : Pos} {tc : M Bool} {na nb : M (List D)}
theorem en_if (hc : ET X W ρ c tc) (ha : EN X W ρ a na) (hb : EN X W ρ b nb) : EN X W ρ (.IfExp c a b pos) (ifM tc na nb) :=
  PE.imp (pe_ifExp hc ha hb) fun σ H Q ⟨G0, H0, G, S, si, h⟩ => ⟨G0, H0, G, S, si, okN.bind h fun G1 H1 S1 x d s1 f1 r1 h1 => by
    cases r1
    cases x with
    | true => exact ⟨G0, H0, G1, S1, s1, h1⟩
    | false => exact ⟨G0, H0, G1, S1, s1, h1⟩⟩
/-- xs * n, a new list -/
def repM (a : M (List D)) (b : M D) : M (List D) := a.bind fun ds => b.bind fun k => match k with
  | .int k => gd (decide (-(2 ^ 63) ≤ k) && decide (k < 2 ^ 63) && szOk (ds.length * k.toNat)) (M.pure (List.replicate k.toNat ds).flatten)
  | _ => M.bad
theorem en_rep (ha : EN X W ρ a na) (hb : ED X W ρ b mb) : EN X W ρ (.BinOp a .Mult b pos) (repM na mb) :=
  PE.imp (pe_op op_rep ha hb) fun σ H Q ⟨G0, H0, G, S, si, h⟩ => ⟨G0, H0, G, S, si, by
    unfold repM M.bind at h
    cases q : na S with
    | err _ _ => rw [q] at h; exact h
    | bad => rw [q] at h; exact h
    | ok ds S1 =>
      rw [q] at h
      intro l xs G1 H1 s1 f1 hn hl z ho hc t
      have h := okN.from h f1
      refine ⟨G0, H0, G1, S1, s1, okN.bind (m := mb) h fun G2 H2 S2 x d s2 f2 r2 h2 => ?_⟩
      cases r2 with
      | int k =>
        by_cases zz : (decide (-(2 ^ 63) ≤ k) && decide (k < 2 ^ 63) && szOk (ds.length * k.toNat)) = true
        · simp only [gd, zz, if_true] at h2
          simp only [Bool.and_eq_true, decide_eq_true_eq] at zz
          have z' := sz_of zz.2
          have hl2 : H2 l = some (.lst xs) := f2.keep _ _ hl (.inl hc)
          have t2 := t.mono f2
          rw [← t.length] at z'
          exact ⟨l, k, xs, rfl, rfl, hl2, zz.1.1, zz.1.2, z', fun p hp => okN.new h2 s2 hp (by simp only [List.length_flatten, List.map_replicate, List.sum_replicate_nat]; rw [Nat.mul_comm]; exact z') (t2.rep _)⟩
        · simp only [gd, zz, if_false] at h2
          exact h2.elim
      | _ => exact h2.elim⟩
/-- a new list that will change: it gets a pointer -/
def boxM (m : M (List D)) : M D := m.bind fun ds S => .ok (.ptr S.cells.length) { S with cells := S.cells ++ [.lst ds] }
theorem box_ok {K : PySem.W.Frag} {mg : Str → Option Value} {G0 G : Gh} {H0 H : Hp} {σ : L2.St} {S : MS} {l : Addr} {xs : List V} {ds : List D} (s : SI K mg G0 H0 G H σ ρ S) (hl : H l = some (.lst xs)) (z : xs.length ≤ sizeLine) (ho : G.O l) (hc : ¬ G.cell l) (h0 : H0 l = none) (t : Reps K G H xs ds)
    (own : ∀ (i : Nat) (es : List D), ρ[i]? = some (.own es) → σ[i]? ≠ some (some (V.ref l))) :
    SI K mg G0 H0 { G with φ := G.φ ++ [l], O := fun b => b ≠ l ∧ G.O b } H σ ρ { S with cells := S.cells ++ [.lst ds] } ∧ Rep K { G with φ := G.φ ++ [l], O := fun b => b ≠ l ∧ G.O b } H (.ref l) (.ptr S.cells.length) := by
  let G' : Gh := { G with φ := G.φ ++ [l], O := fun b => b ≠ l ∧ G.O b }
  have cc : ∀ b, G'.cell b → G.cell b ∨ b = l := fun b h => by
    rcases h with h | h | h
    · rcases List.mem_append.mp h.1 with k | h'
      · exact .inl (.inl ⟨k, h.2⟩)
      · have h := h'; exact Or.inr (List.mem_singleton.mp h)
    · exact .inl (.inr (.inl h))
    · exact .inl (.inr (.inr h))
  have mm : ∀ b, G'.mu b → G.mu b := fun b h => by
    rcases h with h | h
    · rcases cc b h with h | h
      · exact .inl h
      · rw [h]; exact .inr ho
    · exact .inr h.2
  have lr : LR G H G' H := ⟨List.prefix_append _ _, rfl, rfl, rfl, fun _ _ h _ => h, fun b h => .inl (mm b h), fun _ u h => ⟨u, h⟩⟩
  have ne0 : ∀ b, G0.O b → b ≠ l := fun b hb e => by
    obtain ⟨u, q⟩ := s.live0 b (.inr hb)
    rw [e, h0] at q; cases q
  have fr : FR G0 H0 G' H := ⟨s.fr.pre.trans (List.prefix_append _ _), s.fr.sa, s.fr.sb, s.fr.mg, s.fr.keep, fun b h => by
      rcases cc b h with h | h
      · exact s.fr.cnew b h
      · rw [h]; exact .inr h0, fun b h => s.fr.onew b h.2, fun b h => ⟨ne0 b h, s.fr.oold b h⟩, s.fr.there, s.fr.T, s.fr.tb⟩
  have wf : Wf K mg G' H { S with cells := S.cells ++ [.lst ds] } := by
    refine ⟨?_, ?_, ?_, fun b h => s.wf.live b (mm b h), s.wf.ha, s.wf.hb, s.wf.sab, ?_, ?_, s.wf.zs, s.wf.hmg, ?_, s.wf.zl, fun b h => ⟨fun q => ?_, (s.wf.zo b h.2).2⟩, s.wf.hT, s.wf.tb⟩
    · show (G.φ ++ [l]).length = (S.cells ++ [Cell.lst ds]).length
      rw [List.length_append, List.length_append, s.wf.len]; rfl
    · show (G.φ ++ [l]).Nodup
      rw [List.nodup_append]
      refine ⟨s.wf.nd, by simp, fun a ha b hb => ?_⟩
      have e : b = l := by simpa using hb
      rw [e]
      intro e'
      exact (s.wf.zo l ho).1 (by rw [← e']; exact ha)
    · intro i c a h1 h2
      have h1 : (S.cells ++ [Cell.lst ds])[i]? = some c := h1
      have h2 : (G.φ ++ [l])[i]? = some a := h2
      by_cases hi : i < S.cells.length
      · rw [List.getElem?_append_left hi] at h1
        rw [List.getElem?_append_left (by rw [s.wf.len]; exact hi)] at h2
        have q := s.wf.cell i c a h1 h2
        cases c with
        | lst ds => obtain ⟨xs, e, z, t⟩ := q; exact ⟨xs, e, z, t.lr lr⟩
        | dic kvs => obtain ⟨xs, e, z, t⟩ := q; exact ⟨xs, e, z, t.lr lr⟩
        | ins c fs => obtain ⟨C, dx, gs, m, e, t⟩ := q; exact ⟨C, dx, gs, m, e, t.lr lr⟩
        | out => trivial
      · rw [List.getElem?_append_right (by omega)] at h1
        rw [List.getElem?_append_right (by rw [s.wf.len]; omega)] at h2
        have ei : i - S.cells.length = 0 := by
          have := (List.getElem?_eq_some_iff.mp h1).1
          simp at this
          omega
        rw [ei] at h1
        rw [s.wf.len, ei] at h2
        cases h1; cases h2
        exact ⟨xs, hl, z, t.lr lr⟩
    · intro h
      rcases List.mem_append.mp (show G.sa ∈ G.φ ++ [l] from h) with h | h
      · exact s.wf.na h
      · exact hc (.inr (.inl (by simpa using Eq.symm (List.mem_singleton.mp h))))
    · intro h
      rcases List.mem_append.mp (show G.sb ∈ G.φ ++ [l] from h) with h | h
      · exact s.wf.nb h
      · exact hc (.inr (.inr (.inl (by simpa using Eq.symm (List.mem_singleton.mp h)))))
    · intro i c a h1 h2 hn zz
      have h1 : (S.cells ++ [Cell.lst ds])[i]? = some c := h1
      have h2 : (G.φ ++ [l])[i]? = some a := h2
      have zz : G.Z a := zz
      by_cases hi : i < S.cells.length
      · rw [List.getElem?_append_left hi] at h1
        rw [List.getElem?_append_left (by rw [s.wf.len]; exact hi)] at h2
        exact s.wf.nz i c a h1 h2 hn zz
      · rw [List.getElem?_append_right (by rw [s.wf.len]; omega)] at h2
        have e : a = l := by simpa using List.mem_of_getElem? h2
        rw [e] at zz
        exact (s.wf.zo l ho).2 zz
    · rcases List.mem_append.mp (show b ∈ G.φ ++ [l] from q) with q | q
      · exact (s.wf.zo b h.2).1 q
      · exact h.1 (by simpa using q)
  refine ⟨⟨fr, s.live0, wf, s.len, fun i x h => ?_, s.apart⟩, .ptr ?_⟩
  · have q := s.env i x h
    cases x with
    | any => trivial
    | val d => obtain ⟨v, e, t⟩ := q; exact ⟨v, e, t.lr lr⟩
    | own es =>
      obtain ⟨m, ys, e, hm, zm, tm, hom, hcm, h0m⟩ := q
      have ne : m ≠ l := fun e' => own i es h (by rw [← e']; exact e)
      refine ⟨m, ys, e, hm, zm, tm.lr lr, ⟨ne, hom⟩, fun q' => ?_, h0m⟩
      rcases cc m q' with q' | q'
      · exact hcm q'
      · exact ne q'
    | exc a dd f d => obtain ⟨e, v, hd, n, t⟩ := q; exact ⟨e, v, hd, fun z => n (mm _ z), t.lr lr⟩
    | raw f c y Ga Ha => obtain ⟨e, hco, f1, e0, l0⟩ := q; exact ⟨e, hco, f1.box (by rw [e0]; exact h0) l0, e0, l0⟩
  · show (G.φ ++ [l])[S.cells.length]? = some l
    rw [← s.wf.len, List.getElem?_append_right (Nat.le_refl _), Nat.sub_self]
    rfl
theorem ed_box {mn : M (List D)} (h : EN X W ρ e mn) : ED X W ρ e (boxM mn) :=
  PE.imp h fun σ H Q ⟨G0, H0, G, S, si, h⟩ => ⟨G0, H0, G, S, si, by
    unfold boxM M.bind at h
    cases q : mn S with
    | ok ds S1 =>
      rw [q] at h
      intro l xs G' H' s f n e z ho hc t
      obtain ⟨s2, r2⟩ := box_ok s e z ho hc (si.fr.free n) t (si.owns n)
      refine h (.ref l) _ H' s2 ?_ r2
      refine ⟨f.pre.trans (List.prefix_append _ _), f.sa, f.sb, f.mg, f.keep, fun b hb => ?_, fun b hb => f.onew b hb.2, fun b hb => ⟨fun e' => ?_, f.oold b hb⟩, f.there, f.T, f.tb⟩
      · rcases hb with hb | hb | hb
        · rcases List.mem_append.mp hb.1 with k | hb'
          · exact f.cnew b (.inl ⟨k, hb.2⟩)
          · have hb := hb'
            have e' : b = l := by simpa using hb
            rw [e']; exact .inr n
        · exact f.cnew b (.inr (.inl hb))
        · exact f.cnew b (.inr (.inr hb))
      · obtain ⟨u, w⟩ := si.wf.live b (.inr hb)
        rw [e', n] at w; cases w
    | err _ _ => rw [q] at h; exact h
    | bad => rw [q] at h; exact h⟩
variable {C L : Type} {k : Ct C L} {rest : List Stmt}
/-- return a new list -/
theorem sd_retNew {mn : M (List D)} (w : Wk ρ k.x) (he : EN X k.W ρ e mn) (hR : k.R = RNw X.K := by rfl) : SD X k ρ (.Return (some e) pos :: rest) (retM (frz mn)) :=
  PSs.imp (pss_cons (ps_ret he) pss_never) fun D σ H ⟨G0, H0, G, S, si, h⟩ => ⟨G0, H0, G, S, si, by
    unfold retM frz M.bind at h
    cases q : mn S with
    | ok ds S1 =>
      simp only [q] at h
      intro l xs G' H' s f n e z ho hc t
      exact h (.ref l) G' H' s.fr s.wf (by rw [hR]; exact ⟨l, xs, ds, rfl, rfl, si.fr.free n, e, z, ho, hc, t⟩)
    | err _ _ =>
      simp only [q] at h
      exact fun cls da G' H' s f r => h cls da σ G' H' (s.weak w) f.lr r
    | bad => simp only [q] at h; exact h⟩
/-! ### is, chains, in -/
def dIsB (b : Bool) : D → M D
  | .bl c => M.pure (.bl (decide (c = b)))
  | _ => M.bad
theorem ed_isB {j : Nat} {bb : Bool} {pos' : Pos} (ha : ED X W ρ a ma) : ED X W ρ (.Compare a [.Is] [.Constant (.bool bb) j pos'] pos) (una (dIsB bb) ma) :=
  PE.imp (pe_cmpR op_isBl ha pe_bl (nomark _)) fun σ H Q ⟨G0, H0, G, S, si, h⟩ => ⟨G0, H0, G, S, si, okG.bind h fun G1 H1 S1 x d s1 f1 r1 h1 => by
    cases r1 with
    | bl c => exact ⟨c, bb, rfl, rfl, okG.here h1 s1 (.bl _)⟩
    | _ => exact h1.elim⟩
def chainM (f g : D → D → M D) (a b c : M D) : M D := a.bind fun x => b.bind fun y => (f x y).bind fun z => (asB z).bind fun k => if k = true then c.bind fun w => g y w else M.pure (.bl false)
end
end Dl
namespace Dl
open PySem L2
/-! ### the forms in which loops are told -/
def on1 {α : Type} (f : D → M α) : List D → M α
  | [a] => f a
  | _ => M.bad
def on2 {α : Type} (f : D → D → M α) : List D → M α
  | [a, b] => f a b
  | _ => M.bad
def on3 {α : Type} (f : D → D → D → M α) : List D → M α
  | [a, b, c] => f a b c
  | _ => M.bad
def un2 {α : Type} (f : D → D → M α) : D → M α
  | .tup ds => on2 f ds
  | _ => M.bad
def un3 {α : Type} (f : D → D → D → M α) : D → M α
  | .tup ds => on3 f ds
  | _ => M.bad
theorem un1_eq {α : Type} (f : D → M α) : unM u1 (on1 f) = f := by
  funext d
  rfl
section
variable {X : Cx} {W : WX} {ρ : List Slot} {a b c e o tg iter elt : Expr} {es ifs : List Expr} {m mo mv ma : M D} {ms : List (M D)} {pos p apos p2 : Pos} {mi : M (List D)} {C L J : Type} {k : Ct C L} {rest body : List Stmt} {f : J → M (Fl C L)}
theorem sd_for1 (i : Nat) (emb : J → List Slot) (c0 : J) {mb : J → D → M (Fl J J)} (w : Wk ρ k.x) (w0 : Wk ρ (emb c0)) (hp : PassesOwn (model X.prog X.w) X.A X.env X.xe) (hi : ID X k.W ρ tg iter mi) (hg : PG X tg (gName i))
    (hb : ∀ c d, SD X ⟨k.W, k.x, emb, emb, k.R⟩ ((emb c).set i (.val d)) body (mb c d)) (hr : ∀ c, SD X k (emb c) rest (f c)) (hc : X.calm = true := by rfl) (hs : ∀ x, foldedSetIterable iter X.env x = pure x := by intro _; rfl) :
    SD X k ρ (.For tg iter body [] pos :: rest) (mi.bind fun ds => thenM (forM mb ds c0) f) := by
  have h := sd_for (pos := pos) (mb := fun c => on1 (mb c)) emb c0 w w0 hp hi hg (tg_name i) (fun c ds => match ds with
    | [d] => hb c d
    | [] => sd_bad
    | _ :: _ :: _ => sd_bad) hr hc hs
  simp only [un1_eq] at h
  exact h
end
/-! ### comprehensions -/
def mapC (f : D → M D) : List D → M (List D)
  | [] => M.pure []
  | d :: ds => (calmM (f d)).bind fun x => (mapC f ds).bind fun r => M.pure (x :: r)
def filC (t : D → M Bool) (f : D → M D) : List D → M (List D)
  | [] => M.pure []
  | d :: ds => (calmM (t d)).bind fun b => if b = true then (calmM (f d)).bind fun x => (filC t f ds).bind fun r => M.pure (x :: r) else filC t f ds
def mapL (mi : M (List D)) (f : D → M D) : M (List D) := mi.bind fun ds => gd (szOk ds.length) (mapC f ds)
def filL (mi : M (List D)) (t : D → M Bool) (f : D → M D) : M (List D) := mi.bind fun ds => gd (szOk ds.length) (filC t f ds)
end Dl
namespace Dl
open PySem L2
section
variable {X : Cx} {ρ : List Slot} {a b c e o tg iter elt : Expr} {es ifs : List Expr} {m mo mv ma : M D} {ms : List (M D)} {pos p apos p2 : Pos} {C L : Type} {k : Ct C L} {rest : List Stmt} {st : Stmt}
/-- a new list is stored at a name, by a statement of its own kind -/
theorem sd_ofLc (i : Nat) {mn : M (List D)} {f : List D → M (Fl C L)} (w : Wk ρ k.x) (hps : PS X st (fun D σ H => tN X.K X.mg k.W ρ mn σ H fun v H1 => D.nx (σ.set i (some v)) H1)) (hr : ∀ ds, SD X k (ρ.set i (.val (.lst ds))) rest (f ds)) :
    SD X k ρ (st :: rest) (mn.bind f) := by
  let u : TS := fun D σ H => ∃ d, tS X.K X.mg k (ρ.set i (.val (.lst d))) (f d) D σ H
  have hu : PSs X rest u := ⟨fun pins s σ H D I ⟨d, q⟩ => (hr d).run pins s σ H D I q⟩
  refine PSs.imp (pss_cons hps hu) fun D σ H ⟨G0, H0, G, S, si, h⟩ => ⟨G0, H0, G, S, si, okS.bindN h w fun l xs G1 H1 S1 ds s1 f1 n hl z ho hc t h1 => ?_⟩
  have s2 := s1.let (si.fr.free n) (si.owns n)
  exact ⟨ds, G0, H0, G1.let l, S1, s2.set i (.lst hl z (fun q => q.elim hc fun y => y.1 rfl) t.let), okS.from h1 LR.let⟩
/-- a, b = e1, e2 -/
theorem sd_par2 (i j : Nat) {f : D → D → M (Fl C L)} (w : Wk ρ k.x) (hps : PS X st (tPar i j (tG X.K X.mg k.W (RDs X.K) ρ (argsM ms)))) (hr : ∀ d d', SD X k ((ρ.set i (.val d)).set j (.val d')) rest (f d d')) :
    SD X k ρ (st :: rest) ((argsM ms).bind (on2 f)) := by
  let u : TS := fun D σ H => ∃ d d', tS X.K X.mg k ((ρ.set i (.val d)).set j (.val d')) (f d d') D σ H
  have hu : PSs X rest u := ⟨fun pins s σ H D I ⟨d, d', q⟩ => (hr d d').run pins s σ H D I q⟩
  refine PSs.imp (pss_cons hps hu) fun D σ H ⟨G0, H0, G, S, si, h⟩ => ⟨G0, H0, G, S, si, okS.bind h w fun G1 H1 S1 vs ds s1 r1 h1 => ?_⟩
  cases r1 with
  | nil => exact h1.elim
  | cons r1 t =>
    cases t with
    | nil => exact h1.elim
    | cons r2 t =>
      cases t with
      | cons _ _ => exact h1.elim
      | nil => exact ⟨_, _, rfl, _, _, G0, H0, G1, S1, (s1.set i r1).set j r2, h1⟩
end
end Dl
/-! xs[i] += e, a list at a pointer, a place from 0 on -/
namespace Dl
open PySem L2
end Dl
namespace Dl
open PySem L2
def ar1N (f : D → M (List D)) : List D → M (List D)
  | [a] => f a
  | _ => M.bad
def ar2N (f : D → D → M (List D)) : List D → M (List D)
  | [a, b] => f a b
  | _ => M.bad
section
variable {X : Cx} {W : WX} {ρ : List Slot} {a b c e o : Expr} {ma mb mc : M D} {pos : Pos}
theorem et_lt (ha : ED X W ρ a ma) (hb : ED X W ρ b mb) : ET X W ρ (.Compare a [.Lt] [b] pos) (tst (bin dLt ma mb)) := et_cmp op_lt opd_cmp ha hb
theorem et_gt (ha : ED X W ρ a ma) (hb : ED X W ρ b mb) : ET X W ρ (.Compare a [.Gt] [b] pos) (tst (bin dGt ma mb)) := et_cmp op_gt opd_cmp ha hb
theorem et_ge (ha : ED X W ρ a ma) (hb : ED X W ρ b mb) : ET X W ρ (.Compare a [.GtE] [b] pos) (tst (bin dGe ma mb)) := et_cmp op_ge opd_cmp ha hb
theorem et_eq {k : Nat} (hr : Room k X.A) (ha : ED X W ρ a ma) (hb : ED X W ρ b mb) : ET X W ρ (.Compare a [.Eq] [b] pos) (tst (bin dEq ma mb)) := et_cmp (op_eqD hr.units) opd_eq ha hb
theorem et_ne {k : Nat} (hr : Room k X.A) (ha : ED X W ρ a ma) (hb : ED X W ρ b mb) : ET X W ρ (.Compare a [.NotEq] [b] pos) (tst (bin dNe ma mb)) := et_cmp (op_neD hr.units) opd_ne ha hb
end
/-! ### the law -/
def rLst (K : PySem.W.Frag) : List V → Hp → VK → Prop := fun xs H Q => ∃ p ys, xs = [.ref p] ∧ (SqL K H p ys ∨ SqT K H p ys) ∧ ∀ l, H l = none → Q (.ref l) (upd H l (.lst ys))
def spL (K : PySem.W.Frag) : Sp := fun vs H Q _ => ∃ (a : Addr) (ns : List Int), vs = [.ref a] ∧ SqL K H a (ns.map V.int) ∧ ns.length ≤ 63 ∧ ∀ H', Q (.bl true) H'
def S0 (ns : List Int) : MS := ⟨[], ⟨ns, 0, 0, 0⟩⟩
/-- an own class of errors in an except clause that names it -/
theorem exm_self {K : PySem.W.Frag} {C : Addr} {cls : Value} {b : Bool} (hs : PySem.W.subIn K (.ref C) (.type "BaseException") = some true) (hd : PySem.W.hasDictIn K C = true) (hy : PySem.W.typeIn K (.ref C) = some (.type "type")) (h4 : PySem.W.subIn K cls (.ref C) = some b) : PySem.W.exmOne K cls (.ref C) = some b := by
  have hc : (PySem.W.clsIn K C).isSome = true := by
    unfold PySem.W.hasDictIn at hd
    cases e : PySem.W.clsIn K C with
    | none => rw [e] at hd; exact hd
    | some c => rfl
  unfold PySem.W.exmOne
  rw [hs, if_pos (by rfl)]
  unfold PySem.W.kitCls
  simp only [hc, hy]
  exact h4
end Dl
/-! what a computation over plain data comes to: no program in sight -/
namespace Dl
open PySem L2
@[irreducible] def Wp {α : Type} (m : M α) (S : MS) (Q : α → MS → Prop) (E : Err → MS → Prop) : Prop := match m S with
  | .ok a S' => Q a S'
  | .err e S' => E e S'
  | .bad => False
abbrev NoE : Err → MS → Prop := fun _ _ => False
section
variable {α β : Type} {S : MS} {Q : α → MS → Prop} {E : Err → MS → Prop}
@[simp] theorem wp_pure {a : α} : Wp (M.pure a) S Q E ↔ Q a S := by unfold Wp; exact .rfl
@[simp] theorem wp_raise {e : Err} : Wp (M.raise e : M α) S Q E ↔ E e S := by unfold Wp; exact .rfl
@[simp] theorem wp_bad : Wp (M.bad : M α) S Q E ↔ False := by unfold Wp; exact .rfl
@[simp] theorem wp_bind {m : M β} {f : β → M α} : Wp (m.bind f) S Q E ↔ Wp m S (fun b S' => Wp (f b) S' Q E) E := by
  unfold Wp M.bind
  cases m S <;> exact .rfl
theorem Wp.mono {m : M α} {Q' : α → MS → Prop} {E' : Err → MS → Prop} (h : Wp m S Q E) (hq : ∀ a S', Q a S' → Q' a S') (he : ∀ e S', E e S' → E' e S') : Wp m S Q' E' := by
  unfold Wp at *
  revert h
  cases m S with
  | ok a S' => exact hq a S'
  | err e S' => exact he e S'
  | bad => exact id
theorem Wp.to {m : M α} {Q' : α → MS → Prop} {E' : Err → MS → Prop} (h : Wp m S Q NoE) (hq : ∀ a S', Q a S' → Q' a S') : Wp m S Q' E' := h.mono hq fun _ _ h => h.elim
theorem Wp.ok {m : M α} (h : Wp m S Q NoE) : ∃ a S', m S = .ok a S' ∧ Q a S' := by
  unfold Wp at h
  cases e : m S with
  | ok a S' => rw [e] at h; exact ⟨a, S', rfl, h⟩
  | err x S' => rw [e] at h; exact h.elim
  | bad => rw [e] at h; exact h.elim
@[simp] theorem wp_calm {m : M α} : Wp (calmM m) S Q E ↔ Wp m S Q NoE := by
  unfold Wp calmM
  cases m S <;> exact .rfl
@[simp] theorem wp_ite {b : Prop} [Decidable b] {m n : M α} : Wp (if b then m else n) S Q E ↔ if b then Wp m S Q E else Wp n S Q E := by
  by_cases h : b
  · rw [if_pos h, if_pos h]
  · rw [if_neg h, if_neg h]
end
/-! ### the stream -/
/-- from this stream n more numbers may be drawn -/
structure Bud (s : Strm) (n : Nat) : Prop where
  m0 : 0 ≤ s.mix
  m1 : s.mix < 2147483647
  c0 : 0 ≤ s.cnt
  c1 : s.cnt + n ≤ 8388607
  r0 : 0 ≤ s.cur
theorem Bud.le {s : Strm} {n m : Nat} (h : Bud s n) (l : m ≤ n) : Bud s m := ⟨h.m0, h.m1, h.c0, by have := h.c1; omega, h.r0⟩
theorem Bud.start (ns : List Int) : Bud (S0 ns).st 8388607 := ⟨by show (0 : Int) ≤ 0; omega, by show (0 : Int) < _; omega, by show (0 : Int) ≤ 0; omega, by show (0 : Int) + _ ≤ _; omega, by show (0 : Int) ≤ 0; omega⟩
theorem bud_next {s : Strm} {n : Nat} {k : Int} (h : Bud s (n + 1)) (hk : 0 < k) : s.good = true ∧ 0 ≤ s.take k ∧ s.take k < k ∧ Bud (s.next k) n := by
  obtain ⟨m0, m1, c0, c1, r0⟩ := h
  have f := fill_mix s.xs s.cur s.mix m0 m1
  have g := fill_cur s.xs s.cur s.mix r0
  refine ⟨?_, ?_, ?_, ?_⟩
  · unfold Strm.good
    simp only [decide_eq_true_eq, Bool.and_eq_true]
    exact ⟨⟨⟨⟨m0, m1⟩, c0⟩, by omega⟩, r0⟩
  · unfold Strm.take
    split
    · exact Int.emod_nonneg _ (by omega)
    · exact Int.emod_nonneg _ (by omega)
  · unfold Strm.take
    split
    · exact Int.emod_lt_of_pos _ hk
    · exact Int.emod_lt_of_pos _ hk
  · unfold Strm.next
    split
    · exact ⟨f.1, f.2, c0, by show s.cnt + _ ≤ _; omega, Int.ediv_nonneg g (by omega)⟩
    · exact ⟨f.1, f.2, by show 0 ≤ s.cnt + 1; omega, by show s.cnt + 1 + _ ≤ _; omega, g⟩
/-! ### loops -/
end Dl
namespace Dl
open PySem L2
section
variable {α β C L J : Type} {S : MS} {Q : α → MS → Prop} {E : Err → MS → Prop} {Qd : D → MS → Prop} {Ql : List D → MS → Prop} {Qb : Bool → MS → Prop}
@[simp] theorem wp_bin {f : D → D → M D} {a b : M D} : Wp (bin f a b) S Qd E ↔ Wp a S (fun x S1 => Wp b S1 (fun y S2 => Wp (f x y) S2 Qd E) E) E := by
  unfold bin; rw [wp_bind]; simp only [wp_bind]
@[simp] theorem wp_una {f : D → M D} {a : M D} : Wp (una f a) S Qd E ↔ Wp a S (fun x S1 => Wp (f x) S1 Qd E) E := by unfold una; rw [wp_bind]
@[simp] theorem wp_args0 : Wp (argsM []) S Ql E ↔ Ql [] S := by unfold Wp; exact .rfl
@[simp] theorem wp_args1 {m : M D} {ms : List (M D)} : Wp (argsM (m :: ms)) S Ql E ↔ Wp m S (fun d S1 => Wp (argsM ms) S1 (fun ds S2 => Ql (d :: ds) S2) E) E := by
  rw [argsM, wp_bind]; simp only [wp_bind, wp_pure]
@[simp] theorem wp_call {f : List D → M D} {ms : List (M D)} : Wp (callM f ms) S Qd E ↔ Wp (argsM ms) S (fun ds S1 => Wp (f ds) S1 Qd E) E := by unfold callM; rw [wp_bind]
@[simp] theorem wp_guard {b : Bool} {m : M D} : Wp (guard b m) S Qd E ↔ b = true ∧ Wp m S Qd E := by
  unfold guard
  cases b with
  | true => rw [if_pos rfl]; exact ⟨fun h => ⟨rfl, h⟩, fun h => h.2⟩
  | false => rw [if_neg (by decide), wp_bad]; exact ⟨fun h => h.elim, fun h => nomatch h.1⟩
@[simp] theorem wp_gd {b : Bool} {m : M α} : Wp (gd b m) S Q E ↔ b = true ∧ Wp m S Q E := by
  unfold gd
  cases b with
  | true => rw [if_pos rfl]; exact ⟨fun h => ⟨rfl, h⟩, fun h => h.2⟩
  | false => rw [if_neg (by decide), wp_bad]; exact ⟨fun h => h.elim, fun h => nomatch h.1⟩
@[simp] theorem wp_tup {ms : List (M D)} : Wp (tupM ms) S Qd E ↔ Wp (argsM ms) S (fun ds S1 => szOk ds.length = true ∧ Qd (.tup ds) S1) E := by
  unfold tupM; rw [wp_bind]; simp only [wp_guard, wp_pure]
@[simp] theorem wp_lst {ms : List (M D)} : Wp (lstM ms) S Ql E ↔ Wp (argsM ms) S (fun ds S1 => szOk ds.length = true ∧ Ql ds S1) E := by
  unfold lstM; rw [wp_bind]
  have : ∀ ds : List D, (if szOk ds.length = true then M.pure ds else M.bad : M (List D)) = gd (szOk ds.length) (M.pure ds) := fun _ => rfl
  simp only [this, wp_gd, wp_pure]
@[simp] theorem wp_frz {m : M (List D)} : Wp (frz m) S Qd E ↔ Wp m S (fun ds S1 => Qd (.lst ds) S1) E := by unfold frz; rw [wp_bind]; simp only [wp_pure]
@[simp] theorem wp_tst {m : M D} : Wp (tst m) S Qb E ↔ Wp m S (fun d S1 => Wp (asB d) S1 Qb E) E := by unfold tst; rw [wp_bind]
@[simp] theorem wp_asB {b : Bool} : Wp (asB (.bl b)) S Qb E ↔ Qb b S := by unfold Wp; exact .rfl
@[simp] theorem wp_ofB {m : M Bool} : Wp (ofB m) S Qd E ↔ Wp m S (fun b S1 => Qd (.bl b) S1) E := by unfold ofB; rw [wp_bind]; simp only [wp_pure]
@[simp] theorem wp_andT {a b : M Bool} : Wp (andT a b) S Qb E ↔ Wp a S (fun x S1 => if x = true then Wp b S1 Qb E else Qb false S1) E := by unfold andT; rw [wp_bind]; simp only [wp_ite, wp_pure]
@[simp] theorem wp_orT {a b : M Bool} : Wp (orT a b) S Qb E ↔ Wp a S (fun x S1 => if x = true then Qb true S1 else Wp b S1 Qb E) E := by unfold orT; rw [wp_bind]; simp only [wp_ite, wp_pure]
@[simp] theorem wp_notT {a : M Bool} : Wp (notT a) S Qb E ↔ Wp a S (fun x S1 => Qb (!x) S1) E := by unfold notT; rw [wp_bind]; simp only [wp_pure]
@[simp] theorem wp_ifM {t : M Bool} {a b : M α} : Wp (ifM t a b) S Q E ↔ Wp t S (fun x S1 => if x = true then Wp a S1 Q E else Wp b S1 Q E) E := by unfold ifM; rw [wp_bind]; simp only [wp_ite]
@[simp] theorem wp_andV {a b : M D} : Wp (andV a b) S Qd E ↔ Wp a S (fun x S1 => Wp (asB x) S1 (fun c S2 => if c = true then Wp b S2 Qd E else Qd (.bl false) S2) E) E := by unfold andV; rw [wp_bind]; simp only [wp_bind, wp_ite, wp_pure]
@[simp] theorem wp_orV {a b : M D} : Wp (orV a b) S Qd E ↔ Wp a S (fun x S1 => Wp (asB x) S1 (fun c S2 => if c = true then Qd (.bl true) S2 else Wp b S2 Qd E) E) E := by unfold orV; rw [wp_bind]; simp only [wp_bind, wp_ite, wp_pure]
@[simp] theorem wp_notV {a : M D} : Wp (notV a) S Qd E ↔ Wp a S (fun x S1 => Wp (asB x) S1 (fun c S2 => Qd (.bl (!c)) S2) E) E := by unfold notV; rw [wp_bind]; simp only [wp_bind, wp_pure]
@[simp] theorem wp_ret {m : M D} {Qf : Fl C L → MS → Prop} : Wp (retM m : M (Fl C L)) S Qf E ↔ Wp m S (fun d S1 => Qf (.ret d) S1) E := by unfold retM; rw [wp_bind]; simp only [wp_pure]
def Fl.goOut {C L : Type} (Q : Fl C L → MS → Prop) : Fl Empty L → MS → Prop
  | .ret d, S => Q (.ret d) S
  | .brk l, S => Q (.brk l) S
  | .cnt l, S => Q (.cnt l) S
  | .nx c, _ => c.elim
@[simp] theorem goOut_ret {d : D} {Qf : Fl C L → MS → Prop} : Fl.goOut Qf (.ret d) S ↔ Qf (.ret d) S := .rfl
@[simp] theorem goOut_brk {d : L} {Qf : Fl C L → MS → Prop} : Fl.goOut Qf (.brk d) S ↔ Qf (.brk d) S := .rfl
@[simp] theorem goOut_cnt {d : L} {Qf : Fl C L → MS → Prop} : Fl.goOut Qf (.cnt d) S ↔ Qf (.cnt d) S := .rfl
@[simp] theorem wp_out {m : M (Fl Empty L)} {Qf : Fl C L → MS → Prop} : Wp (outM m : M (Fl C L)) S Qf E ↔ Wp m S (Fl.goOut Qf) E := by
  unfold outM
  rw [wp_bind]
  constructor
  · intro h; refine h.mono (fun z S' q => ?_) (fun _ _ h => h)
    cases z with
    | nx c => exact c.elim
    | _ => unfold Wp at *; exact q
  · intro h; refine h.mono (fun z S' q => ?_) (fun _ _ h => h)
    cases z with
    | nx c => exact c.elim
    | _ => unfold Wp at *; exact q
def Fl.goThen {J C L : Type} (E : Err → MS → Prop) (f : J → M (Fl C L)) (Q : Fl C L → MS → Prop) : Fl J L → MS → Prop
  | .nx c, S => Wp (f c) S Q E
  | .ret d, S => Q (.ret d) S
  | .brk l, S => Q (.brk l) S
  | .cnt l, S => Q (.cnt l) S
@[simp] theorem goThen_nx {f : J → M (Fl C L)} {c : J} {Qf : Fl C L → MS → Prop} : Fl.goThen E f Qf (.nx c) S ↔ Wp (f c) S Qf E := .rfl
@[simp] theorem goThen_ret {f : J → M (Fl C L)} {d : D} {Qf : Fl C L → MS → Prop} : Fl.goThen E f Qf (.ret d) S ↔ Qf (.ret d) S := .rfl
@[simp] theorem goThen_brk {f : J → M (Fl C L)} {d : L} {Qf : Fl C L → MS → Prop} : Fl.goThen E f Qf (.brk d) S ↔ Qf (.brk d) S := .rfl
@[simp] theorem goThen_cnt {f : J → M (Fl C L)} {d : L} {Qf : Fl C L → MS → Prop} : Fl.goThen E f Qf (.cnt d) S ↔ Qf (.cnt d) S := .rfl
@[simp] theorem wp_then {m : M (Fl J L)} {f : J → M (Fl C L)} {Qf : Fl C L → MS → Prop} : Wp (thenM m f) S Qf E ↔ Wp m S (Fl.goThen E f Qf) E := by
  unfold thenM
  rw [wp_bind]
  constructor
  · intro h; refine h.mono (fun z S' q => ?_) (fun _ _ h => h)
    cases z <;> first | exact q | (unfold Wp at *; exact q)
  · intro h; refine h.mono (fun z S' q => ?_) (fun _ _ h => h)
    cases z <;> first | exact q | (unfold Wp at *; exact q)
def Fl.goFin (Q : D → MS → Prop) : Fl Unit Empty → MS → Prop
  | .nx _, S => Q .non S
  | .ret d, S => Q d S
  | .brk l, _ => l.elim
  | .cnt l, _ => l.elim
@[simp] theorem goFin_nx : Fl.goFin Qd (.nx ()) S ↔ Qd .non S := .rfl
@[simp] theorem goFin_ret {d : D} : Fl.goFin Qd (.ret d) S ↔ Qd d S := .rfl
@[simp] theorem wp_fin {m : M (Fl Unit Empty)} : Wp (finM m) S Qd E ↔ Wp m S (Fl.goFin Qd) E := by
  unfold finM
  rw [wp_bind]
  constructor
  · intro h; refine h.mono (fun z S' q => ?_) (fun _ _ h => h)
    cases z with
    | brk l => exact l.elim
    | cnt l => exact l.elim
    | _ => unfold Wp at *; exact q
  · intro h; refine h.mono (fun z S' q => ?_) (fun _ _ h => h)
    cases z with
    | brk l => exact l.elim
    | cnt l => exact l.elim
    | _ => unfold Wp at *; exact q
def Fl.goFinN (Q : List D → MS → Prop) : Fl Unit Empty → MS → Prop
  | .ret (.lst ds), S => Q ds S
  | _, _ => False
@[simp] theorem goFinN_ret {ds : List D} : Fl.goFinN Ql (.ret (.lst ds)) S ↔ Ql ds S := .rfl
@[simp] theorem wp_finN {m : M (Fl Unit Empty)} : Wp (finN m) S Ql E ↔ Wp m S (Fl.goFinN Ql) E := by
  unfold finN
  rw [wp_bind]
  constructor
  · intro h; refine h.mono (fun z S' q => ?_) (fun _ _ h => h)
    cases z with
    | ret d => cases d <;> unfold Wp at * <;> exact q
    | _ => unfold Wp at *; exact q
  · intro h; refine h.mono (fun z S' q => ?_) (fun _ _ h => h)
    cases z with
    | ret d => cases d <;> unfold Wp at * <;> exact q
    | _ => unfold Wp at *; exact q
@[simp] theorem wp_ar1 {f : D → M D} {a : D} : Wp (ar1 f [a]) S Qd E ↔ Wp (f a) S Qd E := by unfold Wp; exact .rfl
@[simp] theorem wp_ar2 {f : D → D → M D} {a b : D} : Wp (ar2 f [a, b]) S Qd E ↔ Wp (f a b) S Qd E := by unfold Wp; exact .rfl
@[simp] theorem wp_ar3 {f : D → D → D → M D} {a b c : D} : Wp (ar3 f [a, b, c]) S Qd E ↔ Wp (f a b c) S Qd E := by unfold Wp; exact .rfl
@[simp] theorem wp_ar4 {f : D → D → D → D → M D} {a b c d : D} : Wp (ar4 f [a, b, c, d]) S Qd E ↔ Wp (f a b c d) S Qd E := by unfold Wp; exact .rfl
@[simp] theorem wp_ar5 {f : D → D → D → D → D → M D} {a b c d e : D} : Wp (ar5 f [a, b, c, d, e]) S Qd E ↔ Wp (f a b c d e) S Qd E := by unfold Wp; exact .rfl
@[simp] theorem wp_ar1N {f : D → M (List D)} {a : D} : Wp (ar1N f [a]) S Ql E ↔ Wp (f a) S Ql E := by unfold Wp; exact .rfl
@[simp] theorem wp_ar2N {f : D → D → M (List D)} {a b : D} : Wp (ar2N f [a, b]) S Ql E ↔ Wp (f a b) S Ql E := by unfold Wp; exact .rfl
@[simp] theorem wp_meth {cn mn : Str} {g : List D → M D} {mo : M D} {ms : List (M D)} : Wp (methM cn mn g mo ms) S Qd E ↔ Wp mo S (fun o S1 => Wp (isA cn mn o) S1 (fun _ S2 => Wp (argsM ms) S2 (fun ds S3 => Wp (g (o :: ds)) S3 Qd E) E) E) E := by
  unfold methM; rw [wp_bind]; simp only [wp_bind]
@[simp] theorem wp_un2 {f : D → D → M α} {a b : D} : Wp (un2 f (.tup [a, b])) S Q E ↔ Wp (f a b) S Q E := by unfold Wp; exact .rfl
@[simp] theorem wp_un3 {f : D → D → D → M α} {a b c : D} : Wp (un3 f (.tup [a, b, c])) S Q E ↔ Wp (f a b c) S Q E := by unfold Wp; exact .rfl
@[simp] theorem wp_mapL {mi : M (List D)} {f : D → M D} : Wp (mapL mi f) S Ql E ↔ Wp mi S (fun ds S1 => szOk ds.length = true ∧ Wp (mapC f ds) S1 Ql E) E := by unfold mapL; rw [wp_bind]; simp only [wp_gd]
@[simp] theorem wp_filL {mi : M (List D)} {t : D → M Bool} {f : D → M D} : Wp (filL mi t f) S Ql E ↔ Wp mi S (fun ds S1 => szOk ds.length = true ∧ Wp (filC t f ds) S1 Ql E) E := by unfold filL; rw [wp_bind]; simp only [wp_gd]
@[simp] theorem wp_filC0 {t : D → M Bool} {f : D → M D} : Wp (filC t f []) S Ql E ↔ Ql [] S := by unfold Wp; exact .rfl
@[simp] theorem wp_filC1 {t : D → M Bool} {f : D → M D} {d : D} {ds : List D} : Wp (filC t f (d :: ds)) S Ql E ↔ Wp (t d) S (fun b S1 => if b = true then Wp (f d) S1 (fun x S2 => Wp (filC t f ds) S2 (fun r S3 => Ql (x :: r) S3) E) NoE else Wp (filC t f ds) S1 Ql E) NoE := by
  rw [filC, wp_bind, wp_calm]; simp only [wp_ite, wp_bind, wp_calm, wp_pure]
/-! the operations on whole numbers -/
@[simp] theorem add_int {i j : Int} : dAdd (.int i) (.int j) = M.pure (.int (i + j)) := rfl
@[simp] theorem add_lst {xs ys : List D} : dAdd (.lst xs) (.lst ys) = guard (szOk (xs.length + ys.length)) (M.pure (.lst (xs ++ ys))) := rfl
@[simp] theorem sub_int {i j : Int} : dSub (.int i) (.int j) = M.pure (.int (i - j)) := rfl
@[simp] theorem pow_int {i j : Int} : dPow (.int i) (.int j) = guard (decide (0 ≤ j) && decide (j ≤ 1000000) && decide (i.natAbs < 2 ^ 64)) (M.pure (.int (i ^ j.toNat))) := rfl
@[simp] theorem neg_int {i : Int} : dNeg (.int i) = M.pure (.int (-i)) := rfl
@[simp] theorem lt_int {i j : Int} : dLt (.int i) (.int j) = M.pure (.bl (decide (i < j))) := rfl
@[simp] theorem gt_int {i j : Int} : dGt (.int i) (.int j) = M.pure (.bl (decide (i > j))) := rfl
@[simp] theorem le_int {i j : Int} : dLe (.int i) (.int j) = M.pure (.bl (decide (i ≤ j))) := rfl
@[simp] theorem ge_int {i j : Int} : dGe (.int i) (.int j) = M.pure (.bl (decide (i ≥ j))) := rfl
@[simp] theorem isn_non : dIsN .non = M.pure (.bl true) := rfl
@[simp] theorem isn_int {i : Int} : dIsN (.int i) = M.pure (.bl false) := rfl
@[simp] theorem isn_lst {i : List D} : dIsN (.lst i) = M.pure (.bl false) := rfl
@[simp] theorem isn_tup {i : List D} : dIsN (.tup i) = M.pure (.bl false) := rfl
@[simp] theorem isn_ptr {i : Nat} : dIsN (.ptr i) = M.pure (.bl false) := rfl
@[simp] theorem isb_bl {b c : Bool} : dIsB b (.bl c) = M.pure (.bl (c == b)) := by cases b <;> cases c <;> rfl
@[simp] theorem isi_non {ts : List Ty} : dIsi ts .non = M.pure (.bl (ts.any Ty.non.sub)) := rfl
@[simp] theorem isi_bl {ts : List Ty} {b : Bool} : dIsi ts (.bl b) = M.pure (.bl (ts.any Ty.bool.sub)) := rfl
@[simp] theorem isi_int {ts : List Ty} {b : Int} : dIsi ts (.int b) = M.pure (.bl (ts.any Ty.int.sub)) := rfl
@[simp] theorem isi_str {ts : List Ty} {b : Str} : dIsi ts (.str b) = M.pure (.bl (ts.any Ty.str.sub)) := rfl
@[simp] theorem isi_lst {ts : List Ty} {b : List D} : dIsi ts (.lst b) = M.pure (.bl (ts.any Ty.list.sub)) := rfl
@[simp] theorem isi_tup {ts : List Ty} {b : List D} : dIsi ts (.tup b) = M.pure (.bl (ts.any Ty.tuple.sub)) := rfl
@[simp] theorem eq_int {i j : Int} : dEq (.int i) (.int j) = M.pure (.bl (i == j)) := rfl
@[simp] theorem eq_bl {i j : Bool} : dEq (.bl i) (.bl j) = M.pure (.bl (i == j)) := rfl
@[simp] theorem eq_str {i j : Str} : dEq (.str i) (.str j) = guard ((D.str i).plain && (D.str j).plain) (M.pure (.bl (i == j))) := rfl
@[simp] theorem eq_non : dEq .non .non = M.pure (.bl true) := rfl
@[simp] theorem ne_int {i j : Int} : dNe (.int i) (.int j) = M.pure (.bl (!(i == j))) := rfl
@[simp] theorem ne_bl {i j : Bool} : dNe (.bl i) (.bl j) = M.pure (.bl (!(i == j))) := rfl
@[simp] theorem len_lst {ds : List D} : dLen (.lst ds) = M.pure (.int ds.length) := rfl
@[simp] theorem len_tup {ds : List D} : dLen (.tup ds) = M.pure (.int ds.length) := rfl
@[simp] theorem item_lst {ds : List D} {i : Int} : dItem (.lst ds) (.int i) = ofOpt (atI ds i) := rfl
@[simp] theorem item_tup {ds : List D} {i : Int} : dItem (.tup ds) (.int i) = ofOpt (atI ds i) := rfl
@[simp] theorem wp_opt {o : Option α} : Wp (ofOpt o) S Q E ↔ ∃ a, o = some a ∧ Q a S := by
  cases o with
  | none => rw [ofOpt, wp_bad]; exact ⟨fun h => h.elim, fun ⟨_, e, _⟩ => nomatch e⟩
  | some a => rw [ofOpt, wp_pure]; exact ⟨fun h => ⟨a, rfl, h⟩, fun ⟨_, e, h⟩ => by cases e; exact h⟩
@[simp] theorem items_lst {ds : List D} : items (.lst ds) = M.pure ds := rfl
@[simp] theorem items_tup {ds : List D} : items (.tup ds) = M.pure ds := rfl
@[simp] theorem enum_lst {ds : List D} : enumM (.lst ds) = M.pure (enumD ds) := rfl
@[simp] theorem zip_lst {ds es : List D} : zipM [.lst ds, .lst es] = M.pure (zipD ds es) := rfl
@[simp] theorem zip_tup {ds es : List D} : zipM [.tup ds, .tup es] = M.pure (zipD ds es) := rfl
@[simp] theorem wp_rng1 {j : Int} : Wp (rng1 (.int j)) S Ql E ↔ (-(2 ^ 62) ≤ j ∧ j < 2 ^ 62) ∧ Ql ((List.range j.toNat).map fun (i : Nat) => .int i) S := by
  show Wp (if decide (-(2 ^ 62) ≤ j) && decide (j < 2 ^ 62) then M.pure ((List.range j.toNat).map fun (i : Nat) => D.int i) else M.bad) S Ql E ↔ _
  by_cases h : -(2 ^ 62) ≤ j ∧ j < 2 ^ 62
  · rw [if_pos (by simpa using h), wp_pure]; exact ⟨fun q => ⟨h, q⟩, fun q => q.2⟩
  · rw [if_neg (by simpa using h), wp_bad]; exact ⟨fun q => q.elim, fun q => (h q.1).elim⟩
/-! cells -/
@[simp] theorem seq_lst {ds : List D} : asSeq (.lst ds) = M.pure ds := rfl
@[simp] theorem seq_tup {ds : List D} : asSeq (.tup ds) = M.pure ds := rfl
@[simp] theorem lst_lst {ds : List D} : asLst (.lst ds) = M.pure ds := rfl
@[simp] theorem wp_toList {m : M D} : Wp (toList m) S Ql E ↔ Wp m S (fun d S1 => Wp (asSeq d) S1 Ql E) E := by
  unfold toList; rw [wp_bind]; simp only [wp_bind, wp_pure]
@[simp] theorem wp_box {m : M (List D)} : Wp (boxM m) S Qd E ↔ Wp m S (fun ds S1 => Qd (.ptr S1.cells.length) { S1 with cells := S1.cells ++ [.lst ds] }) E := by
  unfold boxM; rw [wp_bind]; unfold Wp; exact .rfl
@[simp] theorem wp_part0 {Qo : Option Int → MS → Prop} : Wp (partM none) S Qo E ↔ Qo none S := by unfold Wp; exact .rfl
@[simp] theorem wp_cut {m : M D} {lo hi : M (Option Int)} : Wp (cutM m lo hi) S Ql E ↔ Wp m S (fun d S1 => Wp lo S1 (fun l S2 => Wp hi S2 (fun u S3 => Wp (asLst d) S3 (fun ds S4 => Ql (cutD ds l u) S4) E) E) E) E := by
  unfold cutM; rw [wp_bind]; simp only [wp_bind, wp_pure]
end
end Dl
namespace Dl
open PySem L2
/-! ### places and slices -/
theorem atI_nat {α : Type} {xs : List α} {i : Int} (h0 : 0 ≤ i) (h1 : i < xs.length) : ∃ a, atI xs i = some a ∧ a ∈ xs ∧ xs[i.toNat]? = some a := by
  have h2 : i.toNat < xs.length := by omega
  refine ⟨xs[i.toNat], ?_, List.getElem_mem h2, List.getElem?_eq_getElem h2⟩
  unfold atI ixN
  rw [if_pos h0, if_pos h1]
  exact List.getElem?_eq_getElem h2
theorem sIx_some {n d : Nat} {v : Int} (h0 : 0 ≤ v) (h1 : v ≤ n) : HT.sIx n d (some v) = v.toNat := by
  unfold HT.sIx
  simp only
  rw [if_neg (by omega)]; omega
theorem cut_to {xs : List D} {b : Int} (h0 : 0 ≤ b) (h1 : b ≤ xs.length) : cutD xs none (some b) = xs.take b.toNat := by
  unfold cutD
  rw [sIx_some h0 h1, HT.sIx_none]; rfl
theorem cut_from {xs : List D} {a : Int} (h0 : 0 ≤ a) (h1 : a ≤ xs.length) : cutD xs (some a) none = xs.drop a.toNat := by
  unfold cutD
  rw [sIx_some h0 h1, HT.sIx_none, List.take_of_length_le]
  rw [List.length_drop]; omega
theorem szOk_of {n : Nat} (h : n ≤ 16777216) : szOk n = true := decide_eq_true h
/-! ### the law's helpers -/
/-- data of which the law may ask whether they are the same -/
inductive Good : Nat → D → Prop where
  | non {n : Nat} : Good (n + 1) .non
  | bl {n : Nat} (b : Bool) : Good (n + 1) (.bl b)
  | int {n : Nat} (i : Int) : Good (n + 1) (.int i)
  | str {n : Nat} (x : Str) (h : (D.str x).plain = true) : Good (n + 1) (.str x)
  | lst {n : Nat} (ds : List D) (h : ds.length ≤ 16777216) (t : ∀ d ∈ ds, Good n d) : Good (n + 1) (.lst ds)
  | tup {n : Nat} (ds : List D) (h : ds.length ≤ 16777216) (t : ∀ d ∈ ds, Good n d) : Good (n + 1) (.tup ds)
theorem bools_rep : ∀ n : Nat, bools (List.replicate n (.bl true)) = some (List.replicate n true)
  | 0 => rfl
  | n + 1 => by rw [List.replicate_succ, bools, bools_rep n]; rfl
end Dl
/-! comprehensions of which an item may raise -/
namespace Dl
open PySem L2 PySem.Spec PyProof.Rows PySem.HandSPX
/-- what a comprehension's block is to reach; fr: the frame on which its def stands -/
def postX (M : Model) (A : Around) (E : Value → Shared → Prop) (use : Option (Value → Sem Unit)) (Q : Value → Shared → Prop) (acc : Value) (C : Addr) (fr : Option Addr) (r : Result) (s' : Shared) : Prop :=
  match r with
  | .ok f => compPost M A E use Q acc C (.ok f) s'
  | .error x => ∃ m, s'.heap.Ns C m ∧ ∀ h', Heap.SameBut C s'.heap h' → ∀ ce : Env, ce.frame = fr →
      wpAny M A (passOn "comprehension.variables-let-go" x ce : Sem Value) (fun _ _ => False) E { s' with heap := h' }
theorem comp_freeX {M : Model} {A : Around} {E : Value → Shared → Prop} {s : Shared} {env : Env} {e : Expr} {scope : Scope} {pos : Pos} {mk first : Sem Value} {c0 : Comprehension} {cs : List Comprehension} {cl : List (Str × Addr)} {use : Option (Value → Sem Unit)} {Q : Value → Shared → Prop}
    (h1 : clausesOf e = c0 :: cs) (h2 : ∀ x, foldedSetIterable c0.iter env x = pure x) (h3 : closureFor scope env = pure cl) (h4 : scope.kind = .function) (h5 : ∀ x ∈ scope.names, x.2 = .local → scope.names.lookup x.1 = some .local)
    (h : wpAny M A first (fun x s1 => wpAny M A (pyIter x) (fun it s2 => wpAny M A mk (fun acc s3 => wpAny M A (newFunctionEnv scope env.globals cl [] env.qual none .none (some env))
      (fun ce s4 => codeAny M A (.compStart e 0 it acc { ce with scope := relabel scope env }) (postX M A E use Q acc ce.locals ce.frame) s4) E s3) E s2) E s1) E s) :
    wpAny M A (comprehension e scope env pos mk false first use) Q E s := by
  unfold comprehension
  rw [h3, h1]
  refine wpAny_bind (wpAny_mono h (fun x s1 k1 => ?_) fun _ _ z => z)
  refine wpAny_bind (wpAny_standAt (wpAny_bind (wpAny_of_eq (h2 x) (wpAny_bind (wpAny_holding ?_)))))
  refine wpAny_mono k1 (fun it s2 k2 => wpAny_standIf ?_) fun _ _ z => z
  refine wpAny_bind (wpAny_mono k2 (fun acc s3 k3 => ?_) fun _ _ z => z)
  refine wpAny_bind (wpAny_pure (wpAny_bind (wpAny_mono k3 (fun ce s4 k4 => ?_) fun _ _ z => z)))
  dsimp only
  have kd : ∀ (l : List (Str × NameKind)), (∀ x ∈ l, x ∈ scope.names) → ∀ x ∈ l, x.2 = .local → Env.kindOf { ce with scope := relabel scope env } x.1 = some .local := fun l hl x hx e => lookup_relabel_local (h5 x (hl x hx) e)
  have sub : ∀ x ∈ (scope.names.filter fun x => (x.2 == .local || x.2 == .cell) && x.1 != (".0" : Str)).reverse, x ∈ scope.names := fun x hx => (List.mem_filter.mp (List.mem_reverse.mp hx)).1
  refine wpAny_holding (wpAny_bind (wpAny_attempt (wpAny_holding (wpAny_run (codeAny_mono k4 fun r s' hr => ?_)))))
  cases r with
  | ok f =>
    cases use with
    | none =>
      obtain ⟨m, hn, q⟩ := hr
      apply wpAny_bind
      apply wpAny_holding
      exact wpAny_comp_letGo (cenv := { ce with scope := relabel scope env }) h4 _ s' m (kd _ sub) hn fun h' m' _ sb => wpAny_pure (q h' sb)
    | some u =>
      refine wpAny_bind (wpAny_rule (wpAny_bind (wpAny_holding (wpAny_mono hr (fun _ s2 k => ?_) fun _ _ z => z))))
      obtain ⟨m, hn, q⟩ := k
      refine wpAny_bind ?_
      refine wpAny_comp_letGo (cenv := { ce with scope := relabel scope env }) h4 _ s2 m (kd _ fun x hx => ?_) hn fun h' m' _ sb => wpAny_pure (q h' sb)
      rcases List.mem_append.mp hx with y | y
      · exact sub x (List.mem_of_mem_drop y)
      · exact sub x (List.mem_of_mem_take y)
  | error x =>
    obtain ⟨m, hn, q⟩ := hr
    apply wpAny_bind
    apply wpAny_holding
    refine wpAny_comp_letGo (cenv := { ce with scope := relabel scope env }) h4 _ s' m (kd _ sub) hn fun h' m' _ sb => ?_
    exact wpAny_mono (q h' sb _ rfl) (fun _ _ f => f.elim) fun _ _ y => y
/-- an exception that another frame noted is noted here -/
theorem note_other {M : Model} {A : Around} {E : Value → Shared → Prop} {s : Shared} {base : Heap} {env : Env} {outer : List Env} {e L : Addr} {Z : Obj → Prop} {fl : Value} {Q : Unit → Shared → Prop} (hZ : Steady Z) (hfr : A.frames = some (env :: outer)) (hf : env.frame = some L)
    (kb : base.StaysIn s.heap) (en : base.get? e = none) (hl : s.heap.FunFrames base (env :: outer)) (t : TracedZ s.heap base e Z fl)
    (hQ : ∀ k, HeldZ base (env :: outer) e Z L k → s.heap.UpToSlots k → Q () { s with heap := k }) : wpAny M A (noteFrame (.ref e) env) Q E s := by
  cases q : (fl == rawInt L) with
  | true =>
    have z : fl = rawInt L := by simpa using q
    subst z
    exact againZ hf t (hQ s.heap ⟨kb, en, hl, t⟩ (Heap.UpToSlots.refl _))
  | false =>
    obtain ⟨oe, vs, T, oT, ts, he, hz, hd, h1, nT, Te, hT, dT, h3⟩ := t
    unfold noteFrame
    simp only [hf]
    apply wpAny_bind
    refine wpAny_field he hd h1 ?_
    rw [if_pos (by simp)]
    refine wpAny_bind (wpAny_field hT dT h3 ?_)
    rw [if_neg (by rw [q]; exact Bool.false_ne_true)]
    refine wpAny_bind (wpAny_setField hT dT (Array.getElem?_eq_some_iff.mp h3).1 ?_)
    have oth : ∀ b, b ≠ T → (s.heap.update T (Obj.mapFields (·.setIfInBounds 3 Value.none))).get? b = s.heap.get? b := fun b hb => Heap.get?_update_other _ _ (Ne.symm hb)
    have nr : ∀ b o, s.heap.get? b = some o → (∀ vs, o.data ≠ .fields vs) → b ≠ T := fun b o hb hnf z => by
      rw [z, hT] at hb
      cases hb
      exact hnf ts dT
    refine wpAny_entryZ hZ hfr (hl.of_keeps fun b o hb hnf => ⟨o, (oth b (nr b o hb hnf)).trans hb, rfl⟩) hf ((oth e (Ne.symm Te)).trans he) (fun b o hb => ?_) en hd (Array.getElem?_eq_some_iff.mp h1).1 hz fun h' ⟨x1, x2, x3, x4⟩ => ?_
    · exact (oth b fun z => by rw [z, nT] at hb; cases hb).trans (kb b o hb)
    · exact hQ h' ⟨x1, en, x2, x3⟩ fun b o hb hnf => x4 b o ((oth b (nr b o hb hnf)).trans hb) hnf
end Dl
namespace Dl
open PySem L2 PySem.Spec PyProof.Rows PySem.HandSPX
theorem frames_but {h h' b0 b1 : Heap} {C : Addr} (sb : ∀ b, b ≠ C → h'.get? b = h.get? b) (hb : ∀ b, b0.get? b = none → b1.get? b = none) : ∀ {l : List Env}, C ∉ frs l → h.FunFrames b0 l → h'.FunFrames b1 l
  | [], _, _ => trivial
  | env :: l, hn, h => by
    obtain ⟨hk, ⟨L, o, hf, h0, ho, hd⟩, hr⟩ := h
    have hL : L ≠ C := fun z => hn (List.mem_filterMap.mpr ⟨env, List.mem_cons_self, by rw [hf, z]⟩)
    refine ⟨hk, ⟨L, o, hf, hb L h0, (sb L hL).trans ho, hd⟩, frames_but sb hb (fun hm => hn ?_) hr⟩
    obtain ⟨v, hv, q⟩ := List.mem_filterMap.mp hm
    exact List.mem_filterMap.mpr ⟨v, List.mem_cons_of_mem _ hv, q⟩
/-- a comprehension's block that may let an exception out -/
abbrev blkX (X : Cx) (s : Shared) (H : Hp) (scope : Scope) (ce : Env) (fp : List Addr) (xe : Value → Shared → Prop) : Cx := { X.blk s H scope ce fp with xe := xe }
theorem lift_XE {X : Cx} {W : WX} {pins : List (Addr × Obj)} {σ : L2.St} {H3 : Hp} {s3 s' : Shared} {fp : List Addr} {scope : Scope} {cl : List (Str × Addr)} {xe : Value → Shared → Prop} {use : Option (Value → Sem Unit)} {Qf : Value → Shared → Prop} {acc u : Value}
    (tk : Takes X W) (hs : X.stack = X.env :: X.outer) (hf : X.env.frame = some X.env.locals) (I3 : Inv X pins σ H3 s3) (f3 : ∀ b ∈ fp, FpOk X pins H3 b ∧ b < s3.heap.objs.size)
    (x : XE (blkX X s3 H3 scope (compEnvC scope cl s3.heap.objs.size X.env) fp xe) (fun c d _ H => W c d σ H) u s') :
    notedBy (model X.prog X.w) X.A (compEnvC scope cl s3.heap.objs.size X.env) (fun e s' => postX (model X.prog X.w) X.A X.xe use Qf acc s3.heap.objs.size X.env.frame (.error e) s') u s' := by
  obtain ⟨a, B, sI, pins', σ', H', cls, d, rfl, I', nb, up, sky, na, os, ag, w⟩ := x
  have hfr : X.A.frames = some (X.env :: X.outer) := by rw [I3.ok.frames, hs]
  have hCn : s3.heap.objs.size ∉ frs X.stack := fun hm => by
    obtain ⟨_, o, ho, _⟩ := I3.stack.mem hm
    exact Nat.lt_irrefl _ (Heap.lt_size ho)
  have J0 : Inv X pins σ H' sI := I3.call' (ch := fp) I'.os I'.base I'.hok I'.bare fun b hb =>
    let z := (f3 b hb).1
    ⟨z.2.2.2.1, z.2.1, z.2.2.2.2.1, z.2.2.2.2.2⟩
  have nC : H' s3.heap.objs.size = none := I'.free
  obtain ⟨m, ⟨o, es, ep, ho, r⟩, _⟩ := I'.loc
  have ho : sI.heap.get? s3.heap.objs.size = some o := ho
  have hBC : B.get? s3.heap.objs.size = some o := nb _ o ho hCn
  have fin : ∀ h1, HeldZ B (X.env :: X.outer) a (Zc cls d) X.env.locals h1 → s'.heap.UpToSlots h1 → postX (model X.prog X.w) X.A X.xe use Qf acc s3.heap.objs.size X.env.frame (.error (.ref a)) { s' with heap := h1 } := fun h1 hh up1 => by
    refine ⟨m, ⟨o, es, ep, hh.1 _ _ hBC, r⟩, fun h' sb ce' hce => ?_⟩
    generalize hC : s3.heap.objs.size = C at *
    obtain ⟨B', b1, b2⟩ := restrict B fun b => b != C
    obtain ⟨G, g1, g2⟩ := restrict sI.heap fun b => b != C
    have gs : ∀ b u, G.get? b = some u → b ≠ C ∧ sI.heap.get? b = some u := fun b u e => by
      have hb : b ≠ C := fun z => by rw [g2 b (by simp [z])] at e; cases e
      exact ⟨hb, by rw [← g1 b (by simpa using hb)]; exact e⟩
    have bs : ∀ b u, B'.get? b = some u → b ≠ C ∧ B.get? b = some u := fun b u e => by
      have hb : b ≠ C := fun z => by rw [b2 b (by simp [z])] at e; cases e
      exact ⟨hb, by rw [← b1 b (by simpa using hb)]; exact e⟩
    have bn : ∀ b, B.get? b = none → B'.get? b = none := fun b e => by
      cases q : B'.get? b with
      | none => rfl
      | some u => rw [(bs b u q).2] at e; cases e
    obtain ⟨f0, f1, f2, f3', f4, f5⟩ := I3.fpOk (b := C) (Nat.le_of_eq hC) nC
    have J : Inv X pins σ H' { sI with heap := G } := J0.turned (t' := sI.toks) (it := C) (fun b u hb e => by rw [g1 b (by simpa using hb)]; exact e) f0 f1 f3' f4 f5
    obtain ⟨k1, k2, k3, oe, vs, T, oT, ts, he, hz, hd, hv1, hnT, hTe, hT, hdT, ht3⟩ := hh
    have aC : a ≠ C := fun z => by rw [z, hBC] at k2; cases k2
    have TC : T ≠ C := fun z => by rw [z, hBC] at hnT; cases hnT
    have he' : h'.get? a = some oe := (sb.2 a aC).trans he
    have tr : TracedZ h' B' a (Zc cls d) (rawInt X.env.locals) := ⟨oe, vs, T, oT, ts, he', hz, hd, hv1, bn T hnT, hTe, (sb.2 T TC).trans hT, hdT, ht3⟩
    have st : B'.StaysIn h' := fun b u e => (sb.2 b (bs b u e).1).trans (k1 b u (bs b u e).2)
    have fr : h'.FunFrames B' (X.env :: X.outer) := frames_but (C := C) sb.2 bn (by rw [← hs]; exact hCn) k3
    unfold PySem.passOn
    refine wpAny_bind (wpAny_field he' hd hv1 ?_)
    rw [if_neg (by simp)]
    have go : wpAny (model X.prog X.w) X.A (setFlight (.ref a) ce'.frame) (fun _ s4 => wpAny (model X.prog X.w) X.A (throw (.ref a) : Sem Value) (fun _ _ => False) X.xe s4) X.xe { s' with heap := h' } := by
      rw [hce, hf]
      refine setFlight_anyZ st fr tr fun h4 q1 q2 q3 q4 => wpAny_throw (tk _ _ ?_)
      refine ⟨a, B', { sI with heap := G }, pins, σ, H', cls, d, rfl, J, fun b u e hb => ?_, fun b u e nf => ?_, .inr (.inr ?_), na, os, ag, w⟩
      · obtain ⟨hbC, e'⟩ := gs b u e
        rw [b1 b (by simpa using hbC)]
        exact nb b u e' hb
      · obtain ⟨hbC, e'⟩ := gs b u e
        obtain ⟨sl, y⟩ := (up.trans up1) b u e' nf
        obtain ⟨s2, y2⟩ := q4 b { u with slots := sl } ((sb.2 b hbC).trans y) nf
        exact ⟨s2, y2⟩
      · rw [hs]
        exact ⟨q1, bn a k2, q2, q3⟩
    first
      | exact wpAny_bind (wpAny_pure (wpAny_bind go))
      | exact wpAny_bind go
  unfold notedBy
  rw [show noteFrame (.ref a) (compEnvC scope cl s3.heap.objs.size X.env) = noteFrame (.ref a) X.env from rfl]
  have sky : Sky B X.stack a (Zc cls d) s3.heap.objs.size s'.heap := sky
  rw [hs] at sky
  rcases sky with ⟨hB, hn, hl, oe, vs, he, hz, hd, h1⟩ | fl | hh
  · exact look_newZ Zc.steady hfr hl hf he hB hn hd h1 hz fin
  · exact looks_onZ Zc.steady hfr hf fl fin
  · exact note_other Zc.steady hfr hf hh.1 hh.2.1 hh.2.2.1 hh.2.2.2 fin
/-- the walk over a comprehension of which an item may raise: R is what its block is to reach -/
theorem lcX_core {X : Cx} {W : WX} {pins : List (Addr × Obj)} {s : Shared} {σ : L2.St} {H : Hp} {Q : VK} {elt tg iter : Expr} {ifs : List Expr} {scope : Scope} {own : List (Str × Nat)} {pos pos' : Pos} {wi : TI} {g : TG} {tt : WX → TT} {te : WX → TE} {use : Option (Value → Sem Unit)} {Qf : Value → Shared → Prop}
    (tk : Takes X W) (hst : X.stack = X.env :: X.outer) (hfr : X.env.frame = some X.env.locals) (hc : X.calm = true) (hN : X.N.Nodup) (I : Inv X pins σ H s) (hi : PI X tg iter wi) (ok : BlkOk X.N X.env.scope scope own)
    (hg : ∀ (s : Shared) (H : Hp) (C : Addr) (cl : List (Str × Addr)) (fp : List Addr) (xe : Value → Shared → Prop), PG (blkX X s H scope (compEnvC scope cl C X.env) fp xe) tg g)
    (ht : ∀ (s : Shared) (H : Hp) (C : Addr) (cl : List (Str × Addr)) (fp : List Addr) (xe : Value → Shared → Prop) (W' : WX), Takes (blkX X s H scope (compEnvC scope cl C X.env) fp xe) W' → PTs (blkX X s H scope (compEnvC scope cl C X.env) fp xe) ifs (tt W'))
    (he : ∀ (s : Shared) (H : Hp) (C : Addr) (cl : List (Str × Addr)) (fp : List Addr) (xe : Value → Shared → Prop) (W' : WX), Takes (blkX X s H scope (compEnvC scope cl C X.env) fp xe) W' → PE (blkX X s H scope (compEnvC scope cl C X.env) fp xe) elt (te W'))
    (hfs : ∀ x, foldedSetIterable iter X.env x = pure x)
    (h : tLc wi g (tt fun c d _ H => W c d σ H) (te fun c d _ H => W c d σ H) (own.map (·.2)) σ H Q)
    (done : ∀ L C t m K, Inv X pins σ K t → Q (.ref L) K → t.heap.Ns C m → FpOk X pins K C → compPost (model X.prog X.w) X.A X.xe use Qf (.ref L) C (.ok .next) t) :
    wpAny (model X.prog X.w) X.A (comprehension (.ListComp elt [{ target := tg, iter := iter, ifs := ifs, is_async := 0 }] scope pos) scope X.env pos' (newList []) false (eval iter X.env) use) Qf X.xe s := by
  have hfree : ∀ y ∈ scope.names, y.2 = .free → ∃ c, X.env.cells.lookup y.1 = some c := fun y hy e => (ok.free y hy e).elim (fun k => I.ok.has _ (.inl k)) fun k => I.ok.has _ (.inr k)
  refine comp_freeX (use := use) rfl hfs (closure_ok hfree) ok.kind (fun y hy e => by rw [ok.uniq y hy, e]) (thn (hi.run pins s σ H _ I h) fun xv t1 hx => thn hx fun itv t2 h2 => ?_)
  obtain ⟨it, fp, tn, J, H2, ei, I2, T, st2, f2, q⟩ := h2
  subst ei
  refine wpAny_newObj_type (newEnv_comp ?_) (Nat.zero_le sizeLine)
  generalize eD : t2.heap.objs.size = D
  obtain ⟨V, ⟨m0, w0⟩, turn⟩ := q D (I2.hok.fresh (Nat.le_of_eq eD))
  generalize e3 : ({ t2 with heap := t2.heap.push { cls := .type "list", data := .seq ([] : List Value).toArray } } : Shared) = t3
  have I3 : Inv X pins σ (upd H2 D (.lst [])) t3 := by
    rw [← e3]
    refine I2.laid (t' := t2.toks) (fun b o z => Heap.get?_push_of_some _ z) (Nat.le_of_eq eD) ⟨Nat.zero_le _, [], 0, .nil, ?_⟩
    rw [← eD]; exact Heap.get?_push_size _ rfl
  have e3h : t3.heap = t2.heap.push { cls := .type "list", data := .seq ([] : List Value).toArray } := by rw [← e3]
  have f3 : ∀ b ∈ fp, FpOk X pins (upd H2 D (.lst [])) b ∧ b < t3.heap.objs.size := fun b hb => by
    obtain ⟨o, z, _⟩ := T.obj _ _ st2 b hb
    have lt := Heap.lt_size z
    refine ⟨⟨?_, (f2 b hb).2⟩, by rw [e3h, Heap.size_push]; exact Nat.lt_succ_of_lt lt⟩
    rw [upd_ne (by rw [← eD]; exact Nat.ne_of_lt lt)]; exact (f2 b hb).1
  have st3 : tn 0 t3.heap := T.keep _ _ _ st2 fun b _ o z => by rw [e3h]; exact Heap.get?_push_of_some _ z
  generalize eH : upd H2 D (.lst []) = H3 at I3 w0 f3
  -- what the block is to reach, and that an exception gets there
  let R : Result → Shared → Prop := postX (model X.prog X.w) X.A X.xe use Qf (.ref D) t3.heap.objs.size X.env.frame
  let ce : Env := compEnvC scope (cellsFrom (t3.heap.objs.size + 1) scope.names (cloFrom X.env.cells scope.names [])) t3.heap.objs.size X.env
  let xe : Value → Shared → Prop := notedBy (model X.prog X.w) X.A ce fun e s' => R (.error e) s'
  let W' : WX := fun c d _ H => W c d σ H
  have tkb : Takes (blkX X t3 H3 scope ce fp xe) W' := fun u s' x => lift_XE tk hst hfr I3 f3 x
  have I4 : Inv (blkX X t3 H3 scope ce fp xe) [] (wipe σ (own.map (·.2))) H3 { t3 with heap := pushCells (t3.heap.push { cls := .type "dict", data := .dict #[] }) scope.names } := (block_start I3 ok hN f3).wish xe
  have pg := hg t3 H3 t3.heap.objs.size (cellsFrom (t3.heap.objs.size + 1) scope.names (cloFrom X.env.cells scope.names [])) fp xe
  have pt := ht t3 H3 t3.heap.objs.size (cellsFrom (t3.heap.objs.size + 1) scope.names (cloFrom X.env.cells scope.names [])) fp xe W' tkb
  have pe := he t3 H3 t3.heap.objs.size (cellsFrom (t3.heap.objs.size + 1) scope.names (cloFrom X.env.cells scope.names [])) fp xe W' tkb
  show codeAny (model X.prog X.w) X.A (.compStart (.ListComp elt [⟨tg, iter, ifs, 0⟩] scope pos) 0 (.ref it) (.ref D) ce) R { t3 with heap := pushCells (t3.heap.push { cls := .type "dict", data := .dict #[] }) scope.names }
  generalize e4 : ({ t3 with heap := pushCells (t3.heap.push { cls := .type "dict", data := .dict #[] }) scope.names } : Shared) = t4 at I4 ⊢
  have st4 : tn 0 t4.heap := T.keep _ _ _ st3 fun b _ o z => by rw [← e4]; exact pushCells_keeps _ _ _ _ (Heap.get?_push_of_some _ z)
  have still : ∀ {σ' : L2.St} {H' : Hp} {s' : Shared}, Inv (blkX X t3 H3 scope ce fp xe) [] σ' H' s' → (∀ b ∈ fp, H' b = none) → ∀ b ∈ fp, FpOk (blkX X t3 H3 scope ce fp xe) [] H' b := fun {σ' H' s'} I' hn b hb =>
    ⟨hn b hb, (I'.ok.exf b hb).1, I'.ok.exfs b hb, .inl hb, fun x c z => (I'.ok.exf b hb).2 x c z, fun p hp => absurd hp (by show p ∉ ([] : List (Addr × Obj)) ++ []; simp)⟩
  have loop : codeAny (model X.prog X.w) X.A (.compLoop (.ListComp elt [⟨tg, iter, ifs, 0⟩] scope pos) 0 (.ref it) (.ref D) ce) R t4 := by
    refine compLoop_any (fun n s' => ∃ i H', Inv (blkX X t3 H3 scope ce fp xe) [] (wipe σ (own.map (·.2))) H' s' ∧ tn i s'.heap ∧ (∀ b ∈ fp, H' b = none) ∧ V i n H') ?_ m0 ⟨0, H3, I4, st4, fun b hb => (f3 b hb).1.1, w0⟩
    rintro n t5 ⟨i, H5, I5, st5, n5, w5⟩
    rcases turn i n H5 w5 with ⟨halt, qq⟩ | ⟨go, Nx, less, step⟩
    · have td := T.done (blkX X t3 H3 scope ce fp xe) rfl rfl rfl hc i [] t5 _ H5 (fun _ _ => False) I5 (still I5 n5) st5 halt
      refine thnF td fun r t6 ⟨hr, I6⟩ => ?_
      subst hr
      have I7 : Inv X pins σ H5 t6 := I3.call' (ch := fp) I6.os I6.base I6.hok I6.bare fun b hb =>
        let z := (f3 b hb).1
        ⟨z.2.2.2.1, z.2.1, z.2.2.2.2.1, z.2.2.2.2.2⟩
      obtain ⟨m, hn, _⟩ := I6.loc
      exact done D t3.heap.objs.size t6 m H5 I7 qq hn (I3.fpOk (Nat.le_refl _) I6.free)
    · have ti := T.item (blkX X t3 H3 scope ce fp xe) rfl rfl rfl hc i [] t5 _ H5 (fun _ _ => False) I5 (still I5 n5) st5 go
      refine thnF ti fun r t6 ⟨u, hr, h6⟩ => ?_
      subst hr
      refine thnF h6 fun _ t7 ⟨x, H7, I7, r7, y7, st7, n7⟩ => ?_
      have P7 := I7.pinned (still I7 n7) (T.obj _ _ st7)
      refine thn (pg.run _ t7 _ H7 x u _ P7 r7 (step x H7 y7)) fun _ t8 ⟨σ8, H8, I8, hw8, q8⟩ => ?_
      refine thn (pt.run _ t8 σ8 H8 _ I8 q8) fun b t9 ⟨H9, I9, q9⟩ => ?_
      have fin : ∀ {s' : Shared} {H' : Hp}, Inv (blkX X t3 H3 scope ce fp xe) ([] ++ pinsAt fp t7.heap) σ8 H' s' → Nx H' → ∃ m, m < n ∧ ∃ i H', Inv (blkX X t3 H3 scope ce fp xe) [] (wipe σ (own.map (·.2))) H' s' ∧ tn i s'.heap ∧ (∀ b ∈ fp, H' b = none) ∧ V i m H' := fun {s' H'} I' nx => by
        obtain ⟨m', hm, w'⟩ := less H' nx
        have pin' : ∀ b ∈ fp, ∀ o, t7.heap.get? b = some o → s'.heap.get? b = some o ∧ H' b = none := fun b hb o z =>
          let y := I'.pin (b, o) (List.mem_append_right _ (List.mem_append_right _ (mem_pinsAt hb z)))
          ⟨y.1, y.2.1⟩
        refine ⟨m', hm, i + 1, H', (I'.unpinned (pins := [])).weak (by rw [← hw8, wipe_length]) (fun j v z => ?_), T.keep _ _ _ st7 fun b hb o z => (pin' b hb o z).1, fun b hb => ?_, w'⟩
        · rw [← hw8] at z; exact (wipe_some z).1
        · obtain ⟨o, z, _⟩ := T.obj _ _ st7 b hb
          exact (pin' b hb o z).2
      cases b with
      | false =>
        simp only [if_false, Bool.false_eq_true] at q9 ⊢
        exact fin I9 q9
      | true =>
        simp only [if_true] at q9 ⊢
        refine thn (pe.run _ t9 σ8 H9 _ I9 q9) fun z t10 ⟨yv, H10, I10, r10, acc, hD10, hz10, nx⟩ => ?_
        exact app_ok (X := blkX X t3 H3 scope ce fp xe) I10 hD10 hz10 r10 fun t11 I11 => fin I11 nx
  refine codeAny_compStart_list loop ?_
  exact T.self X.A 0 _ _ _ st4 loop
end Dl
namespace Dl
open PySem L2
section
variable {X : Cx} {W : WX} {ρ : List Slot} {tg iter elt : Expr} {ifs : List Expr} {scope : Scope} {own : List (Str × Nat)} {pos : Pos} {mi : M (List D)} {g : TG} {u : D → Option (List D)} {sl : List Slot → List D → List Slot} {is : List Nat} {mt : List D → M Bool} {me : List D → M D}
/-- a comprehension of which a test or an item may raise -/
def lcXM (mi : M (List D)) (u : D → Option (List D)) (mt : List D → M Bool) (me : List D → M D) : M (List D) := mi.bind fun ds => if szOk ds.length = true then compM (fun d => unM u (eltM mt me) d) ds else M.bad
theorem lcX_ok {K : PySem.W.Frag} {mg : Str → Option Value} {vs : List Nat} {σ : L2.St} {H : Hp} {Q : VK} (his : ∀ i ∈ is, i ∈ vs) (ht : TgD K mg g u sl is) (h : tN K mg W ρ (lcXM mi u mt me) σ H Q) :
    tLc (tI K mg W ρ mi) g (fun τ H Q => ∃ us, tG K mg (fun c d _ H => W c d σ H) RB (sl (wipeR ρ vs) us) (mt us) τ H Q) (fun τ H Q => ∃ us, tG K mg (fun c d _ H => W c d σ H) (RD K) (sl (wipeR ρ vs) us) (me us) τ H Q) vs σ H Q := by
  obtain ⟨G0, H0, G, S, si, h⟩ := h
  refine ⟨G0, H0, G, S, si, ?_⟩
  unfold lcXM M.bind at h
  cases e : mi S with
  | err x S1 => rw [e] at h; exact h
  | bad => rw [e] at h; exact h
  | ok ds S1 =>
    rw [e] at h
    by_cases hz : szOk ds.length = true
    case neg =>
      simp only [hz, if_false] at h
      exact h.elim
    simp only [hz, if_true] at h
    have hz' := sz_of hz
    intro J G1 H1 s1 f1 iw Dl hDl
    obtain ⟨Gd, Y, wk, hG, hY⟩ := iw
    let cm : D → M (Option D) := fun d => unM u (eltM mt me) d
    have h : okN K mg W G0 H0 G H σ ρ Q (compM cm ds S1) := h
    let Pv : Nat → Hp → Prop := fun i H' => ∃ G' S' xs acc, SI K mg G0 H0 G' H' σ ρ S' ∧ FR G1 H1 G' H' ∧ H' Dl = some (.lst xs) ∧ xs.length ≤ i ∧ Reps K G' H' xs acc ∧ G'.O Dl ∧ ¬ G'.cell Dl ∧
      okN K mg W G0 H0 G H σ ρ Q (((compM cm (ds.drop i)).bind fun r => M.pure (acc ++ r)) S')
    refine lc_it (g := g) (tt := fun τ H Q => ∃ us, tG K mg (fun c d _ H => W c d σ H) RB (sl (wipeR ρ vs) us) (mt us) τ H Q) (te := fun τ H Q => ∃ us, tG K mg (fun c d _ H => W c d σ H) (RD K) (sl (wipeR ρ vs) us) (me us) τ H Q) (vs := vs) (σ := σ) (H1 := H1) (D := Dl) (Qd := fun H => Q (.ref Dl) H) wk Pv ?_ ?_ ?_ ?_
    · refine ⟨G1.own Dl, S1, [], [], s1.allocO hDl, .allocO hDl, upd_same, Nat.le_refl _, .nil, .inl rfl, fun c => s1.wf.fresh hDl (.inl c), ?_⟩
      rw [List.drop_zero]
      unfold M.bind
      cases q : compM cm ds S1 with
      | ok r S2 => rw [q] at h; exact h
      | err x S2 => rw [q] at h; exact h
      | bad => rw [q] at h; exact h
    · rintro i H' _ ⟨G', S', xs, acc, _, fr, _⟩
      exact hG G' H' fr.lr
    · rintro i x H' H2 hi ⟨G', S', xs, acc, s', fr, hD, hx, tx, hO, hc, h'⟩ y
      obtain ⟨hH, d, hd, rd⟩ := hY i G' H' x H2 hi fr.lr y
      have f2 : FR G' H' G' H2 := by
        rcases hH with e | ⟨p, o, hp, e⟩
        · rw [e]; exact .refl _ _
        · rw [e]; exact .alloc hp
      have s2 : SI K mg G0 H0 G' H2 σ ρ S' := by
        rcases hH with e | ⟨p, o, hp, e⟩
        · rw [e]; exact s'
        · rw [e]; exact s'.alloc hp
      have ed : ds.drop i = d :: ds.drop (i + 1) := by
        obtain ⟨hi', e⟩ := List.getElem?_eq_some_iff.mp hd
        rw [← e]
        exact List.drop_eq_getElem_cons hi'
      rw [ed] at h'
      have ow : ∀ (i : Nat) (ds : List D), ρ[i]? = some (.own ds) → σ[i]? ≠ some (some (V.ref Dl)) := s1.owns hDl
      have h0 : H0 Dl = none := s1.fr.free hDl
      -- the turn
      have bad : cm d S' = .bad → False := fun q => by
        unfold compM M.bind at h'
        simp only [q] at h'
        exact h'.elim
      cases qu : u d with
      | none => exact (bad (by show unM u (eltM mt me) d S' = _; unfold unM; rw [qu]; rfl)).elim
      | some us =>
        have qe : cm d S' = eltM mt me us S' := by
          show unM u (eltM mt me) d S' = _
          unfold unM
          rw [qu]
          rfl
        have err : ∀ {x : Err} {S3 : MS}, eltM mt me us S' = .err x S3 → okN K mg W G0 H0 G H σ ρ Q (.err x S3) := fun {x S3} q => by
          rw [q] at qe
          unfold compM M.bind at h'
          simp only [qe] at h'
          exact h'
        refine ht G0 H0 G' H2 (wipe σ vs) (wipeR ρ vs) S' x d us _ (s2.wipe vs) rd qu fun σ2 si2 hw => ⟨?_, us, G0, H0, G', S', si2, ?_⟩
        · rw [hw vs his]
          exact wipe_idem vs fun _ h => h
        · -- the test
          have hD2 : H2 Dl = some (.lst xs) := f2.keep _ _ hD (.inl hc)
          have fin : ∀ {o : Option D} {S3 : MS}, eltM mt me us S' = .ok o S3 → okN K mg W G0 H0 G H σ ρ Q (((compM cm (ds.drop (i + 1))).bind fun r => M.pure (acc ++ (match o with | some x => x :: r | none => r))) S3) := fun {o S3} q => by
            rw [q] at qe
            have q' := qe
            unfold compM M.bind at h'
            simp only [q'] at h'
            unfold M.bind
            cases q2 : compM cm (ds.drop (i + 1)) S3 with
            | ok r S4 => simp only [q2] at h'; exact h'
            | err a b => simp only [q2] at h'; exact h'
            | bad => simp only [q2] at h'; exact h'
          cases qt : mt us S' with
          | err a b =>
            intro cls da G3 H3 s3 f3 er
            exact err (show eltM mt me us S' = .err a b by unfold eltM M.bind; rw [qt]) cls da G3 H3 (s2.mono f3 s3.wf) (f1.trans (fr.trans (f2.trans f3))) er
          | bad => exact (bad (qe.trans (show eltM mt me us S' = .bad by unfold eltM M.bind; rw [qt]))).elim
          | ok b S3 =>
            intro b' G3 H3 s3 f3 eb
            cases eb
            have hD3 : H3 Dl = some (.lst xs) := f3.keep _ _ hD2 (.inl hc)
            cases b with
            | false =>
              refine ⟨G3, S3, xs, acc, s2.mono f3 s3.wf, fr.trans (f2.trans f3), hD3, by omega, tx.mono (f2.trans f3), (f2.trans f3).oold _ hO, fun c => ?_, ?_⟩
              · rcases f3.cnew _ c with y | y
                · exact hc y
                · rw [hD2] at y; cases y
              · exact fin (o := none) (by unfold eltM M.bind; rw [qt]; rfl)
            | true =>
              refine ⟨us, G0, H0, G3, S3, s3, ?_⟩
              cases qm : me us S3 with
              | err a b =>
                intro cls da G4 H4 s4 f4 er
                exact err (show eltM mt me us S' = .err a b by unfold eltM M.bind; rw [qt]; simp only [if_true]; rw [qm]) cls da G4 H4 (s2.mono (f3.trans f4) s4.wf) (f1.trans (fr.trans (f2.trans (f3.trans f4)))) er
              | bad => exact (bad (qe.trans (show eltM mt me us S' = .bad by unfold eltM M.bind; rw [qt]; simp only [if_true]; rw [qm]))).elim
              | ok y' S4 =>
                intro yv G4 H4 s4 f4 ry
                have f24 := f2.trans (f3.trans f4)
                have hc3 : ¬ G3.cell Dl := fun c => by
                  rcases f3.cnew _ c with y | y
                  · exact hc y
                  · rw [hD2] at y; cases y
                have hD4 : H4 Dl = some (.lst xs) := f4.keep _ _ hD3 (.inl hc3)
                have hc4 : ¬ G4.cell Dl := fun c => by
                  rcases f4.cnew _ c with y | y
                  · exact hc3 y
                  · rw [hD3] at y; cases y
                have hO4 : G4.O Dl := f24.oold _ hO
                have s5 : SI K mg G0 H0 G4 H4 σ ρ S4 := s2.mono (f3.trans f4) s4.wf
                have lr : LR G4 H4 G4 (upd H4 Dl (.lst (xs ++ [yv]))) := .put hD4 (fun z => z) (.inr hO4)
                refine ⟨xs, hD4, by omega, ?_⟩
                refine ⟨G4, S4, xs ++ [yv], acc ++ [y'], s5.putO hD4 (fun z => z) hO4 hc4 h0 ow, (fr.trans f24).putO hDl hD4, upd_same, by rw [List.length_append, List.length_singleton]; omega, ?_, hO4, hc4, ?_⟩
                · exact ((tx.mono f24).append (.cons ry .nil)).lr lr
                · have z := fin (o := some y') (S3 := S4) (by unfold eltM M.bind; rw [qt]; simp only [if_true]; rw [qm]; rfl)
                  simpa only [List.append_assoc, List.singleton_append] using z
    · rintro H' ⟨G', S', xs, acc, s', fr, hD, hx, tx, hO, hc, h'⟩
      rw [List.drop_length] at h'
      have h' : okN K mg W G0 H0 G H σ ρ Q (.ok (acc ++ []) S') := h'
      rw [List.append_nil] at h'
      exact h' Dl xs G' H' s' (f1.trans fr) (f1.free hDl) hD (by omega) hO hc tx
theorem pe_lcX {wi : TI} {tt : WX → TT} {te : WX → TE} (tk : Takes X W) (hN : X.N.Nodup) (ok : BlkOk X.N X.env.scope scope own) (hi : PI X tg iter wi)
    (hg : ∀ (s : Shared) (H : Hp) (C : Addr) (cl : List (Str × Addr)) (fp : List Addr) (xe : Value → Shared → Prop), PG (blkX X s H scope (compEnvC scope cl C X.env) fp xe) tg g)
    (ht : ∀ (s : Shared) (H : Hp) (C : Addr) (cl : List (Str × Addr)) (fp : List Addr) (xe : Value → Shared → Prop) (W' : WX), Takes (blkX X s H scope (compEnvC scope cl C X.env) fp xe) W' → PTs (blkX X s H scope (compEnvC scope cl C X.env) fp xe) ifs (tt W'))
    (he : ∀ (s : Shared) (H : Hp) (C : Addr) (cl : List (Str × Addr)) (fp : List Addr) (xe : Value → Shared → Prop) (W' : WX), Takes (blkX X s H scope (compEnvC scope cl C X.env) fp xe) W' → PE (blkX X s H scope (compEnvC scope cl C X.env) fp xe) elt (te W'))
    (hst : X.stack = X.env :: X.outer) (hfr : X.env.frame = some X.env.locals) (hc : X.calm = true) (hs : ∀ x, foldedSetIterable iter X.env x = pure x) :
    PE X (.ListComp elt [⟨tg, iter, ifs, 0⟩] scope pos) (fun σ H Q => tLc wi g (tt fun c d _ H => W c d σ H) (te fun c d _ H => W c d σ H) (own.map (·.2)) σ H Q) := by
  constructor
  intro pins s σ H Q I h
  rw [eval_ListComp]
  refine lcX_core tk hst hfr hc hN I hi ok hg ht he hs h fun D C t m K J q hn f => ⟨m, hn, fun k sb => ?_⟩
  obtain ⟨c0, c1, _, c3, c4, c5⟩ := f
  exact ⟨.ref D, K, J.turned (t' := t.toks) (fun b o hb e => (sb.2 b hb).trans e) c0 c1 c3 c4 c5, rfl, q⟩
/-- y = [..] on one line -/
theorem ps_setLcX {i : Nat} {y : Str} {py spos : Pos} {wi : TI} {tt : WX → TT} {te : WX → TE} (tk : Takes X W) (hN : X.N.Nodup) (ok : BlkOk X.N X.env.scope scope own) (hi : PI X tg iter wi)
    (hg : ∀ (s : Shared) (H : Hp) (C : Addr) (cl : List (Str × Addr)) (fp : List Addr) (xe : Value → Shared → Prop), PG (blkX X s H scope (compEnvC scope cl C X.env) fp xe) tg g)
    (ht : ∀ (s : Shared) (H : Hp) (C : Addr) (cl : List (Str × Addr)) (fp : List Addr) (xe : Value → Shared → Prop) (W' : WX), Takes (blkX X s H scope (compEnvC scope cl C X.env) fp xe) W' → PTs (blkX X s H scope (compEnvC scope cl C X.env) fp xe) ifs (tt W'))
    (he : ∀ (s : Shared) (H : Hp) (C : Addr) (cl : List (Str × Addr)) (fp : List Addr) (xe : Value → Shared → Prop) (W' : WX), Takes (blkX X s H scope (compEnvC scope cl C X.env) fp xe) W' → PE (blkX X s H scope (compEnvC scope cl C X.env) fp xe) elt (te W'))
    (hy : X.N[i]? = some y) (hyl : X.env.scope.names.lookup y = some .local) (hsw : swapsWith (.ListComp elt [⟨tg, iter, ifs, 0⟩] scope pos) (some (.Name y py)) spos.line X.env = pure true)
    (hst : X.stack = X.env :: X.outer) (hfr : X.env.frame = some X.env.locals) (hc : X.calm = true) (hs : ∀ x, foldedSetIterable iter X.env x = pure x) :
    PS X (.Assign [.Name y py] (.ListComp elt [⟨tg, iter, ifs, 0⟩] scope pos) spos) (fun D σ H => tLc wi g (tt fun c d _ H => W c d σ H) (te fun c d _ H => W c d σ H) (own.map (·.2)) σ H fun v H1 => D.nx (σ.set i (some v)) H1) := by
  constructor
  intro pins s σ H D I h
  rw [exec_Assign_Name_used (hs := hsw)]
  refine wpAny_bind (wpAny_standAt (wpAny_bind (wpAny_bind (thn (lcX_core (use := some (assign (.Name y py) X.env)) (Qf := fun _ t => SP X pins D .next t) tk hst hfr hc hN I hi ok hg ht he hs h ?_) fun _ t q => wpAny_pure (wpAny_pure q)))))
  intro L C t m K J q hn f
  obtain ⟨c0, c1, _, c3, c4, c5⟩ := f
  refine wpAny_assign_Name (store_ok2 (v := V.ref L) J hN hy (.inl hyl) rfl (fun t2 J2 ⟨a, sb, ha⟩ => ?_) (.inr hyl))
  have ne : C ≠ a := ha.elim (fun z => by rw [z]; exact c1) fun z e => c4 y a z e.symm
  exact ⟨m, hn.sameBut sb ne, fun k sk => ⟨_, K, J2.turned (t' := t2.toks) (fun b o hb e => (sk.2 b hb).trans e) c0 c1 c3 c4 c5, q⟩⟩
end
end Dl
/-! targets of any form; comprehensions over them -/
namespace Dl
open PySem L2
/-- a target: the name in slot i, or a tuple of targets -/
inductive Tg where
  | nm (i : Nat) | tp (ts : List Tg)
mutual
def Tg.u : Tg → D → Option (List D)
  | .nm _, d => some [d]
  | .tp ts, .tup ds => Tg.us ts ds
  | .tp _, _ => none
def Tg.us : List Tg → List D → Option (List D)
  | [], [] => some []
  | t :: ts, d :: ds => (t.u d).bind fun a => (Tg.us ts ds).map fun b => a ++ b
  | _, _ => none
end
mutual
def Tg.ix : Tg → List Nat
  | .nm i => [i]
  | .tp ts => Tg.ixs ts
def Tg.ixs : List Tg → List Nat
  | [] => []
  | t :: ts => t.ix ++ Tg.ixs ts
end
mutual
def Tg.g (K : PySem.W.Frag) : Tg → TG
  | .nm i => gName i
  | .tp ts => gTup K ts.length (Tg.gs K ts)
def Tg.gs (K : PySem.W.Frag) : List Tg → TGs
  | [] => gNil
  | t :: ts => gCons (t.g K) (Tg.gs K ts)
end
mutual
theorem Tg.u_len : ∀ (t : Tg) (d : D) (ds : List D), t.u d = some ds → ds.length = t.ix.length
  | .nm i, d, ds, e => by unfold Tg.u at e; cases e; rfl
  | .tp ts, d, ds, e => by
    unfold Tg.u at e
    cases d with
    | tup es => exact Tg.us_len ts es ds e
    | _ => cases e
theorem Tg.us_len : ∀ (ts : List Tg) (es ds : List D), Tg.us ts es = some ds → ds.length = (Tg.ixs ts).length
  | [], es, ds, e => by
    cases es with
    | nil => unfold Tg.us at e; cases e; rfl
    | cons _ _ => unfold Tg.us at e; cases e
  | t :: ts, es, ds, e => by
    cases es with
    | nil => unfold Tg.us at e; cases e
    | cons d es =>
      unfold Tg.us at e
      cases q : t.u d with
      | none => rw [q] at e; cases e
      | some a =>
        cases q2 : Tg.us ts es with
        | none => rw [q, q2] at e; cases e
        | some b =>
          rw [q, q2] at e; cases e
          show (a ++ b).length = (t.ix ++ Tg.ixs ts).length
          rw [List.length_append, List.length_append, Tg.u_len t d a q, Tg.us_len ts es b q2]
end
theorem slN_app : ∀ (is js : List Nat) (ρ : List Slot) (a b : List D), a.length = is.length → slN (is ++ js) ρ (a ++ b) = slN js (slN is ρ a) b
  | [], js, ρ, [], b, _ => rfl
  | [], _, _, _ :: _, _, h => by cases h
  | _ :: _, _, _, [], _, h => by cases h
  | i :: is, js, ρ, d :: a, b, h => slN_app is js (ρ.set i (.val d)) a b (by simpa using h)
theorem us_length : ∀ (ts : List Tg) (es ds : List D), Tg.us ts es = some ds → es.length = ts.length
  | [], es, ds, e => by
    cases es with
    | nil => rfl
    | cons _ _ => unfold Tg.us at e; cases e
  | t :: ts, es, ds, e => by
    cases es with
    | nil => unfold Tg.us at e; cases e
    | cons d es =>
      unfold Tg.us at e
      cases q : t.u d with
      | none => rw [q] at e; cases e
      | some a =>
        cases q2 : Tg.us ts es with
        | none => rw [q, q2] at e; cases e
        | some b => rw [List.length_cons, List.length_cons, us_length ts es b q2]
mutual
theorem tg_ok {K : PySem.W.Frag} {mg : Str → Option Value} : ∀ t : Tg, TgD K mg (t.g K) t.u (slN t.ix) t.ix
  | .nm i => fun G0 H0 G H σ ρ S v d ds Q si r e k => by
    unfold Tg.u at e
    cases e
    unfold Tg.g
    exact k _ (si.set i r) fun vs h => wipe_set (h i List.mem_cons_self)
  | .tp ts => fun G0 H0 G H σ ρ S v d ds Q si r e k => by
    unfold Tg.u at e
    cases r with
    | tup h z t =>
      rename_i a xs es
      have e : Tg.us ts es = some ds := e
      unfold Tg.g
      exact ⟨_, _, rfl, h, t.length.trans (us_length ts es ds e), tgs_ok ts G0 H0 G H σ ρ S _ _ ds Q si t e k⟩
    | _ => cases e
theorem tgs_ok {K : PySem.W.Frag} {mg : Str → Option Value} : ∀ ts : List Tg, TgsD K mg (Tg.gs K ts) (Tg.us ts) (slN (Tg.ixs ts)) (Tg.ixs ts)
  | [] => fun G0 H0 G H σ ρ S v d ds Q si r e k => by
    cases r with
    | nil =>
      unfold Tg.us at e
      cases e
      unfold Tg.gs
      exact ⟨rfl, k _ si fun _ _ => rfl⟩
    | cons _ _ => unfold Tg.us at e; cases e
  | t :: ts => fun G0 H0 G H σ ρ S v d ds Q si r e k => by
    cases r with
    | nil => unfold Tg.us at e; cases e
    | cons r tl =>
      rename_i v0 d0 vs ds'
      unfold Tg.us at e
      cases q : t.u d0 with
      | none => rw [q] at e; cases e
      | some a =>
        cases q2 : Tg.us ts ds' with
        | none => rw [q, q2] at e; cases e
        | some b =>
          rw [q, q2] at e
          cases e
          unfold Tg.gs
          refine ⟨v0, vs, rfl, tg_ok t G0 H0 G H σ ρ S v0 d0 a _ si r q fun σ1 s1 w1 => ?_⟩
          refine tgs_ok ts G0 H0 G H σ1 _ S vs ds' b Q s1 tl q2 fun σ2 s2 w2 => k σ2 ?_ fun us hu => ?_
          · show SI K mg G0 H0 G H σ2 (slN (t.ix ++ Tg.ixs ts) ρ (a ++ b)) S
            rw [slN_app _ _ _ _ _ (Tg.u_len t d0 a q)]
            exact s2
          · exact (w2 us fun i hi => hu i (List.mem_append_right _ hi)).trans (w1 us fun i hi => hu i (List.mem_append_left _ hi))
end
/-- for of any target -/
def on4 {α : Type} (f : D → D → D → D → M α) : List D → M α
  | [a, b, c, d] => f a b c d
  | _ => M.bad
def unT {α : Type} (t : Tg) (f : List D → M α) (d : D) : M α := unM t.u f d
/-! ### comprehensions that may raise -/
def mapXC (f : D → M D) : List D → M (List D)
  | [] => M.pure []
  | d :: ds => (f d).bind fun x => (mapXC f ds).bind fun r => M.pure (x :: r)
def filXC (t : D → M Bool) (f : D → M D) : List D → M (List D)
  | [] => M.pure []
  | d :: ds => (t d).bind fun b => if b = true then (f d).bind fun x => (filXC t f ds).bind fun r => M.pure (x :: r) else filXC t f ds
def mapX (mi : M (List D)) (f : D → M D) : M (List D) := mi.bind fun ds => gd (szOk ds.length) (mapXC f ds)
def filX (mi : M (List D)) (t : D → M Bool) (f : D → M D) : M (List D) := mi.bind fun ds => gd (szOk ds.length) (filXC t f ds)
theorem comp_filX {u : D → Option (List D)} {mt : List D → M Bool} {me : List D → M D} : ∀ ds : List D, compM (fun d => unM u (eltM mt me) d) ds = filXC (unM u mt) (unM u me) ds
  | [] => rfl
  | d :: ds => by
    have ih := comp_filX (u := u) (mt := mt) (me := me) ds
    funext S
    unfold compM filXC
    rw [ih]
    cases q : u d with
    | none =>
      have e1 : unM u (eltM mt me) d = M.bad := by unfold unM; rw [q]; rfl
      have e2 : unM u mt d = M.bad := by unfold unM; rw [q]; rfl
      rw [e1, e2]
      rfl
    | some us =>
      have e1 : unM u (eltM mt me) d = eltM mt me us := by unfold unM; rw [q]; rfl
      have e2 : unM u mt d = mt us := by unfold unM; rw [q]; rfl
      have e3 : unM u me d = me us := by unfold unM; rw [q]; rfl
      rw [e1, e2, e3]
      unfold eltM M.bind
      cases qt : mt us S with
      | err _ _ => simp only [qt]
      | bad => simp only [qt]
      | ok b S1 =>
        cases b with
        | false =>
          simp only [qt, M.pure, Bool.false_eq_true, if_false]
          cases filXC (unM u mt) (unM u me) ds S1 <;> rfl
        | true =>
          simp only [qt, M.pure, if_true]
          cases qm : me us S1 with
          | err _ _ => simp only [qm]
          | bad => simp only [qm]
          | ok x S2 => simp only [qm]
theorem lcX_fil {mi : M (List D)} {u : D → Option (List D)} {mt : List D → M Bool} {me : List D → M D} : lcXM mi u mt me = filX mi (unM u mt) (unM u me) := by
  unfold lcXM filX gd
  congr 1
  funext ds
  rw [comp_filX]
theorem filX_all {u : D → Option (List D)} {f : List D → M D} : ∀ ds : List D, filXC (unM u fun _ => M.pure true) (unM u f) ds = mapXC (unM u f) ds
  | [] => rfl
  | d :: ds => by
    have ih := filX_all (u := u) (f := f) ds
    funext S
    unfold filXC mapXC
    rw [ih]
    cases q : u d with
    | some us =>
      have e : unM u (fun _ => M.pure true) d = M.pure true := by unfold unM; rw [q]; rfl
      rw [e]
      rfl
    | none =>
      have e : unM u (fun _ => M.pure true) d = M.bad := by unfold unM; rw [q]; rfl
      have e' : unM u f d = M.bad := by unfold unM; rw [q]; rfl
      rw [e, e']
      rfl
theorem lcX_map {mi : M (List D)} {u : D → Option (List D)} {me : List D → M D} : lcXM mi u (fun _ => M.pure true) me = mapX mi (unM u me) := by
  rw [lcX_fil]
  unfold filX mapX
  congr 1
  funext ds
  rw [filX_all]
section
variable {X : Cx} {W : WX} {ρ : List Slot} {tg iter elt : Expr} {c : Expr} {scope : Scope} {own : List (Str × Nat)} {pos : Pos} {mi : M (List D)} {mt : List D → M Bool} {me : List D → M D}
/-- the context of the block -/
abbrev BK (X : Cx) (scope : Scope) (P : Cx → Prop) : Prop := ∀ (s : Shared) (H : Hp) (C : Addr) (cl : List (Str × Addr)) (fp : List Addr) (xe : Value → Shared → Prop), P (blkX X s H scope (compEnvC scope cl C X.env) fp xe)
/-- [elt for tg in iter] -/
theorem en_mapX (t : Tg) (tk : Takes X W) (hN : X.N.Nodup) (ok : BlkOk X.N X.env.scope scope own) (hi : ID X W ρ tg iter mi) (his : ∀ i ∈ t.ix, i ∈ own.map (·.2)) (hg : BK X scope fun Y => PG Y tg (t.g Y.K))
    (he : BK X scope fun Y => ∀ W', Takes Y W' → ∀ us, ED Y W' (slN t.ix (wipeR ρ (own.map (·.2))) us) elt (me us))
    (hst : X.stack = X.env :: X.outer := by rfl) (hfr : X.env.frame = some X.env.locals := by rfl) (hc : X.calm = true := by rfl) (hs : ∀ x, foldedSetIterable iter X.env x = pure x := by intro _; rfl) : EN X W ρ (.ListComp elt [⟨tg, iter, [], 0⟩] scope pos) (mapX mi (unT t me)) := by
  have h : EN X W ρ (.ListComp elt [⟨tg, iter, [], 0⟩] scope pos) (lcXM mi t.u (fun _ => M.pure true) me) :=
    PE.imp (pe_lcX (tt := fun W' τ H Q => ∃ us, tG X.K X.mg W' RB (slN t.ix (wipeR ρ (own.map (·.2))) us) (M.pure true) τ H Q) (te := fun W' τ H Q => ∃ us, tG X.K X.mg W' (RD X.K) (slN t.ix (wipeR ρ (own.map (·.2))) us) (me us) τ H Q) tk hN ok hi hg
      (fun s H C cl fp xe W' tk' => ⟨fun pins s' σ H' Q I ⟨us, q⟩ => (etf_nil (us := us)).run pins s' σ H' Q I q⟩) (fun s H C cl fp xe W' tk' => ⟨fun pins s' σ H' Q I ⟨us, q⟩ => (he s H C cl fp xe W' tk' us).run pins s' σ H' Q I q⟩) hst hfr hc hs) fun σ H Q h => lcX_ok his (tg_ok t) h
  rw [lcX_map] at h
  exact h
variable {i : Nat} {y : Str} {py spos : Pos}
/-- y = [elt for tg in iter], y = [elt for tg in iter if c] -/
theorem ps_mapX (t : Tg) (tk : Takes X W) (hN : X.N.Nodup) (ok : BlkOk X.N X.env.scope scope own) (hi : ID X W ρ tg iter mi) (his : ∀ i ∈ t.ix, i ∈ own.map (·.2)) (hg : BK X scope fun Y => PG Y tg (t.g Y.K))
    (he : BK X scope fun Y => ∀ W', Takes Y W' → ∀ us, ED Y W' (slN t.ix (wipeR ρ (own.map (·.2))) us) elt (me us))
    (hy : X.N[i]? = some y) (hyl : X.env.scope.names.lookup y = some .local) (hsw : swapsWith (.ListComp elt [⟨tg, iter, [], 0⟩] scope pos) (some (.Name y py)) spos.line X.env = pure true)
    (hst : X.stack = X.env :: X.outer := by rfl) (hfr : X.env.frame = some X.env.locals := by rfl) (hc : X.calm = true := by rfl) (hs : ∀ x, foldedSetIterable iter X.env x = pure x := by intro _; rfl) : PS X (.Assign [.Name y py] (.ListComp elt [⟨tg, iter, [], 0⟩] scope pos) spos) (fun D σ H => tN X.K X.mg W ρ (mapX mi (unT t me)) σ H fun v H1 => D.nx (σ.set i (some v)) H1) := by
  have h : PS X (.Assign [.Name y py] (.ListComp elt [⟨tg, iter, [], 0⟩] scope pos) spos) (fun D σ H => tN X.K X.mg W ρ (lcXM mi t.u (fun _ => M.pure true) me) σ H fun v H1 => D.nx (σ.set i (some v)) H1) :=
    PS.imp (ps_setLcX (tt := fun W' τ H Q => ∃ us, tG X.K X.mg W' RB (slN t.ix (wipeR ρ (own.map (·.2))) us) (M.pure true) τ H Q) (te := fun W' τ H Q => ∃ us, tG X.K X.mg W' (RD X.K) (slN t.ix (wipeR ρ (own.map (·.2))) us) (me us) τ H Q) tk hN ok hi hg
      (fun s H C cl fp xe W' tk' => ⟨fun pins s' σ H' Q I ⟨us, q⟩ => (etf_nil (us := us)).run pins s' σ H' Q I q⟩) (fun s H C cl fp xe W' tk' => ⟨fun pins s' σ H' Q I ⟨us, q⟩ => (he s H C cl fp xe W' tk' us).run pins s' σ H' Q I q⟩) hy hyl hsw hst hfr hc hs) fun D σ H h => lcX_ok his (tg_ok t) h
  rw [lcX_map] at h
  exact h
end
end Dl
/-! constants of a module; in; isinstance with own classes -/
namespace Dl
open PySem L2
/-! ### in -/
def D.thin : D → Bool
  | .non => true
  | .bl _ => true
  | .int _ => true
  | .str _ => true
  | _ => false
/-! ### isinstance with own classes; of instances -/
/-- what is known of a class whose instances are asked: anc its own classes, itself first -/
structure InsF (K : PySem.W.Frag) (mg : Str → Option Value) (Ts : List Str) (c : Str) (anc : List Str) : Prop where
  ex : ∃ C, mg c = some (.ref C) ∧ Cls K C ∧ PySem.W.findIn K (.ref C) "__class__" = some (some (.builtin "object.__class__")) ∧ PySem.W.specialIn K (.builtin "object.__class__") "__get__" = some (some (.builtin "getset_descriptor.__get__")) ∧
    PySem.W.takesIn K (.builtin "object.__class__") = some true ∧ PySem.W.mroIn K C (.type "object") = some true ∧ (∀ t : Ty, t ≠ .non → PySem.W.kitOne K (.ref C) (.type t.nm) = some false) ∧
    ∀ T ∈ Ts, ∀ CT, mg T = some (.ref CT) → PySem.W.kitOne K (.ref C) (.ref CT) = some (anc.contains T)
def TabF (K : PySem.W.Frag) (mg : Str → Option Value) (Ts : List Str) (tab : List (Str × List Str)) : Prop := ∀ p ∈ tab, InsF K mg Ts p.1 p.2
theorem tab_nil {K : PySem.W.Frag} {mg : Str → Option Value} {Ts : List Str} : TabF K mg Ts [] := fun _ h => absurd h (by simp)
theorem tab_cons {K : PySem.W.Frag} {mg : Str → Option Value} {Ts : List Str} {c : Str} {anc : List Str} {tab : List (Str × List Str)} (h : InsF K mg Ts c anc) (t : TabF K mg Ts tab) : TabF K mg Ts ((c, anc) :: tab) := fun p hp => by
  rcases List.mem_cons.mp hp with y | y
  · rw [y]; exact h
  · exact t p y
/-- isinstance(d, (ts, cs)): ts built-in types, cs own classes -/
def dIsX (tab : List (Str × List Str)) (ts : List Ty) (cs : List Str) (d : D) : M D := fun S => match insOf S d with
  | some (c, _) => match tab.lookup c with
    | some anc => .ok (.bl (cs.any anc.contains)) S
    | none => .bad
  | none => dIsi ts d S
theorem lookup_in {α : Type} {x : Str} {v : α} : ∀ {l : List (Str × α)}, l.lookup x = some v → (x, v) ∈ l
  | [], h => by cases h
  | (y, w) :: l, h => by
    rw [List.lookup_cons] at h
    cases q : x == y with
    | true =>
      rw [q] at h; cases h
      have : x = y := by simpa using q
      rw [this]; exact List.mem_cons_self
    | false => rw [q] at h; exact List.mem_cons_of_mem _ (lookup_in h)
/-- an instance's type, or a built-in's -/
theorem isX_ok {K : PySem.W.Frag} {mg : Str → Option Value} {W : WX} {G0 : Gh} {H0 : Hp} {G : Gh} {H : Hp} {σ : L2.St} {ρ : List Slot} {S : MS} {Q : VK} {Ts : List Str} {tab : List (Str × List Str)} {ts : List Ty} {cs : List Str} {x : V} {d : D} (F : TabF K mg Ts tab) (si : SI K mg G0 H0 G H σ ρ S) (r : Rep K G H x d) (h : okG K mg W (RD K) G0 H0 G H σ ρ Q (dIsX tab ts cs d S)) :
    (∃ u : Ty, TyX K H x (.type u.nm) ∧ Q (.bl (ts.any u.sub)) H) ∨
    ∃ (C : Addr) (anc : List Str), TyX K H x (.ref C) ∧ (∀ t : Ty, t ≠ .non → PySem.W.kitOne K (.ref C) (.type t.nm) = some false) ∧ (∀ T ∈ Ts, ∀ CT, mg T = some (.ref CT) → PySem.W.kitOne K (.ref C) (.ref CT) = some (anc.contains T)) ∧ Q (.bl (cs.any anc.contains)) H := by
  have base : okG K mg W (RD K) G0 H0 G H σ ρ Q (dIsi ts d S) → ∃ u : Ty, TyX K H x (.type u.nm) ∧ Q (.bl (ts.any u.sub)) H := fun h => by
    unfold dIsi at h
    cases q : d.ty? S with
    | none => rw [q] at h; exact h.elim
    | some u =>
      rw [q] at h
      exact ⟨u, tyx_of si.wf r q, okG.here h si (.bl _)⟩
  unfold dIsX at h
  cases q : insOf S d with
  | none => simp only [q] at h; exact .inl (base h)
  | some cc =>
    obtain ⟨c, fs⟩ := cc
    simp only [q] at h
    cases l : tab.lookup c with
    | none => simp only [l] at h; exact h.elim
    | some anc =>
      simp only [l] at h
      obtain ⟨C, m, cl, f1, f2, f3, f4, f5, f6⟩ := (F _ (lookup_in l)).ex
      obtain ⟨a, dx, gs, ev, ha, _⟩ := ins_of si.wf r q m
      subst ev
      exact .inr ⟨C, anc, .base (.ins ha cl f1 f2 f3 f4), f5, f6, okG.here h si (.bl _)⟩
section
variable {X : Cx} {W : WX} {ρ : List Slot} {e : Expr} {ma : M D} {pos p p2 : Pos} {es : List Expr}
/-- isinstance(e, t), t a built-in type; e may be an instance -/
theorem ed_isiX {Ts : List Str} {tab : List (Str × List Str)} {T : Str} {t : Ty} (F : TabF X.K X.mg Ts tab) (hT : TN X T t) (hi : X.mg "isinstance" = none) (ha : ED X W ρ e ma) (hg : Gl X "isinstance" := by rfl)
    (hs : NS1 X (.Name T p2) [] := by rfl) (he : NS1 X e [.Name T p2] := by rfl) (hpl : NS2 X pos [.Name T p2] := by rfl) :
    ED X W ρ (.Call (.Name "isinstance" p) [e, .Name T p2] [] pos) (una (dIsX tab [t] []) ma) := by
  obtain ⟨h1, h2, h3, h4, h5, h6⟩ := hT
  refine PE.imp (pe_callB call_isi hg hi (by decide +kernel) (pa_cons ha (pa_cons (pe_bltn (v := .ty t.nm) h3 h1 h2 rfl h4 h5) pa_nil hs) he) (by decide) (by decide) he hpl) fun σ H Q ⟨G0, H0, G, S, si, h⟩ => ?_
  refine ⟨G0, H0, G, S, si, okG.bind h fun G1 H1 S1 x d s1 f1 r1 h1 => ?_⟩
  rcases isX_ok F s1 r1 h1 with ⟨u, tx, q⟩ | ⟨C, anc, tx, fb, _, q⟩
  · exact ⟨x, .ty t.nm, _, .type t.nm, u.sub t, rfl, .ty _, tx, kit_ty (kit_nm u t h6), by simpa using q⟩
  · exact ⟨x, .ty t.nm, _, .type t.nm, false, rfl, .ty _, tx, fb t h6, q⟩
theorem kitAny_no {K : PySem.W.Frag} {C : Addr} (f : ∀ t : Ty, t ≠ .non → PySem.W.kitOne K (.ref C) (.type t.nm) = some false) : ∀ ts : List Ty, (∀ b ∈ ts, b ≠ .non) → PySem.W.kitAny K (.ref C) (ts.map fun b => .type b.nm) = some false
  | [], _ => rfl
  | b :: ts, h => kitAny_cons (f b (h b List.mem_cons_self)) (fun _ => kitAny_no f ts fun c hc => h c (List.mem_cons_of_mem _ hc)) (fun q => nomatch q)
/-- isinstance(e, (t1, t2, ..)); e may be an instance -/
theorem ed_isiTX {Ts : List Str} {tab : List (Str × List Str)} {ts : List Ty} {kk : Nat} {p3 : Pos} (F : TabF X.K X.mg Ts tab) (hT : TNs X es ts) (hi : X.mg "isinstance" = none) (ha : ED X W ρ e ma) (hg : Gl X "isinstance" := by rfl) (hz : szOk ts.length = true := by rfl)
    (hs : NS1 X (.Tuple es kk p3) [] := by rfl) (he : NS1 X e [.Tuple es kk p3] := by rfl) (hpl : NS2 X pos [.Tuple es kk p3] := by rfl) :
    ED X W ρ (.Call (.Name "isinstance" p) [e, .Tuple es kk p3] [] pos) (una (dIsX tab ts []) ma) := by
  refine PE.imp (pe_callB call_isiT hg hi (by decide +kernel) (pa_cons ha (pa_cons (pe_tup hT.pa) pa_nil hs) he) (by decide) (by decide) he hpl) fun σ H Q ⟨G0, H0, G, S, si, h⟩ => ?_
  refine ⟨G0, H0, G, S, si, okG.bind h fun G1 H1 S1 x d s1 f1 r1 h1 => ⟨by rw [List.length_map]; exact sz_of hz, fun pp hp => ?_⟩⟩
  have fr : FR G1 H1 G1 (upd H1 pp (.tup (ts.map fun t => V.ty t.nm))) := .alloc hp
  have s2 := s1.alloc (o := .tup (ts.map fun t => V.ty t.nm)) hp
  rcases isX_ok F s2 (r1.mono fr) (okG.from h1 fr) with ⟨u, tx, q⟩ | ⟨C, anc, tx, fb, _, q⟩
  · exact ⟨x, pp, _, .type u.nm, _, _, rfl, upd_same, paired_ty ts, tx, kitAny_of u ts hT.no, q⟩
  · exact ⟨x, pp, _, .ref C, _, _, rfl, upd_same, paired_ty ts, tx, kitAny_no fb ts hT.no, q⟩
end
end Dl
/-! properties -/
namespace Dl
open PySem L2
/-- it is an instance of the class c -/
def isIns (c : Str) (d : D) : M Unit := fun S => match insOf S d with
  | some (c', _) => if c' = c then .ok () S else .bad
  | none => .bad
section
variable {X : Cx} {W : WX} {ρ : List Slot} {e : Expr} {mo : M D} {pos : Pos}
theorem isIns_ok {K : PySem.W.Frag} {mg : Str → Option Value} {α β : Type} {R : Gh → Hp → β → α → Prop} {G0 G : Gh} {H0 H : Hp} {σ : L2.St} {S : MS} {Q : β → Hp → Prop} {cn : Str} {CA : Addr} {v : V} {d : D} {f : Unit → M α} (si : SI K mg G0 H0 G H σ ρ S) (r : Rep K G H v d) (T : mg cn = some (.ref CA))
    (h : okG K mg W R G0 H0 G H σ ρ Q ((isIns cn d).bind f S)) : (∃ a dx gs, v = .ref a ∧ H a = some (.ins CA dx gs)) ∧ okG K mg W R G0 H0 G H σ ρ Q (f () S) := by
  unfold isIns M.bind at h
  cases q : insOf S d with
  | none => simp only [q] at h; exact h.elim
  | some cc =>
    obtain ⟨c', fs⟩ := cc
    simp only [q] at h
    by_cases ec : c' = cn
    · subst ec
      simp only [if_true] at h
      obtain ⟨a, dx, gs, ev, ha, t⟩ := ins_of si.wf r q T
      exact ⟨⟨a, dx, gs, ev, ha⟩, h⟩
    · rw [if_neg ec] at h; exact h.elim
end
end Dl
/-! calls with keywords -/
namespace Dl
open PySem L2
section
variable {X : Cx} {W : WX} {ρ : List Slot} {e : Expr} {es : List Expr} {kws : List Keyword} {ms kms : List (M D)} {m : M D} {pos p : Pos}
/-- f(.., k = v): perm puts what is passed, and the defaults, in the order of the parameters -/
def kcallM (g : List D → M D) (perm : List D → List D → List D) (ms kms : List (M D)) : M D := (argsM ms).bind fun ds => (argsM kms).bind fun zs => g (perm ds zs)
end
/-! ### a def with keyword-only parameters -/
end Dl
/-! dicts at pointers -/
namespace Dl
open PySem L2
def valD (kvs : List (Key × D)) (k : Key) : Option D := (kvs.find? fun kv => decide (kv.1 = k)).map (·.2)
section
variable {K : PySem.W.Frag} {mg : Str → Option Value} {G : Gh} {H : Hp}
theorem KReps.val {k : Key} : ∀ {ks : List (Key × V)} {kvs : List (Key × D)}, KReps K G H ks kvs → (∀ v, valV ks k = some v → ∃ d, valD kvs k = some d ∧ Rep K G H v d) ∧ (valV ks k = none → valD kvs k = none)
  | _, _, .nil => And.intro (fun _ h => by simp [valV] at h) (fun _ => rfl)
  | _, _, .cons (k := k0) r t => by
    obtain ⟨h1, h2⟩ := KReps.val (k := k) t
    by_cases e : k0 = k
    · refine ⟨fun v h => ?_, fun h => ?_⟩
      · rw [valV_pos e] at h; cases h
        exact ⟨_, by simp [valD, List.find?_cons, e], r⟩
      · rw [valV_pos e] at h; cases h
    · refine ⟨fun v h => ?_, fun h => ?_⟩
      · rw [valV_neg e] at h
        obtain ⟨d, q, rd⟩ := h1 v h
        exact ⟨d, by unfold valD at *; rw [List.find?_cons]; simp only [e, decide_false]; exact q, rd⟩
      · rw [valV_neg e] at h
        have q := h2 h
        unfold valD at *; rw [List.find?_cons]; simp only [e, decide_false]; exact q
theorem KReps.zip : ∀ {gs : List (Key × V)} {ns : List Key} {ds : List D}, gs.map Prod.fst = ns → Reps K G H (gs.map Prod.snd) ds → KReps K G H gs (ns.zip ds)
  | [], _, _, e, r => by subst e; cases r; exact .nil
  | (k, v) :: gs, _, _, e, r => by
    subst e
    cases r with
    | cons r t => exact .cons r (KReps.zip rfl t)
end
end Dl
/-! dicts: new ones, and what is put into them -/
namespace Dl
open PySem L2
end Dl
/-! d[k] = v -/
namespace Dl
open PySem L2
def putKD (kvs : List (Key × D)) (k : Key) (v : D) : List (Key × D) := if (kvs.any fun kv => decide (kv.1 = k)) = true then kvs.map (fun kv => if kv.1 = k then (kv.1, v) else kv) else kvs ++ [(k, v)]
section
variable {K : PySem.W.Frag} {mg : Str → Option Value} {G : Gh} {H : Hp}
theorem KReps.len : ∀ {ks : List (Key × V)} {kvs : List (Key × D)}, KReps K G H ks kvs → ks.length = kvs.length
  | _, _, .nil => rfl
  | _, _, .cons _ t => by rw [List.length_cons, List.length_cons, KReps.len t]
theorem KReps.any {k : Key} : ∀ {ks : List (Key × V)} {kvs : List (Key × D)}, KReps K G H ks kvs → (ks.any fun kv => decide (kv.1 = k)) = (kvs.any fun kv => decide (kv.1 = k))
  | _, _, .nil => rfl
  | _, _, .cons _ t => by rw [List.any_cons, List.any_cons, KReps.any t]
theorem KReps.app {k : Key} {v : V} {d : D} (r : Rep K G H v d) : ∀ {ks : List (Key × V)} {kvs : List (Key × D)}, KReps K G H ks kvs → KReps K G H (ks ++ [(k, v)]) (kvs ++ [(k, d)])
  | _, _, .nil => .cons r .nil
  | _, _, .cons q t => .cons q (KReps.app r t)
theorem KReps.map {k : Key} {v : V} {d : D} (r : Rep K G H v d) : ∀ {ks : List (Key × V)} {kvs : List (Key × D)}, KReps K G H ks kvs → KReps K G H (ks.map fun kv => if kv.1 = k then (kv.1, v) else kv) (kvs.map fun kv => if kv.1 = k then (kv.1, d) else kv)
  | _, _, .nil => .nil
  | _, _, .cons (k := k0) q t => by
    rw [List.map_cons, List.map_cons]
    by_cases e : k0 = k
    · simp only [e, if_true]; exact .cons r (KReps.map r t)
    · simp only [e, if_false]; exact .cons q (KReps.map r t)
theorem KReps.put {k : Key} {v : V} {d : D} {ks : List (Key × V)} {kvs : List (Key × D)} (r : Rep K G H v d) (t : KReps K G H ks kvs) : KReps K G H (putK ks k v) (putKD kvs k d) := by
  unfold putK putKD
  rw [t.any]
  split
  · exact t.map r
  · exact t.app r
end
end Dl
/-! what stands at a pointer becomes a value: from here on it never changes -/
namespace Dl
open PySem L2
section
variable {K : PySem.W.Frag} {mg : Str → Option Value} {G : Gh} {H : Hp} {S : MS}
theorem FReps.fst : ∀ {gs : List (Str × V)} {fs : List (Str × D)}, FReps K G H gs fs → gs.map Prod.fst = fs.map Prod.fst ∧ Reps K G H (gs.map Prod.snd) (fs.map Prod.snd)
  | _, _, .nil => ⟨rfl, .nil⟩
  | _, _, .cons r t => by
    obtain ⟨h1, h2⟩ := FReps.fst t
    exact ⟨by simp only [List.map_cons, h1], .cons r h2⟩
theorem KReps.fst : ∀ {gs : List (Key × V)} {fs : List (Key × D)}, KReps K G H gs fs → gs.map Prod.fst = fs.map Prod.fst ∧ Reps K G H (gs.map Prod.snd) (fs.map Prod.snd)
  | _, _, .nil => ⟨rfl, .nil⟩
  | _, _, .cons r t => by
    obtain ⟨h1, h2⟩ := KReps.fst t
    exact ⟨by simp only [List.map_cons, h1], .cons r h2⟩
/-- the ghost behind it -/
def Gh.frz (G : Gh) (a : Addr) : Gh := { G with Z := fun b => b = a ∨ G.Z b }
theorem FR.frz {a : Addr} : FR G H (G.frz a) H :=
  ⟨List.prefix_rfl, rfl, rfl, rfl, fun _ _ h _ => h, fun b h => .inl (h.elim (fun y => .inl ⟨y.1, fun z => y.2 (.inr z)⟩) .inr), fun b h => .inl h, fun _ h => h, fun b o h => ⟨o, h⟩, rfl, .refl H⟩
theorem Wf.frz {a : Addr} {k : Nat} (w : Wf K mg G H S) (hk : G.φ[k]? = some a) : Wf K mg (G.frz a) H (S.put k .out) := by
  have hkl : k < S.cells.length := by rw [← w.len]; exact (List.getElem?_eq_some_iff.mp hk).1
  have fr : FR G H (G.frz a) H := .frz
  have ne : ∀ {i : Nat} {b : Addr}, k ≠ i → G.φ[i]? = some b → b ≠ a := fun {i b} n h2 z => n (by
    subst z
    have e1 := List.getElem?_eq_some_iff.mp hk
    have e2 := List.getElem?_eq_some_iff.mp h2
    exact (List.getElem_inj w.nd).mp (e1.2.trans e2.2.symm))
  refine ⟨?_, w.nd, fun i c b h1 h2 => ?_, fun b h => ?_, w.ha, w.hb, w.sab, w.na, w.nb, w.zs, w.hmg, fun i c b h1 h2 hn => ?_, fun b h => ?_, fun b h => ?_, w.hT, w.tb⟩
  · show _ = (S.cells.set k .out).length
    rw [List.length_set]; exact w.len
  · have h1 : (S.cells.set k .out)[i]? = some c := h1
    by_cases e : k = i
    · subst e
      rw [List.getElem?_set_self hkl] at h1
      cases h1
      trivial
    · rw [List.getElem?_set_ne e] at h1
      have q := w.cell i c b h1 h2
      cases c with
      | lst ds => obtain ⟨xs, e, z, t⟩ := q; exact ⟨xs, e, z, t.mono fr⟩
      | dic kvs => obtain ⟨xs, e, z, t⟩ := q; exact ⟨xs, e, z, t.mono fr⟩
      | ins c fs => obtain ⟨C, dx, gs, m, e, t⟩ := q; exact ⟨C, dx, gs, m, e, t.mono fr⟩
      | out => trivial
  · exact w.live b (h.elim (fun h => .inl (h.elim (fun y => .inl ⟨y.1, fun z => y.2 (.inr z)⟩) .inr)) .inr)
  · have h1 : (S.cells.set k .out)[i]? = some c := h1
    by_cases e : k = i
    · subst e
      rw [List.getElem?_set_self hkl] at h1
      cases h1
      exact absurd rfl hn
    · rw [List.getElem?_set_ne e] at h1
      intro z
      rcases z with z | z
      · exact ne e h2 z
      · exact w.nz i c b h1 h2 hn z
  · rcases h with h | h
    · rw [h]; exact w.phi (List.mem_of_getElem? hk)
    · exact w.zl b h
  · refine ⟨(w.zo b h).1, fun z => ?_⟩
    rcases z with z | z
    · exact (w.zo b h).1 (by rw [z]; exact List.mem_of_getElem? hk)
    · exact (w.zo b h).2 z
end
end Dl
/-! more iterables, more new lists -/
namespace Dl
open PySem L2
section
variable {X : Cx} {W : WX} {ρ : List Slot} {a b c e tg : Expr} {es : List Expr} {ma mb mc m : M D} {ms : List (M D)} {pos p p1 p2 p3 : Pos}
theorem PI.or {t u : TI} (h : PI X tg e t) (k : PI X tg e u) : PI X tg e (fun σ H R => t σ H R ∨ u σ H R) := ⟨fun pins s σ H R I q => q.elim (h.run pins s σ H R I) (k.run pins s σ H R I)⟩
end
end Dl
/-! xs[-2::-1]: all but the last, backwards -/
namespace Dl
open PySem L2
theorem Reps.last {K : PySem.W.Frag} {G : Gh} {H : Hp} : ∀ {vs : List V} {ds : List D}, Reps K G H vs ds → Reps K G H vs.dropLast ds.dropLast
  | _, _, .nil => .nil
  | _, _, .cons r .nil => .nil
  | _, _, .cons r (.cons r' t) => .cons r (Reps.last (.cons r' t))
end Dl
/-! several values at once, some of them new lists of one's own -/
namespace Dl
open PySem L2
/-- a value, or a new list that is one's own -/
inductive Mx where
  | v (d : D) | o (ds : List D)
def Mx.slot : Mx → Slot
  | .v d => .val d
  | .o ds => .own ds
def Mx.isO : Mx → Bool
  | .v _ => false
  | .o _ => true
section
variable (K : PySem.W.Frag) (H0 : Hp) (σ : L2.St) (ρ : List Slot) (G : Gh) (H : Hp)
def MxR (v : V) : Mx → Prop
  | .v d => Rep K G H v d
  | .o ds => ∃ l xs, v = .ref l ∧ H l = some (.lst xs) ∧ xs.length ≤ sizeLine ∧ Reps K G H xs ds ∧ G.O l ∧ ¬ G.cell l ∧ H0 l = none ∧ ∀ (i : Nat) (fs : List D), ρ[i]? = some (.own fs) → σ[i]? ≠ some (some (V.ref l))
inductive MxRs : List V → List Mx → Prop
  | nil : MxRs [] []
  | cons {v : V} {m : Mx} {vs : List V} {ms : List Mx} : MxR K H0 σ ρ G H v m → (m.isO = true → ∀ (j : Nat) (n : Mx), ms[j]? = some n → n.isO = true → vs[j]? ≠ some v) → MxRs vs ms → MxRs (v :: vs) (m :: ms)
end
section
variable {K : PySem.W.Frag} {mg : Str → Option Value} {G0 G G1 : Gh} {H0 H H1 : Hp} {σ : L2.St} {ρ : List Slot} {S : MS}
theorem FR.ncell (f : FR G H G1 H1) {l : Addr} {o : HO} (hl : H l = some o) (hc : ¬ G.cell l) : ¬ G1.cell l := fun c => by
  rcases f.cnew _ c with y | y
  · exact hc y
  · rw [hl] at y; cases y
theorem MxR.mono (f : FR G H G1 H1) {v : V} : ∀ {m : Mx}, MxR K H0 σ ρ G H v m → MxR K H0 σ ρ G1 H1 v m
  | .v _, h => Rep.mono f h
  | .o _, ⟨l, xs, e, hl, z, t, ho, hc, h0, n⟩ => ⟨l, xs, e, f.keep _ _ hl (.inl hc), z, t.mono f, f.oold _ ho, f.ncell hl hc, h0, n⟩
theorem MxRs.mono (f : FR G H G1 H1) : ∀ {vs : List V} {ms : List Mx}, MxRs K H0 σ ρ G H vs ms → MxRs K H0 σ ρ G1 H1 vs ms
  | _, _, .nil => .nil
  | _, _, .cons h n t => .cons (h.mono f) n (MxRs.mono f t)
theorem MxRs.length : ∀ {vs : List V} {ms : List Mx}, MxRs K H0 σ ρ G H vs ms → vs.length = ms.length
  | _, _, .nil => rfl
  | _, _, .cons _ _ t => by rw [List.length_cons, List.length_cons, MxRs.length t]
end
/-! the same while they are told: what is new was not there at Hs -/
section
variable (K : PySem.W.Frag) (Hs : Hp) (G : Gh) (H : Hp)
def MxN (v : V) : Mx → Prop
  | .v d => Rep K G H v d
  | .o ds => ∃ l xs, v = .ref l ∧ H l = some (.lst xs) ∧ xs.length ≤ sizeLine ∧ Reps K G H xs ds ∧ G.O l ∧ ¬ G.cell l ∧ Hs l = none
inductive MxNs : List V → List Mx → Prop
  | nil : MxNs [] []
  | cons {v : V} {m : Mx} {vs : List V} {ms : List Mx} : MxN K Hs G H v m → (m.isO = true → ∀ (j : Nat) (n : Mx), ms[j]? = some n → n.isO = true → vs[j]? ≠ some v) → MxNs vs ms → MxNs (v :: vs) (m :: ms)
end
section
variable {K : PySem.W.Frag} {mg : Str → Option Value} {G0 G G1 : Gh} {H0 H H1 Hs Ht : Hp} {σ : L2.St} {ρ : List Slot} {S : MS}
theorem MxN.mono (f : FR G H G1 H1) {v : V} : ∀ {m : Mx}, MxN K Hs G H v m → MxN K Hs G1 H1 v m
  | .v _, h => Rep.mono f h
  | .o _, ⟨l, xs, e, hl, z, t, ho, hc, h0⟩ => ⟨l, xs, e, f.keep _ _ hl (.inl hc), z, t.mono f, f.oold _ ho, f.ncell hl hc, h0⟩
theorem MxNs.start (f : ∀ b, Ht b = none → Hs b = none) : ∀ {vs : List V} {ms : List Mx}, MxNs K Ht G H vs ms → MxNs K Hs G H vs ms
  | _, _, .nil => .nil
  | _, _, .cons (m := m) h n t => .cons (by
      cases m with
      | v _ => exact h
      | o ds => obtain ⟨l, xs, e, hl, z, t, ho, hc, h0⟩ := h; exact ⟨l, xs, e, hl, z, t, ho, hc, f _ h0⟩) n (MxNs.start f t)
theorem MxNs.full (h0 : ∀ b, Hs b = none → H0 b = none) (ho : ∀ l, Hs l = none → ∀ (i : Nat) (fs : List D), ρ[i]? = some (.own fs) → σ[i]? ≠ some (some (V.ref l))) : ∀ {vs : List V} {ms : List Mx}, MxNs K Hs G H vs ms → MxRs K H0 σ ρ G H vs ms
  | _, _, .nil => .nil
  | _, _, .cons (m := m) h n t => .cons (by
      cases m with
      | v _ => exact h
      | o ds => obtain ⟨l, xs, e, hl, z, t, o', hc, hs⟩ := h; exact ⟨l, xs, e, hl, z, t, o', hc, h0 _ hs, ho _ hs⟩) n (MxNs.full h0 ho t)
theorem MxNs.length : ∀ {vs : List V} {ms : List Mx}, MxNs K Hs G H vs ms → vs.length = ms.length
  | _, _, .nil => rfl
  | _, _, .cons _ _ t => by rw [List.length_cons, List.length_cons, MxNs.length t]
theorem MxNs.mono (f : FR G H G1 H1) : ∀ {vs : List V} {ms : List Mx}, MxNs K Hs G H vs ms → MxNs K Hs G1 H1 vs ms
  | _, _, .nil => .nil
  | _, _, .cons h n t => .cons (h.mono f) n (MxNs.mono f t)
end
section
variable (K : PySem.W.Frag) (mg : Str → Option Value) (W : WX)
def okM (G0 : Gh) (H0 : Hp) (G : Gh) (H : Hp) (σ : L2.St) (ρ : List Slot) (Q : List V → Hp → Prop) : Res (List Mx) → Prop
  | .ok ms S => ∀ vs G' H', SI K mg G0 H0 G' H' σ ρ S → FR G H G' H' → MxNs K H G' H' vs ms → Q vs H'
  | .err e S => ∀ cls da G' H', SI K mg G0 H0 G' H' σ ρ S → FR G H G' H' → ErrRep K mg G' H' e cls da → W cls da σ H'
  | .bad => False
end
theorem okM.from {K : PySem.W.Frag} {mg : Str → Option Value} {W : WX} {G0 G G1 : Gh} {H0 H H1 : Hp} {σ : L2.St} {ρ : List Slot} {Q : List V → Hp → Prop} {r : Res (List Mx)} (h : okM K mg W G0 H0 G H σ ρ Q r) (f : FR G H G1 H1) : okM K mg W G0 H0 G1 H1 σ ρ Q r := by
  cases r with
  | ok a S => exact fun vs G' H' s r q => h vs G' H' s (f.trans r) (q.start fun b hb => f.free hb)
  | err e S => exact fun cls da G' H' s r => h cls da G' H' s (f.trans r)
  | bad => exact h
inductive Ax where
  | v (m : M D) | o (m : M (List D))
section
variable {X : Cx} {W : WX} {ρ : List Slot} {e : Expr} {es : List Expr} {m : M D} {mn : M (List D)} {ms : List Ax}
variable {C L : Type} {k : Ct C L} {rest : List Stmt} {st : Stmt} {mm : M (List Mx)}
theorem bind_bind {α β γ : Type} (m : M α) (f : α → M β) (g : β → M γ) : (m.bind f).bind g = m.bind fun a => (f a).bind g := by
  funext S; unfold M.bind; cases m S <;> rfl
end
end Dl
/-! while; slices of texts, lists and tuples; list(range(..)); max and min of a list -/
namespace Dl
open PySem L2
section
variable {X : Cx} {W : WX} {ρ : List Slot} {a b c e tg : Expr} {es : List Expr} {ma mb mc m : M D} {ms : List (M D)} {pos p p1 p2 p3 : Pos}
/-! ### slices -/
def dCut (d : D) (l u : Option Int) : M D := match d with
  | .str x => guard (szOk x.length) (M.pure (.str (cutS x l u)))
  | .tup ds => M.pure (.tup (cutD ds l u))
  | d => (asLst d).bind fun ds => M.pure (.lst (cutD ds l u))
def sliceM (m : M D) (lo hi : M (Option Int)) : M D := m.bind fun d => lo.bind fun l => hi.bind fun u => dCut d l u
end
end Dl
/-! slices of texts, lists and tuples; list(range(..)); max and min of a list -/
namespace Dl
open PySem L2
theorem cutD_full {xs : List D} {l u : Option Int} (h : HT.sIx xs.length 0 l = 0 ∧ HT.sIx xs.length xs.length u = xs.length) : cutD xs l u = xs := by
  unfold cutD
  rw [h.1, h.2]; simp
section
variable {X : Cx} {W : WX} {ρ : List Slot} {a b c e tg : Expr} {es : List Expr} {ma mb mc m : M D} {ms : List (M D)} {pos p p1 p2 p3 : Pos}
theorem ed_slice {lo hi : Option Expr} {ml mh : M (Option Int)} (he : ED X W ρ e m) (hl : EO X W ρ lo ml) (hh : EO X W ρ hi mh) : ED X W ρ (.Subscript e (.Slice lo hi none p2) pos) (sliceM m ml mh) :=
  PE.imp (pe_slice (SlR.or (SlR.or sl_list sl_str) sl_tupA) he hl hh) fun σ H Q ⟨G0, H0, G, S, si, h⟩ => ⟨G0, H0, G, S, si, okG.bind h fun G1 H1 S1 x d s1 f1 r1 h1 => ⟨G0, H0, G1, S1, s1, okG.bind h1 fun G2 H2 S2 l l' s2 f2 r2 h2 => ⟨G0, H0, G2, S2, s2, okG.bind h2 fun G3 H3 S3 u u' s3 f3 r3 h3 => by
    cases r2; cases r3
    have r1' : Rep X.K G3 H3 x d := Rep.mono (f2.trans f3) r1
    have cut : ∀ {xs : List V} {ds : List D}, Reps X.K G3 H3 xs ds → Reps X.K G3 H3 (cutV xs l u) (cutD ds l u) := fun {xs ds} t => by
      unfold cutV cutD
      rw [t.length]
      exact (t.drop _).take _
    cases d with
    | str x' =>
      cases r1'
      obtain ⟨z, h3⟩ := okG.guard h3
      exact .inl (.inr ⟨_, rfl, sz_of z, okG.here h3 s3 (.str _)⟩)
    | tup ds =>
      cases r1' with
      | tup hs z t =>
        refine .inr ⟨_, _, rfl, hs, fun hf => ?_, fun _ p hp => ?_⟩
        · have e : cutD ds l u = ds := cutD_full (by rw [← t.length]; exact hf)
          have h3 : okG X.K X.mg W (RD X.K) G0 H0 G3 H3 σ ρ Q (.ok (.tup (cutD ds l u)) S3) := h3
          rw [e] at h3
          exact okG.here h3 s3 (.tup hs z t)
        · exact okG.new h3 s3 hp (rep_tup hp (Nat.le_trans (cutV_length _ _ _) z) (cut t))
    | _ =>
      obtain ⟨a, xs, ds, rfl, hs, z, t, h3⟩ := asLst_ok (f := fun ds => M.pure (D.lst (cutD ds l u))) s3 r1' h3
      exact .inl (.inl ⟨_, _, rfl, SqL.of hs, fun p hp => okG.new h3 s3 hp (rep_new s3.wf hp (Nat.le_trans (cutV_length _ _ _) z) (cut t))⟩)⟩⟩⟩
/-! ### list(range(a, b)) -/
/-! ### max(xs), min(xs) -/
end
end Dl
/-! new dicts: displays, dict(pairs); as values that never change, or at pointers -/
namespace Dl
open PySem L2
section
variable (K : PySem.W.Frag) (mg : Str → Option Value) (W : WX)
def okND (G0 : Gh) (H0 : Hp) (G : Gh) (H : Hp) (σ : L2.St) (ρ : List Slot) (Q : VK) : Res (List (Key × D)) → Prop
  | .ok kvs S => ∀ l ks G' H', SI K mg G0 H0 G' H' σ ρ S → FR G H G' H' → H l = none → H' l = some (.dK ks) → ks.length ≤ sizeLine → G'.O l → ¬ G'.cell l → KReps K G' H' ks kvs → Q (.ref l) H'
  | .err e S => ∀ cls da G' H', SI K mg G0 H0 G' H' σ ρ S → FR G H G' H' → ErrRep K mg G' H' e cls da → W cls da σ H'
  | .bad => False
def tND (ρ : List Slot) (m : M (List (Key × D))) : TE := fun σ H Q => ∃ G0 H0 G S, SI K mg G0 H0 G H σ ρ S ∧ okND K mg W G0 H0 G H σ ρ Q (m S)
end
def ENd (X : Cx) (W : WX) (ρ : List Slot) (e : Expr) (m : M (List (Key × D))) : Prop := PE X e (tND X.K X.mg W ρ m)
section
variable {K : PySem.W.Frag} {mg : Str → Option Value} {W : WX} {α β : Type} {R : Gh → Hp → β → α → Prop} {G0 G G1 : Gh} {H0 H H1 : Hp} {σ : L2.St} {ρ : List Slot} {Q : β → Hp → Prop} {Q' : VK} {S : MS}
theorem okND.from {r : Res (List (Key × D))} (h : okND K mg W G0 H0 G H σ ρ Q' r) (f : FR G H G1 H1) : okND K mg W G0 H0 G1 H1 σ ρ Q' r := by
  cases r with
  | ok a S => exact fun l xs G' H' s r n q z m c t => h l xs G' H' s (f.trans r) (f.free n) q z m c t
  | err e S => exact fun cls da G' H' s r => h cls da G' H' s (f.trans r)
  | bad => exact h
theorem okND.bind {m : M α} {f : α → M (List (Key × D))} (h : okND K mg W G0 H0 G H σ ρ Q' (m.bind f S))
    (k : ∀ G1 H1 S1 b a, SI K mg G0 H0 G1 H1 σ ρ S1 → FR G H G1 H1 → R G1 H1 b a → okND K mg W G0 H0 G1 H1 σ ρ Q' (f a S1) → Q b H1) : okG K mg W R G0 H0 G H σ ρ Q (m S) := by
  unfold M.bind at h
  cases e : m S with
  | ok a S1 =>
    rw [e] at h
    exact fun b G' H' s r q => k G' H' S1 b a s r q (okND.from h r)
  | err x S1 => rw [e] at h; exact h
  | bad => rw [e] at h; exact h
theorem okND.new {kvs : List (Key × D)} {p : Addr} {ks : List (Key × V)} (h : okND K mg W G0 H0 G H σ ρ Q' (.ok kvs S)) (s : SI K mg G0 H0 G H σ ρ S) (hp : H p = none) (z : ks.length ≤ sizeLine) (r : KReps K G H ks kvs) : Q' (.ref p) (upd H p (.dK ks)) :=
  h p ks (G.own p) (upd H p (.dK ks)) (s.allocO hp) (.allocO hp) hp upd_same z (.inl rfl) (fun c => s.wf.fresh hp (.inl c)) (r.mono (.allocO hp))
end
def frzD (m : M (List (Key × D))) : M D := m.bind fun kvs => M.pure (.dic (kvs.map Prod.fst) (kvs.map Prod.snd))
section
variable {X : Cx} {W : WX} {ρ : List Slot} {a b c e o : Expr} {es : List Expr} {ma mb mc m mo : M D} {ms : List (M D)} {pos p p1 p2 p3 : Pos} {mn : M (List (Key × D))}
theorem ed_newD (h : ENd X W ρ e mn) : ED X W ρ e (frzD mn) :=
  PE.imp h fun σ H Q ⟨G0, H0, G, S, si, h⟩ => ⟨G0, H0, G, S, si, by
    unfold frzD M.bind at h
    cases q : mn S with
    | ok ds S1 =>
      rw [q] at h
      refine fun l xs G' H' s f n e z ho hc t => h (.ref l) (G'.let l) H' (s.let (si.fr.free n) (si.owns n)) (f.let fun b hb q => ?_) (.dic e z (fun q => ?_) t.fst.1 t.fst.2.let)
      · obtain ⟨u, w⟩ := si.wf.live b (.inr hb)
        rw [q, n] at w; cases w
      · rcases q with q | q
        · exact hc q
        · exact q.1 rfl
    | err _ _ => rw [q] at h; exact h
    | bad => rw [q] at h; exact h⟩
/-! ### displays -/
/-- {k: v, ..} with texts as keys -/
def dispM (ks : List Str) (ms : List (M D)) : M (List (Key × D)) := (argsM ms).bind fun ds => M.pure ((ks.map Sum.inr).zip ds)
/-! ### dict(pairs) -/
end
end Dl
/-! d.update(e); xs.append(x), xs.pop() at pointers -/
namespace Dl
open PySem L2
section
variable {X : Cx} {W : WX} {ρ : List Slot} {a b c e o : Expr} {es : List Expr} {ma mb mc m mo me : M D} {ms : List (M D)} {pos p p1 p2 p3 apos cpos : Pos} {td ty : TE}
/-! ### lists at pointers -/
/-- it is a list -/
def isLstP (d : D) : M Unit := (asLst d).bind fun _ => M.pure ()
theorem isLst_ok {K : PySem.W.Frag} {mg : Str → Option Value} {G0 G : Gh} {H0 H : Hp} {σ : L2.St} {S : MS} {α β : Type} {R : Gh → Hp → β → α → Prop} {Q : β → Hp → Prop} {v : V} {d : D} {f : Unit → M α} (si : SI K mg G0 H0 G H σ ρ S) (r : Rep K G H v d) (h : okG K mg W R G0 H0 G H σ ρ Q ((isLstP d).bind f S)) : tyV K "list" v H ∧ okG K mg W R G0 H0 G H σ ρ Q (f () S) := by
  have h : okG K mg W R G0 H0 G H σ ρ Q ((asLst d).bind (fun _ => f ()) S) := by
    unfold isLstP at h
    rw [bind_bind] at h
    exact h
  obtain ⟨a, xs, ds, rfl, hs, z, t, h⟩ := asLst_ok si r h
  exact ⟨.inl ⟨rfl, xs, SqL.of hs⟩, h⟩
def appP (o d : D) : M D := fun S => match o with
  | .ptr k => match S.cells[k]? with
    | some (.lst ds) => if szLt ds.length = true then .ok .non (S.put k (.lst (ds ++ [d]))) else .bad
    | _ => .bad
  | _ => .bad
def appM (mo me : M D) : M D := mo.bind fun o => (isLstP o).bind fun _ => me.bind fun d => appP o d
theorem ed_appP {ap cp : Pos} (hpe : PE X (.Call (.Attribute o "append" ap) [e] [] cp) (tBM X.K "list" rAppend (tG X.K X.mg W (RD X.K) ρ mo) (tCons (tG X.K X.mg W (RD X.K) ρ me) tNil))) : ED X W ρ (.Call (.Attribute o "append" ap) [e] [] cp) (appM mo me) :=
  PE.imp hpe fun σ H Q ⟨G0, H0, G, S, si, h⟩ => ⟨G0, H0, G, S, si, okG.bind h fun G1 H1 S1 x d s1 f1 r1 h1 => by
    obtain ⟨ty, h1⟩ := isLst_ok s1 r1 h1
    refine ⟨ty, G0, H0, G1, S1, s1, okG.bind h1 fun G2 H2 S2 y d2 s2 f2 r2 h2 => ?_⟩
    have ro := Rep.mono f2 r1
    unfold appP at h2
    cases ro with
    | @ptr a k q =>
      cases qc : S2.cells[k]? with
      | none => simp only [qc] at h2; exact h2.elim
      | some c =>
        cases c with
        | lst ds =>
          simp only [qc] at h2
          split at h2
          · rename_i zz
            obtain ⟨xs, ha, hz, t⟩ := s2.wf.cell k _ a qc q
            have nz := s2.wf.nz _ _ _ qc q (by intro h; cases h)
            have hl : xs.length < sizeLine := by rw [t.length]; exact szLt_of zz
            have lr : LR G2 H2 G2 (upd H2 a (.lst (xs ++ [y]))) := .put ha (fun z => z) (.inl (.inl ⟨List.mem_of_getElem? q, nz⟩))
            have fr : FR G2 H2 G2 (upd H2 a (.lst (xs ++ [y]))) := .putC q ha (fun z => z) nz
            have r2 : Rep X.K G2 H2 y d2 := r2
            refine ⟨a, xs, y, rfl, rfl, ha, hl, h2 .non G2 _ (s2.putC q ha (fun z => z) nz ⟨_, upd_same, ?_, (t.append (.cons r2 .nil)).lr lr⟩) fr .non⟩
            rw [List.length_append, List.length_singleton]; omega
          · exact h2.elim
        | dic _ => simp only [qc] at h2; exact h2.elim
        | ins _ _ => simp only [qc] at h2; exact h2.elim
        | out => simp only [qc] at h2; exact h2.elim
    | _ => exact h2.elim⟩
theorem Reps.dropLast {K : PySem.W.Frag} {G : Gh} {H : Hp} {xs : List V} {ds : List D} (t : Reps K G H xs ds) : Reps K G H xs.dropLast ds.dropLast := by
  rw [List.dropLast_eq_take, List.dropLast_eq_take, t.length]
  exact t.take _
end
end Dl
/-! facts for the head: classes that are asked for, constants, keyword-only parameters, properties -/
namespace Dl
open PySem L2
theorem kitOne_ty {K : PySem.W.Frag} {C : Addr} {T : String} {b : Bool} (h1 : PySem.W.kitMeta T = true) (h2 : PySem.W.subIn K (.ref C) (.type T) = some b) : PySem.W.kitOne K (.ref C) (.type T) = some b := by
  unfold PySem.W.kitOne PySem.W.kitCls
  rw [if_neg (by simp)]
  simp only [h1, if_true]
  exact h2
theorem insF_mk {K : PySem.W.Frag} {mg : Str → Option Value} {Ts : List Str} {c : Str} {anc : List Str} {C : Addr} (ci : CI K mg c C) (f1 : PySem.W.findIn K (.ref C) "__class__" = some (some (.builtin "object.__class__"))) (f2 : PySem.W.specialIn K (.builtin "object.__class__") "__get__" = some (some (.builtin "getset_descriptor.__get__")))
    (f3 : PySem.W.takesIn K (.builtin "object.__class__") = some true) (f4 : PySem.W.mroIn K C (.type "object") = some true)
    (s1 : PySem.W.subIn K (.ref C) (.type "bool") = some false) (s2 : PySem.W.subIn K (.ref C) (.type "int") = some false) (s3 : PySem.W.subIn K (.ref C) (.type "str") = some false) (s4 : PySem.W.subIn K (.ref C) (.type "list") = some false) (s5 : PySem.W.subIn K (.ref C) (.type "tuple") = some false) (s6 : PySem.W.subIn K (.ref C) (.type "dict") = some false)
    (hT : ∀ T ∈ Ts, ∃ CT, mg T = some (.ref CT) ∧ PySem.W.kitOne K (.ref C) (.ref CT) = some (anc.contains T)) : InsF K mg Ts c anc :=
  ⟨C, ci.mg, ci.cl, f1, f2, f3, f4, fun t h => by
    cases t with
    | non => exact absurd rfl h
    | bool => exact kitOne_ty (by decide +kernel) s1
    | int => exact kitOne_ty (by decide +kernel) s2
    | str => exact kitOne_ty (by decide +kernel) s3
    | list => exact kitOne_ty (by decide +kernel) s4
    | tuple => exact kitOne_ty (by decide +kernel) s5
    | dict => exact kitOne_ty (by decide +kernel) s6, fun T h CT m => by
    obtain ⟨CT', m', k⟩ := hT T h
    rw [m] at m'; cases m'
    exact k⟩
theorem tgt_nil {K : PySem.W.Frag} {mg : Str → Option Value} {C : Addr} {anc : List Str} : ∀ T ∈ ([] : List Str), ∃ CT, mg T = some (.ref CT) ∧ PySem.W.kitOne K (.ref C) (.ref CT) = some (anc.contains T) := fun _ h => nomatch h
/-! constants -/
/-! ### a def with keyword-only parameters, some of them passed -/
end Dl
/-! calls with keywords: the order of what is passed; {} as a value -/
namespace Dl
open PySem L2
section
variable {X : Cx} {W : WX} {ρ : List Slot} {pos : Pos}
theorem end_empty : ENd X W ρ (.Dict [] [] pos) (M.pure []) := PE.imp pe_dnewK fun σ H Q ⟨G0, H0, G, S, si, h⟩ => fun p hp => okND.new h si hp (Nat.zero_le _) .nil
end
end Dl
/-! in, as a test; str(n) -/
namespace Dl
open PySem L2
/-! keyword defaults of a def -/
end Dl
/-! defs with defaults, called with all that they take -/
namespace Dl
open PySem L2
end Dl
/-! len of an instance whose class has its own `__len__` -/
namespace Dl
open PySem L2
section
variable {X : Cx}
theorem call_lenO {CX : CXT} {k : Nat} {C f : Addr} {fd : FuncData} {ps : List Str} {sp : L2.Sp} {E : XK} (hm : Meth X.K C "__len__" f) (F : FnOk X.prog X.w X.K X.mg X.base CX k f fd ps sp) (hr : Room (k + 1) X.A) (hb : Binds X.K fd ps []) (hx : Passes CX X.nox E) :
    CallR X (.builtin "len") fun xs H Q => ∃ a dx fs, xs = [.ref a] ∧ H a = some (.ins C dx fs) ∧ sp [.ref a] H (fun v H2 => ∃ n : Int, v = .int n ∧ 0 ≤ n ∧ n < 2 ^ 63 ∧ Q (.int n) H2) E := by
  intro pins s σ H xs us Q I r ⟨a, dx, fs, ex, ea, h⟩
  subst ex
  obtain ⟨u, rfl, ru⟩ : ∃ u, us = [u] ∧ RelV (.ref a) u := by
    cases r with
    | cons r1 t => cases t; exact ⟨_, rfl, r1⟩
  obtain rfl : u = Value.ref a := ru
  obtain ⟨mA, O, _⟩ := ins_get I.hok ea
  obtain ⟨od, J, _⟩ := O.look
  have hl : ([Value.ref a] ++ []).length = ps.length := (F.len _ _ _ _ h)
  have run : ∀ {E' : Value → Shared → Prop}, wpAny (model X.prog X.w) X.A.in1 (call (.ref f) [.ref a]) (EP X pins σ fun v H2 => ∃ n : Int, v = .int n ∧ 0 ≤ n ∧ n < 2 ^ 63 ∧ Q (.int n) H2) E' s := by
    intro E'
    apply wpAny_call
    apply codeAny_mono (F.run X.A.in1 X.stack s H ⟨[.ref a], []⟩ [.ref a] [.ref a] _ E hr.in1 I.env0.in1 (hb _ [.ref a] I.kIn hl) (.cons rfl .nil) h)
    intro r s' hq
    cases r with
    | error er => exact (hx pins σ H s er s' (I.wish _) hq).elim
    | ok fl => cases fl <;> first | exact I.after hq | exact hq.elim
  refine Calls.call_function_entry kind_len plain_len entry_len (args_len1 _) ?_
  unfold Builtin.«len»
  refine wpAny_bind (m := oneArg "len" _) (wpAny_pure ?_)
  refine wpAny_bind (m := callSpecial? (.ref a) (Str.ofString "__len__")) ?_
  unfold callSpecial? specialOf
  refine wpAny_bind (wpAny_bind (J.type.here ((PySem.W.looks_findIn I.kIn hm.at_).here ?_)))
  apply wpAny_holding
  refine wpAny_bind ((PySem.W.bind_fn I.kIn _ (by have q := hm.fn; unfold PySem.W.isFn at q; exact beq_iff_eq.mp q)).here ?_)
  refine wpAny_bind (wpAny_mono run (fun v s' hv => wpAny_pure ?_) fun _ _ z => z)
  obtain ⟨v', H', I', rv, n, rfl, n0, n1, q⟩ := hv
  obtain ⟨t, rfl⟩ := rv
  refine wpAny_bind (wpAny_holding (wpAny_pure ?_))
  refine wpAny_bind (wpAny_letGo ?_)
  show wpAny _ _ (if n < 0 then _ else _) _ _ _
  rw [if_neg (Int.not_lt.mpr n0)]
  show wpAny _ _ (if n ≥ 2 ^ 63 then _ else _) _ _ _
  rw [if_neg (Int.not_le.mpr n1)]
  exact wpAny_bind (wpAny_mkInt (wpAny_pure ⟨_, rfl, .int n, H', I'.tok _, ⟨_, rfl⟩, q⟩))
end
def lenV : D → M D
  | .int n => guard (decide (0 ≤ n) && decide (n < 2 ^ 63)) (M.pure (.int n))
  | _ => M.bad
def lenO1 (cn : Str) (g : List D → M D) : List D → M D
  | [o] => (isIns cn o).bind fun _ => (calmM (g [o])).bind lenV
  | _ => M.bad
def lenOM (cn : Str) (g : List D → M D) (ms : List (M D)) : M D := (argsM ms).bind (lenO1 cn g)
section
variable {X : Cx} {W : WX} {ρ : List Slot} {e : Expr} {ms : List (M D)} {pos p : Pos}
theorem ed_lenO {cn : Str} {k : Nat} {g : List D → M D} (F : MI X.prog X.w X.K X.mg X.base cn "__len__" ["self"] k g) (hr : Room (k + 1) X.A) (hm : X.mg "len" = none) (ha : EA X W ρ [e] (argsM ms)) (hg : Gl X "len" := by rfl)
    (hs : starEach [e] X.env = (false, eval e X.env) :: starEach [] X.env := by rfl) (hpl : (backTo pos (starEach [] X.env)).any (·.1) = false := by rfl) : ED X W ρ (.Call (.Name "len" p) [e] [] pos) (lenOM cn g ms) := by
  obtain ⟨C, f, fd, T, hme, hb, F⟩ := F
  refine PE.imp (pe_callB (call_lenO (E := fun _ _ _ => False) hme F hr hb (fun _ _ _ _ _ _ _ ⟨_, _, _, _, _, _, _, _, _, _, _, _, z⟩ => z.elim)) hg hm PySem.boot_len ha (by decide) (by decide) hs hpl) fun σ H Q ⟨G0, H0, G, S, si, h⟩ => ?_
  refine ⟨G0, H0, G, S, si, okG.bind h fun G1 H1 S1 xs ds s1 f1 rs h1 => ?_⟩
  obtain ⟨x, d, rfl, rfl, r1⟩ : ∃ x d, xs = [x] ∧ ds = [d] ∧ Rep X.K G1 H1 x d := by
    cases rs with
    | nil => exact h1.elim
    | cons r t =>
      cases t with
      | nil => exact ⟨_, _, rfl, rfl, r⟩
      | cons _ _ => exact h1.elim
  have h1 : okG X.K X.mg W (RD X.K) G0 H0 G1 H1 σ ρ Q (((isIns cn d).bind fun _ => (calmM (g [d])).bind lenV) S1) := h1
  obtain ⟨⟨a, dx, gs, ev, ha⟩, h1⟩ := isIns_ok s1 r1 T.mg h1
  subst ev
  refine ⟨a, dx, gs, rfl, ha, G1, S1, [d], rfl, .cons r1 .nil, s1.wf, okF_of (W := W0) (si := s1) ?_⟩
  have key : okG X.K X.mg W0 (RD X.K) G0 H0 G1 H1 σ ρ (fun v H2 => ∃ n : Int, v = .int n ∧ 0 ≤ n ∧ n < 2 ^ 63 ∧ Q (.int n) H2) (calmM (g [d]) S1) := by
    unfold M.bind at h1
    cases q : calmM (g [d]) S1 with
    | ok z S2 =>
      rw [q] at h1
      intro v G2 H2 s2 f2 r2
      cases r2 with
      | int n =>
        have h1 : okG X.K X.mg W (RD X.K) G0 H0 G1 H1 σ ρ Q (guard (decide (0 ≤ n) && decide (n < 2 ^ 63)) (M.pure (D.int n)) S2) := h1
        obtain ⟨z, h2⟩ := okG.guard h1
        simp only [Bool.and_eq_true, decide_eq_true_eq] at z
        exact ⟨n, rfl, z.1, z.2, h2 _ G2 H2 s2 f2 (.int n)⟩
      | _ => exact h1.elim
    | err x S2 =>
      exfalso
      unfold calmM at q
      revert q
      cases g [d] S1 <;> intro q <;> cases q
    | bad => rw [q] at h1; exact h1
  have := okG_calm key
  exact this
end
end Dl
/-! unpacking into targets of any form -/
namespace Dl
open PySem L2
end Dl
/-! several values at once, shape by shape -/
namespace Dl
open PySem L2
end Dl
/-! what computations come to at a state: equations -/
namespace Dl
open PySem L2
def Res.andThen {α β : Type} (r : Res α) (f : α → MS → Res β) : Res β := match r with
  | .ok a S => f a S
  | .err e S => .err e S
  | .bad => .bad
section
variable {α β C L J : Type} {S S' : MS}
@[simp] theorem at_ok {a : α} {f : α → MS → Res β} : (Res.ok a S).andThen f = f a S := rfl
@[simp] theorem at_err {e : Err} {f : α → MS → Res β} : (Res.err e S).andThen f = .err e S := rfl
@[simp] theorem at_bad {f : α → MS → Res β} : (Res.bad : Res α).andThen f = .bad := rfl
@[simp] theorem at_ite {b : Prop} [Decidable b] {r s : Res α} {f : α → MS → Res β} : (if b then r else s).andThen f = if b then r.andThen f else s.andThen f := by split <;> rfl
@[simp] theorem ev_pure {a : α} : (M.pure a : M α) S = .ok a S := rfl
@[simp] theorem ev_raise {e : Err} : (M.raise e : M α) S = .err e S := rfl
@[simp] theorem ev_bad : (M.bad : M α) S = .bad := rfl
@[simp] theorem ev_bind {m : M α} {f : α → M β} : M.bind m f S = (m S).andThen fun a S1 => f a S1 := by unfold M.bind Res.andThen; cases m S <;> rfl
@[simp] theorem ev_ite {b : Prop} [Decidable b] {m n : M α} : (if b then m else n) S = if b then m S else n S := by split <;> rfl
@[simp] theorem ev_bin {f : D → D → M D} {a b : M D} : bin f a b S = (a S).andThen fun x S1 => (b S1).andThen fun y S2 => f x y S2 := by simp [bin]
@[simp] theorem ev_una {f : D → M D} {a : M D} : una f a S = (a S).andThen fun x S1 => f x S1 := by simp [una]
@[simp] theorem ev_args0 : argsM [] S = .ok [] S := rfl
@[simp] theorem ev_args1 {m : M D} {ms : List (M D)} : argsM (m :: ms) S = (m S).andThen fun d S1 => (argsM ms S1).andThen fun ds S2 => .ok (d :: ds) S2 := by simp [argsM]
@[simp] theorem ev_call {f : List D → M D} {ms : List (M D)} : callM f ms S = (argsM ms S).andThen fun ds S1 => f ds S1 := by simp [callM]
@[simp] theorem ev_kcall {g : List D → M D} {perm : List D → List D → List D} {ms kms : List (M D)} : kcallM g perm ms kms S = (argsM ms S).andThen fun ds S1 => (argsM kms S1).andThen fun zs S2 => g (perm ds zs) S2 := by simp [kcallM]
@[simp] theorem ev_guard {b : Bool} {m : M D} : guard b m S = if b = true then m S else .bad := by unfold guard; split <;> rfl
@[simp] theorem ev_gd {b : Bool} {m : M α} : gd b m S = if b = true then m S else .bad := by unfold gd; split <;> rfl
@[simp] theorem ev_tup {ms : List (M D)} : tupM ms S = (argsM ms S).andThen fun ds S1 => if szOk ds.length = true then .ok (.tup ds) S1 else .bad := by simp [tupM]
@[simp] theorem ev_lst {ms : List (M D)} : lstM ms S = (argsM ms S).andThen fun ds S1 => if szOk ds.length = true then .ok ds S1 else .bad := by simp [lstM]
@[simp] theorem ev_frz {m : M (List D)} : frz m S = (m S).andThen fun ds S1 => .ok (.lst ds) S1 := by simp [frz]
@[simp] theorem ev_tst {m : M D} : tst m S = (m S).andThen fun d S1 => asB d S1 := by simp [tst]
@[simp] theorem asB_bl {b : Bool} : asB (.bl b) = M.pure b := rfl
@[simp] theorem ev_ofB {m : M Bool} : ofB m S = (m S).andThen fun b S1 => .ok (.bl b) S1 := by simp [ofB]
@[simp] theorem ev_andT {a b : M Bool} : andT a b S = (a S).andThen fun x S1 => if x = true then b S1 else .ok false S1 := by simp [andT]
@[simp] theorem ev_orT {a b : M Bool} : orT a b S = (a S).andThen fun x S1 => if x = true then .ok true S1 else b S1 := by simp [orT]
@[simp] theorem ev_notT {a : M Bool} : notT a S = (a S).andThen fun x S1 => .ok (!x) S1 := by simp [notT]
@[simp] theorem ev_ifM {t : M Bool} {a b : M α} : ifM t a b S = (t S).andThen fun x S1 => if x = true then a S1 else b S1 := by simp [ifM]
@[simp] theorem ev_andV {a b : M D} : andV a b S = (a S).andThen fun x S1 => (asB x S1).andThen fun c S2 => if c = true then b S2 else .ok (.bl false) S2 := by simp [andV]
@[simp] theorem ev_orV {a b : M D} : orV a b S = (a S).andThen fun x S1 => (asB x S1).andThen fun c S2 => if c = true then .ok (.bl true) S2 else b S2 := by simp [orV]
@[simp] theorem ev_notV {a : M D} : notV a S = (a S).andThen fun x S1 => (asB x S1).andThen fun c S2 => .ok (.bl (!c)) S2 := by simp [notV]
@[simp] theorem ev_ret {m : M D} : (retM m : M (Fl C L)) S = (m S).andThen fun d S1 => .ok (.ret d) S1 := by simp [retM]
/-- how a block ends, handed on -/
def Fl.goR {L C : Type} : Fl Empty L → MS → Res (Fl C L)
  | .ret d, S => .ok (.ret d) S
  | .brk l, S => .ok (.brk l) S
  | .cnt l, S => .ok (.cnt l) S
  | .nx c, _ => c.elim
@[simp] theorem goR_ret {d : D} : (Fl.goR (.ret d : Fl Empty L) S : Res (Fl C L)) = .ok (.ret d) S := rfl
@[simp] theorem goR_brk {d : L} : (Fl.goR (.brk d : Fl Empty L) S : Res (Fl C L)) = .ok (.brk d) S := rfl
@[simp] theorem goR_cnt {d : L} : (Fl.goR (.cnt d : Fl Empty L) S : Res (Fl C L)) = .ok (.cnt d) S := rfl
@[simp] theorem ev_out {m : M (Fl Empty L)} : (outM m : M (Fl C L)) S = (m S).andThen Fl.goR := by
  unfold outM
  rw [ev_bind]
  cases m S with
  | ok z S1 => cases z <;> first | rfl | (rename_i c; exact c.elim)
  | err _ _ => rfl
  | bad => rfl
def Fl.thR {J L C : Type} (f : J → M (Fl C L)) : Fl J L → MS → Res (Fl C L)
  | .nx c, S => f c S
  | .ret d, S => .ok (.ret d) S
  | .brk l, S => .ok (.brk l) S
  | .cnt l, S => .ok (.cnt l) S
@[simp] theorem thR_nx {f : J → M (Fl C L)} {c : J} : Fl.thR f (.nx c) S = f c S := rfl
@[simp] theorem thR_ret {f : J → M (Fl C L)} {d : D} : Fl.thR f (.ret d) S = .ok (.ret d) S := rfl
@[simp] theorem thR_brk {f : J → M (Fl C L)} {d : L} : Fl.thR f (.brk d) S = .ok (.brk d) S := rfl
@[simp] theorem thR_cnt {f : J → M (Fl C L)} {d : L} : Fl.thR f (.cnt d) S = .ok (.cnt d) S := rfl
@[simp] theorem ev_then {m : M (Fl J L)} {f : J → M (Fl C L)} : thenM m f S = (m S).andThen (Fl.thR f) := by
  unfold thenM
  rw [ev_bind]
  cases m S with
  | ok z S1 => cases z <;> rfl
  | err _ _ => rfl
  | bad => rfl
def Fl.fnR : Fl Unit Empty → MS → Res D
  | .nx _, S => .ok .non S
  | .ret d, S => .ok d S
  | .brk l, _ => l.elim
  | .cnt l, _ => l.elim
@[simp] theorem fnR_nx {u : Unit} : Fl.fnR (.nx u) S = .ok .non S := rfl
@[simp] theorem fnR_ret {d : D} : Fl.fnR (.ret d) S = .ok d S := rfl
@[simp] theorem ev_fin {m : M (Fl Unit Empty)} : finM m S = (m S).andThen Fl.fnR := by
  unfold finM
  rw [ev_bind]
  cases m S with
  | ok z S1 => cases z <;> first | rfl | (rename_i c; exact c.elim)
  | err _ _ => rfl
  | bad => rfl
@[simp] theorem ev_ar1 {f : D → M D} {a : D} : ar1 f [a] = f a := rfl
@[simp] theorem ev_ar2 {f : D → D → M D} {a b : D} : ar2 f [a, b] = f a b := rfl
@[simp] theorem ev_ar3 {f : D → D → D → M D} {a b c : D} : ar3 f [a, b, c] = f a b c := rfl
@[simp] theorem ev_ar4 {f : D → D → D → D → M D} {a b c d : D} : ar4 f [a, b, c, d] = f a b c d := rfl
@[simp] theorem ev_ar5 {f : D → D → D → D → D → M D} {a b c d e : D} : ar5 f [a, b, c, d, e] = f a b c d e := rfl
@[simp] theorem ev_ar6 {f : D → D → D → D → D → D → M D} {a b c d e g : D} : ar6 f [a, b, c, d, e, g] = f a b c d e g := rfl
@[simp] theorem ev_on1 {f : D → M α} {a : D} : on1 f [a] = f a := rfl
@[simp] theorem ev_on2 {f : D → D → M α} {a b : D} : on2 f [a, b] = f a b := rfl
@[simp] theorem ev_on3 {f : D → D → D → M α} {a b c : D} : on3 f [a, b, c] = f a b c := rfl
@[simp] theorem ev_on4 {f : D → D → D → D → M α} {a b c d : D} : on4 f [a, b, c, d] = f a b c d := rfl
@[simp] theorem ev_un2 {f : D → D → M α} {a b : D} : un2 f (.tup [a, b]) = f a b := rfl
@[simp] theorem ev_un3 {f : D → D → D → M α} {a b c : D} : un3 f (.tup [a, b, c]) = f a b c := rfl
@[simp] theorem ev_unN {i : Nat} {f : List D → M α} {d : D} : unT (.nm i) f d = f [d] := rfl
@[simp] theorem ev_unT2 {i j : Nat} {f : List D → M α} {a b : D} : unT (.tp [.nm i, .nm j]) f (.tup [a, b]) = f [a, b] := rfl
@[simp] theorem ev_unT3 {i j l : Nat} {f : List D → M α} {a b c : D} : unT (.tp [.nm i, .nm j, .nm l]) f (.tup [a, b, c]) = f [a, b, c] := rfl
@[simp] theorem ev_unT4 {i j l q : Nat} {f : List D → M α} {a b c d : D} : unT (.tp [.nm i, .nm j, .nm l, .nm q]) f (.tup [a, b, c, d]) = f [a, b, c, d] := rfl
@[simp] theorem ev_unT31 {i j l q : Nat} {f : List D → M α} {a b c d : D} : unT (.tp [.tp [.nm i, .nm j, .nm l], .nm q]) f (.tup [.tup [a, b, c], d]) = f [a, b, c, d] := rfl
@[simp] theorem ev_mapX {mi : M (List D)} {f : D → M D} : mapX mi f S = (mi S).andThen fun ds S1 => if szOk ds.length = true then mapXC f ds S1 else .bad := by simp [mapX]
@[simp] theorem ev_filX {mi : M (List D)} {t : D → M Bool} {f : D → M D} : filX mi t f S = (mi S).andThen fun ds S1 => if szOk ds.length = true then filXC t f ds S1 else .bad := by simp [filX]
@[simp] theorem ev_map0 {f : D → M D} : mapXC f [] S = .ok [] S := rfl
@[simp] theorem ev_map1 {f : D → M D} {d : D} {ds : List D} : mapXC f (d :: ds) S = (f d S).andThen fun x S1 => (mapXC f ds S1).andThen fun r S2 => .ok (x :: r) S2 := by simp [mapXC]
@[simp] theorem ev_fil0 {t : D → M Bool} {f : D → M D} : filXC t f [] S = .ok [] S := rfl
@[simp] theorem ev_fil1 {t : D → M Bool} {f : D → M D} {d : D} {ds : List D} : filXC t f (d :: ds) S = (t d S).andThen fun b S1 => if b = true then (f d S1).andThen fun x S2 => (filXC t f ds S2).andThen fun r S3 => .ok (x :: r) S3 else filXC t f ds S1 := by simp [filXC]
@[simp] theorem ev_meth {cn mn : Str} {g : List D → M D} {mo : M D} {ms : List (M D)} : methM cn mn g mo ms S = (mo S).andThen fun o S1 => (isA cn mn o S1).andThen fun _ S2 => (argsM ms S2).andThen fun ds S3 => g (o :: ds) S3 := by simp [methM]
@[simp] theorem ev_calm {m : M α} {a : α} (h : m S = .ok a S') : calmM m S = .ok a S' := by unfold calmM; rw [h]
@[simp] theorem ev_opt {a : α} : ofOpt (some a) = M.pure a := rfl
@[simp] theorem ev_slice {m : M D} {lo hi : M (Option Int)} : sliceM m lo hi S = (m S).andThen fun d S1 => (lo S1).andThen fun l S2 => (hi S2).andThen fun u S3 => dCut d l u S3 := by simp [sliceM]
@[simp] theorem ev_part0 : partM none S = .ok none S := rfl
def partI : D → M (Option Int)
  | .int i => M.pure (some i)
  | _ => M.bad
@[simp] theorem partI_int {i : Int} : partI (.int i) = M.pure (some i) := rfl
@[simp] theorem ev_part1 {m : M D} : partM (some m) S = (m S).andThen fun d S1 => partI d S1 := by
  rw [partM, ev_bind]; rfl
@[simp] theorem ev_disp {ks : List Str} {ms : List (M D)} : dispM ks ms S = (argsM ms S).andThen fun ds S1 => .ok ((ks.map Sum.inr).zip ds) S1 := by simp [dispM]
@[simp] theorem ev_frzD {m : M (List (Key × D))} : frzD m S = (m S).andThen fun kvs S1 => .ok (.dic (kvs.map Prod.fst) (kvs.map Prod.snd)) S1 := by simp [frzD]
def repI (ds : List D) : D → M (List D)
  | .int k => gd (decide (-(2 ^ 63) ≤ k) && decide (k < 2 ^ 63) && szOk (ds.length * k.toNat)) (M.pure (List.replicate k.toNat ds).flatten)
  | _ => M.bad
@[simp] theorem repI_int {ds : List D} {k : Int} : repI ds (.int k) = gd (decide (-(2 ^ 63) ≤ k) && decide (k < 2 ^ 63) && szOk (ds.length * k.toNat)) (M.pure (List.replicate k.toNat ds).flatten) := rfl
@[simp] theorem ev_rep {a : M (List D)} {b : M D} : repM a b S = (a S).andThen fun ds S1 => (b S1).andThen fun k S2 => repI ds k S2 := by
  rw [repM, ev_bind]; congr
@[simp] theorem ev_chain {f g : D → D → M D} {a b c : M D} : chainM f g a b c S = (a S).andThen fun x S1 => (b S1).andThen fun y S2 => (f x y S2).andThen fun z S3 => (asB z S3).andThen fun k S4 => if k = true then (c S4).andThen fun w S5 => g y w S5 else .ok (.bl false) S4 := by simp [chainM]
/-! loops -/
@[simp] theorem ev_for0 {body : C → D → M (Fl C C)} {c : C} : (Dl.forM body [] c : M (Fl C L)) S = .ok (.nx c) S := rfl
def Fl.foR {C L : Type} (body : C → D → M (Fl C C)) (ds : List D) : Fl C C → MS → Res (Fl C L)
  | .nx c, S => Dl.forM body ds c S
  | .cnt c, S => Dl.forM body ds c S
  | .brk c, S => .ok (.nx c) S
  | .ret v, S => .ok (.ret v) S
@[simp] theorem foR_nx {body : C → D → M (Fl C C)} {ds : List D} {c : C} : (Fl.foR body ds (.nx c) S : Res (Fl C L)) = Dl.forM body ds c S := rfl
@[simp] theorem foR_cnt {body : C → D → M (Fl C C)} {ds : List D} {c : C} : (Fl.foR body ds (.cnt c) S : Res (Fl C L)) = Dl.forM body ds c S := rfl
@[simp] theorem foR_brk {body : C → D → M (Fl C C)} {ds : List D} {c : C} : (Fl.foR body ds (.brk c) S : Res (Fl C L)) = .ok (.nx c) S := rfl
@[simp] theorem foR_ret {body : C → D → M (Fl C C)} {ds : List D} {v : D} : (Fl.foR body ds (.ret v) S : Res (Fl C L)) = .ok (.ret v) S := rfl
theorem ev_for1 {body : C → D → M (Fl C C)} {d : D} {ds : List D} {c : C} : (Dl.forM body (d :: ds) c : M (Fl C L)) S = (body c d S).andThen (Fl.foR body ds) := by
  rw [Dl.forM, ev_bind]
  cases body c d S with
  | ok z S1 => cases z <;> rfl
  | err _ _ => rfl
  | bad => rfl
theorem map_enc {X : Type} {f : D → M D} (e : X → D) (g : X → D) : ∀ (xs : List X), (∀ x ∈ xs, f (e x) S = .ok (g x) S) → mapXC f (xs.map e) S = .ok (xs.map g) S
  | [], _ => rfl
  | x :: xs, h => by
    rw [List.map_cons, ev_map1, h x List.mem_cons_self, at_ok, map_enc e g xs fun y hy => h y (List.mem_cons_of_mem _ hy), at_ok, List.map_cons]
end
end Dl
/-! all pointers become values: for good, or as long as a call runs -/
namespace Dl
open PySem L2
/-- what stands at pointers, as a value -/
def viewD (S : MS) : Nat → D → D
  | 0, d => d
  | n + 1, .ptr k => match S.cells[k]? with
    | some (.lst ds) => .lst (ds.map (viewD S n))
    | some (.dic kvs) => .dic (kvs.map (·.1)) (kvs.map fun kv => viewD S n kv.2)
    | some (.ins c fs) => .obj k c (fs.map (·.1)) (fs.map fun f => viewD S n f.2)
    | _ => .ptr k
  | n + 1, .lst ds => .lst (ds.map (viewD S n))
  | n + 1, .tup ds => .tup (ds.map (viewD S n))
  | n + 1, .dic ks ds => .dic ks (ds.map (viewD S n))
  | n + 1, .obj k c ns ds => .obj k c ns (ds.map (viewD S n))
  | _ + 1, d => d
def MS.outs (S : MS) : MS := { S with cells := S.cells.map fun _ => .out }
def Gh.all (G : Gh) : Gh := { G with Z := fun b => b ∈ G.φ ∨ G.Z b }
section
variable {K : PySem.W.Frag} {mg : Str → Option Value} {G : Gh} {H : Hp} {S : MS}
theorem FR.all : FR G H G.all H :=
  ⟨List.prefix_rfl, rfl, rfl, rfl, fun _ _ h _ => h, fun b h => .inl (h.elim (fun y => .inl ⟨y.1, fun z => y.2 (.inr z)⟩) .inr), fun b h => .inl h, fun _ h => h, fun b o h => ⟨o, h⟩, rfl, .refl H⟩
theorem Wf.all (w : Wf K mg G H S) : Wf K mg G.all H S.outs := by
  refine ⟨?_, w.nd, fun i c b h1 h2 => ?_, fun b h => ?_, w.ha, w.hb, w.sab, w.na, w.nb, w.zs, w.hmg, fun i c b h1 h2 hn => ?_, fun b h => ?_, fun b h => ⟨(w.zo b h).1, fun z => ?_⟩, w.hT, w.tb⟩
  · show _ = (S.cells.map fun _ => Cell.out).length
    rw [List.length_map]; exact w.len
  · have h1 : (S.cells.map fun _ => Cell.out)[i]? = some c := h1
    rw [List.getElem?_map] at h1
    cases q : S.cells[i]? with
    | none => rw [q] at h1; cases h1
    | some x => rw [q] at h1; cases h1; trivial
  · exact w.live b (h.elim (fun h => .inl (h.elim (fun y => .inl ⟨y.1, fun z => y.2 (.inr z)⟩) .inr)) .inr)
  · have h1 : (S.cells.map fun _ => Cell.out)[i]? = some c := h1
    rw [List.getElem?_map] at h1
    cases q : S.cells[i]? with
    | none => rw [q] at h1; cases h1
    | some x => rw [q] at h1; cases h1; exact absurd rfl hn
  · rcases h with h | h
    · exact w.phi h
    · exact w.zl b h
  · rcases z with z | z
    · exact (w.zo b h).1 z
    · exact (w.zo b h).2 z
theorem all_mu {a : Addr} {k : Nat} (w : Wf K mg G H S) (hk : G.φ[k]? = some a) {o : HO} (hx : H a = some o) (ho : HO.ord o) : ¬ G.all.mu a := fun h => by
  have m := List.mem_of_getElem? hk
  rcases h with (h | h | h | h) | h
  · exact h.2 (.inl m)
  · exact w.na (by rw [← show a = G.sa from h]; exact m)
  · exact w.nb (by rw [← show a = G.sb from h]; exact m)
  · exact w.tabs_ne h hx ho
  · exact (w.zo a h).1 m
theorem all_mu' {a : Addr} (h : ¬ G.mu a) : ¬ G.all.mu a := fun z => h (z.elim (fun z => .inl (z.elim (fun y => .inl ⟨y.1, fun q => y.2 (.inr q)⟩) .inr)) .inr)
theorem reps_map {G' : Gh} {H' : Hp} {f : D → D} (h : ∀ v d, Rep K G H v d → Rep K G' H' v (f d)) : ∀ {vs : List V} {ds : List D}, Reps K G H vs ds → Reps K G' H' vs (ds.map f)
  | _, _, .nil => .nil
  | _, _, .cons r t => .cons (h _ _ r) (reps_map h t)
theorem Rep.view (w : Wf K mg G H S) : ∀ (n : Nat) (v : V) (d : D), Rep K G H v d → Rep K G.all H v (viewD S n d)
  | 0, v, d, r => r.mono .all
  | n + 1, v, d, r => by
    have ih := Rep.view w n
    cases r with
    | non => exact .non
    | bl b => exact .bl b
    | int i => exact .int i
    | str x => exact .str x
    | strm => exact .strm
    | lst h z m t => exact .lst h z (all_mu' m) (reps_map ih t)
    | tup h z t => exact .tup h z (reps_map ih t)
    | dic h z m e t => exact .dic h z (all_mu' m) e (reps_map ih t)
    | obj p c h m e t => exact .obj p c h (all_mu' m) e (reps_map ih t)
    | @ptr a k q =>
      unfold viewD
      cases qc : S.cells[k]? with
      | none => exact .ptr q
      | some c =>
        have cr := w.cell k c a qc q
        have nm : ∀ o, H a = some o → HO.ord o → ¬ G.all.mu a := fun o => all_mu w q
        cases c with
        | out => exact .ptr q
        | lst ds =>
          obtain ⟨xs, hx, z, t⟩ := cr
          exact .lst hx z (nm _ hx trivial) (reps_map ih t)
        | dic kvs =>
          obtain ⟨xs, hx, z, t⟩ := cr
          obtain ⟨e1, e2⟩ := t.fst
          refine .dic hx z (nm _ hx trivial) e1 ?_
          rw [show (kvs.map fun kv => viewD S n kv.2) = (kvs.map Prod.snd).map (viewD S n) from by rw [List.map_map]; rfl]
          exact reps_map ih e2
        | ins c fs =>
          obtain ⟨C, dx, gs, mm, hx, t⟩ := cr
          obtain ⟨e1, e2⟩ := t.fst
          refine .obj q (by rw [← w.hmg] at mm; exact mm) hx (nm _ hx trivial) e1 ?_
          rw [show (fs.map fun f => viewD S n f.2) = (fs.map Prod.snd).map (viewD S n) from by rw [List.map_map]; rfl]
          exact reps_map ih e2
end
section
variable {X : Cx} {W : WX} {ρ : List Slot} {e : Expr} {es : List Expr} {m : M D} {ms : List (M D)} {pos p : Pos}
variable {C L : Type} {k : Ct C L} {sts : List Stmt}
/-- a call that only looks: what stands at pointers is handed over as values, and all is as it was behind it; its answer is none, a truth, a number or a text -/
def borrowM (g : List D → M D) (ms : List (M D)) : M D := (argsM ms).bind fun ds S => match g (ds.map (viewD S 64)) S.outs with
  | .ok d S2 => if d.thin = true then .ok d { S with st := S2.st } else .bad
  | _ => .bad
theorem ed_borrow {x : Str} {ps : List Str} {n : Nat} {g : List D → M D} (F : FI X.prog X.w X.K X.mg X.base x ps n g) (tk : Takes X W) (hr : Room n X.A) (ha : EA X W ρ (e :: es) (argsM ms)) (hl : ms.length = ps.length := by rfl) (hg : Gl X x := by rfl)
    (hdb : (x == ("__debug__" : Str)) = false := by decide) (he : NS1 X e es := by rfl) (hpl : NS2 X pos es := by rfl) :
    ED X W ρ (.Call (.Name x p) (e :: es) [] pos) (borrowM g ms) := by
  obtain ⟨f, fd, h1, h2, h3, h4⟩ := F
  refine PE.imp (pe_callS h4 hr hg h1 h2 h3 (fun σ => passAt tk σ) ha hdb he hpl) fun σ H Q ⟨G0, H0, G, S, si, h⟩ => ⟨G0, H0, G, S, si, ?_⟩
  unfold borrowM at h
  unfold M.bind at h
  cases q : argsM ms S with
  | err _ _ => rw [q] at h; exact h
  | bad => rw [q] at h; exact h
  | ok ds S1 =>
    rw [q] at h
    intro vs G1 H1 s1 f1 r1
    have h := okG.from h f1
    simp only at h
    refine ⟨G1.all, S1.outs, ds.map (viewD S1 64), by rw [List.length_map, args_len q, hl], reps_map (Rep.view s1.wf 64) r1, s1.wf.all, ?_⟩
    cases qg : g (ds.map (viewD S1 64)) S1.outs with
    | err _ _ => rw [qg] at h; exact h.elim
    | bad => rw [qg] at h; exact h.elim
    | ok d S2 =>
      rw [qg] at h
      simp only at h
      by_cases ht : d.thin = true
      case neg => rw [if_neg ht] at h; exact h.elim
      rw [if_pos ht] at h
      intro v G2 H2 fr wf rv
      let G3 : Gh := { G1 with O := G2.O }
      have fr3 : FR G1 H1 G3 H2 := by
        refine ⟨List.prefix_rfl, rfl, rfl, rfl, fun b o hb hc => ?_, fun b hb => .inl hb, fun b hb => fr.onew b hb, fun b hb => fr.oold b hb, fr.there, rfl, fr.tb⟩
        exact fr.keep b o hb (hc.imp (fun hc z => hc (z.elim (fun y => .inl ⟨y.1, fun q => y.2 (.inr q)⟩) .inr)) id)
      have keepC : ∀ (i : Nat) (a : Addr) (o : HO), G1.φ[i]? = some a → H1 a = some o → HO.ord o → H2 a = some o := fun i a o hi ha ho => fr.keep a o ha (.inl fun z => by
        have m := List.mem_of_getElem? hi
        rcases z with z | z | z | z
        · exact z.2 (.inl m)
        · exact s1.wf.na (by rw [← show a = G1.sa from z]; exact m)
        · exact s1.wf.nb (by rw [← show a = G1.sb from z]; exact m)
        · exact s1.wf.tabs_ne z ha ho)
      have wf3 : Wf X.K X.mg G3 H2 { S1 with st := S2.st } := by
        refine ⟨s1.wf.len, s1.wf.nd, fun i c a h1 h2 => ?_, fun b hb => ?_, ?_, ?_, s1.wf.sab, s1.wf.na, s1.wf.nb, wf.zs, s1.wf.hmg, fun i c a h1 h2 hn => s1.wf.nz i c a h1 h2 hn, fun b hb => ?_, fun b hb => ?_, s1.wf.hT, fr3.tabs s1.wf.tb⟩
        · have cr := s1.wf.cell i c a h1 h2
          cases c with
          | lst ds => obtain ⟨xs, e, z, t⟩ := cr; exact ⟨xs, keepC i a _ h2 e trivial, z, t.mono fr3⟩
          | dic kvs => obtain ⟨xs, e, z, t⟩ := cr; exact ⟨xs, keepC i a _ h2 e trivial, z, t.mono fr3⟩
          | ins c fs => obtain ⟨C, dx, gs, m, e, t⟩ := cr; exact ⟨C, dx, gs, m, keepC i a _ h2 e trivial, t.mono fr3⟩
          | out => trivial
        · rcases hb with hb | hb
          · obtain ⟨o, e⟩ := s1.wf.live b (.inl hb)
            exact fr.there b o e
          · exact wf.live b (.inr hb)
        · have := wf.ha
          rw [fr.sa, fr.sb] at this
          exact this
        · have := wf.hb
          rw [fr.sb] at this
          exact this
        · obtain ⟨o, e⟩ := s1.wf.zl b hb
          exact fr.there b o e
        · rcases fr.onew b hb with y | y
          · exact s1.wf.zo b y
          · refine ⟨fun z => ?_, fun z => ?_⟩
            · obtain ⟨o, e⟩ := s1.wf.phi z
              rw [y] at e; cases e
            · obtain ⟨o, e⟩ := s1.wf.zl b z
              rw [y] at e; cases e
      refine h v G3 H2 (s1.mono fr3 wf3) fr3 ?_
      cases rv with
      | non => exact .non
      | bl b => exact .bl b
      | int i => exact .int i
      | str x => exact .str x
      | _ => cases ht
end
end Dl
/-! all but one dict is frozen: what stands in this dict becomes values -/
namespace Dl
open PySem L2
end Dl
/-! all lists at pointers become values; dicts and instances may still change -/
namespace Dl
open PySem L2
end Dl
/-! tuple(range(..)) -/
namespace Dl
open PySem L2
end Dl
/-! x or y, where x may be None or a number -/
namespace Dl
open PySem L2
def truD : D → M Bool
  | .non => M.pure false
  | .bl b => M.pure b
  | .int i => M.pure (i != 0)
  | _ => M.bad
def orX (a b : M D) : M D := a.bind fun x => (truD x).bind fun c => if c = true then M.pure x else b
@[simp] theorem tru_non : truD .non = M.pure false := rfl
@[simp] theorem tru_bl {b : Bool} : truD (.bl b) = M.pure b := rfl
@[simp] theorem tru_int {i : Int} : truD (.int i) = M.pure (i != 0) := rfl
@[simp] theorem ev_orX {a b : M D} {S : MS} : orX a b S = (a S).andThen fun x S1 => (truD x S1).andThen fun c S2 => if c = true then .ok x S2 else b S2 := by
  unfold orX
  rw [ev_bind]
  congr 1; funext x S1
  rw [ev_bind]
  congr 1; funext c S2
  cases c <;> rfl
end Dl
/-! d[i], e[j] = a, b of dicts -/
namespace Dl
open PySem L2
end Dl
/-! several values at once, to names that comprehensions read -/
namespace Dl
open PySem L2
end Dl
/-! D78: a comprehension over zip of two lists whose target is one name (the pair that was handed out before may still be there, or be gone). -/
namespace Dl
open PySem PySem.Spec PyProof.Rows L2
end Dl
/-! D79: d.get(key, default). -/
namespace Dl
open PySem L2
end Dl
/-! D80: try with several clauses, each with a name. -/
namespace L2
open PySem PySem.Spec PyProof.Rows
end L2
/-! D81: try with several named clauses, over D. -/
namespace Dl
open PySem L2
end Dl
namespace Dl
open PySem L2
end Dl
/-! D82: d[i], name = a pair. -/
namespace Dl
open PySem L2
end Dl
/-! D88: d[i], name, name = three things. -/
namespace Dl
open PySem L2
end Dl
set_option maxHeartbeats 1000000
/-! a lambda without parameters, handed to a def that calls it. (lam_at, ask_at, lamcall_at are variants of the library's lam_make2, pe_act, pe_lamcall: the library's do not say that all but the one table stays, do not let what an error finds depend on the slots, and ask the def for a promise about every heap.) -/
namespace Dl
open PySem PySem.Spec PyProof.Rows L2 LamX
end Dl
set_option maxHeartbeats 1000000
/-! a lambda handed to a def, as computations -/
namespace Dl
open PySem PySem.Spec PyProof.Rows L2 LamX
end Dl
/-! xs.pop(i), xs a list at a pointer -/
namespace Dl
open PySem L2
theorem Reps.eraseIdx {K : PySem.W.Frag} {G : Gh} {H : Hp} : ∀ {xs : List V} {ds : List D} (i : Nat), Reps K G H xs ds → Reps K G H (xs.eraseIdx i) (ds.eraseIdx i)
  | _, _, _, .nil => by rw [List.eraseIdx_nil, List.eraseIdx_nil]; exact .nil
  | _, _, 0, .cons a t => t
  | _, _, i + 1, .cons a t => .cons a (Reps.eraseIdx i t)
def popAt (o i : D) : M D := fun S => match o, i with
  | .ptr k, .int i => match S.cells[k]? with
    | some (.lst ds) => if 0 ≤ i then match ds[i.toNat]? with
      | some d => .ok d (S.put k (.lst (ds.eraseIdx i.toNat)))
      | none => .bad
      else .bad
    | _ => .bad
  | _, _ => .bad
def popAtM (mo mi : M D) : M D := mo.bind fun o => (isLstP o).bind fun _ => mi.bind fun i => popAt o i
@[simp] theorem ev_popAtM {mo mi : M D} {S : MS} : popAtM mo mi S = (mo S).andThen fun o S1 => (isLstP o S1).andThen fun _ S2 => (mi S2).andThen fun i S3 => popAt o i S3 := by simp [popAtM]
end Dl
/-! loops over enumerate(x), x a text -/
namespace PySem
end PySem
namespace L2
open PySem PySem.Spec PyProof.Rows
end L2
namespace Dl
open PySem L2
end Dl
/-! texts of data (repr): a def at one place of the stack, of which it is known that no repr runs below -/
namespace Dl
open PySem L2 PySem.Spec PyProof.Rows
section
variable {P : Program} {w : World} {K : PySem.W.Frag} {mg : Str → Option Value} {base : Heap} {CX : CXT} {k : Nat} {f : Addr} {ps : List Str}
/-- a call of a def at ONE place A of the stack (the library's own lemma speaks of all places at once) -/
theorem call_at {x qual : Str} {params : Arguments} {body : List Stmt} {scope : Scope} {dV kV doc pm cdv ct oc : Value} {an od : Option Addr} {osl : Array (Option Value)} {N : List Str}
    (e1 : K.lookup f = some ⟨oc, od, .func (PySem.W.fnOf x qual params body scope dV kV doc pm an cdv ct), osl⟩) (e2 : PySem.W.codeIn K cdv qual = true) (S : FnScope N ps scope)
    {A : Around} {out : List Env} {s : Shared} {H : Hp} {as : Args} {us : List Value} {vs : List V} {Q : VK} {E : XK} (room : Room (k + 1) A) (env : Env0 P w K mg base A out s H)
    (bind : BindsTo s (PySem.W.fnOf x qual params body scope dV kV doc pm an cdv ct) as (ps.zip us)) (r : Vals vs us) (hl : vs.length = ps.length)
    {t : TS} (ht : PSs (cxOf CX P w K mg base N qual scope f cdv A out s H E) body t) (hq : t { nx := fun _ H2 => Q .non H2, rt := Q } (start N vs) H) :
    codeAny (model P w) A (.call (.ref f) as) (CR CX out P w H s Q E) s := by
  have old : ∀ b o, base.get? b = some o → s.heap.get? b = some o := fun b o e => (env.bs b o e).1
  have kin := env.mod.kin.keeps old
  refine codeAny_call_function room.depth (kin _ _ e1) rfl S.co S.gen rfl (PySem.W.codeRec_of kin e2) (bind _ _ _ _ (wpAny_newFunctionEnv_cells S.kind (fun y hy => ?_) fun en hen t1 st => ?_))
  · exact (S.par y.1 (List.of_mem_zip (show (y.1, y.2) ∈ ps.zip us from hy)).1).imp id fun z => ⟨z, PySem.W.cellsFrom_some _ _ _ (.inl z)⟩
  subst hen
  refine ⟨(env.mod.nolimit.keeps old).keeps st.toInCall.keep, codeAny_func (wpAny_mono (ht.run [] t1 (start N vs) H _ (inv_start S room.hd env hl r st) hq) (fun fl t2 z => ?_) fun _ _ z => z)⟩
  match fl, z with
  | .ret u, ⟨v, _, H2, J, rv, q⟩ => exact ⟨v, H2, J.os, J.bare, J.base, J.hok, rv, q⟩
  | .next, ⟨_, H2, J, q⟩ => exact ⟨.non, H2, J.os, J.bare, J.base, J.hok, rfl, q⟩
  | .brk, ⟨_, _, _, q⟩ => exact q.elim
  | .cont, ⟨_, _, _, q⟩ => exact q.elim
end
/-- a def's promise where no repr runs below -/
structure FnG (P : Program) (w : World) (K : PySem.W.Frag) (mg : Str → Option Value) (base : Heap) (CX : CXT) (k : Nat) (f : Addr) (fd : FuncData) (ps : List Str) (sp : Sp) : Prop where
  ln : ∀ vs H Q E, sp vs H Q E → vs.length = ps.length
  go : ∀ {A : Around} {out : List Env} {s : Shared} {H : Hp} {as : Args} {us : List Value} {vs : List V} {Q : VK} {E : XK}, A.guards = some [] → Room k A → Env0 P w K mg base A out s H → BindsTo s fd as (ps.zip us) → Vals vs us → sp vs H Q E →
    codeAny (model P w) A (.call (.ref f) as) (CR CX out P w H s Q E) s
section
variable {P : Program} {w : World} {K : PySem.W.Frag} {mg : Str → Option Value} {base : Heap}
theorem fnG_of {x qual : Str} {st : Stmt} {f : Addr} {fd : FuncData} {N ps : List Str} {k : Nat} {sp : Sp} (F : Fun K x qual st f fd) (S : FnScope N ps (defScope st)) (ln : ∀ vs H Q E, sp vs H Q E → vs.length = ps.length)
    (hb : ∀ (cdv : Value) (A : Around) (out : List Env) (s : Shared) (H : Hp) (vs : List V) (Q : VK) (E : XK), (A.deeper (envOfC qual (defScope st) s.heap.objs.size f cdv)).guards = some [] → Room k (A.deeper (envOfC qual (defScope st) s.heap.objs.size f cdv)) → sp vs H Q E →
      ∃ t, PSs (cxOf (L2.CX P w) P w K mg base N qual (defScope st) f cdv A out s H E) (defBody st) t ∧ t { nx := fun _ H2 => Q .non H2, rt := Q } (start N vs) H) : FnG P w K mg base (L2.CX P w) (k + 1) f fd ps sp := by
  obtain ⟨oc, od, kV, doc, pm, an, cdv, ct, osl, rfl, e1, e2⟩ := F.ex
  refine ⟨ln, fun {A out s H as us vs Q E} g room env bind r hs => ?_⟩
  obtain ⟨t, ht, hq⟩ := hb cdv A out s H vs Q E g (room.deeper _) hs
  exact call_at e1 e2 S room env bind r (ln _ _ _ _ hs) ht hq
/-- the rule for such a def -/
theorem fnG_of_D {x qual : Str} {st : Stmt} {f : Addr} {fd : FuncData} {N ps : List Str} {k : Nat} {g : List D → M D} (F : Fun K x qual st f fd) (S : FnScope N ps (defScope st))
    (hb : ∀ (ds : List D), ds.length = ps.length → ∀ (cdv : Value) (A : Around) (outer : List Env) (s : Shared) (H : Hp) (E : XK), (A.deeper (envOfC qual (defScope st) s.heap.objs.size f cdv)).guards = some [] → Room k (A.deeper (PyProof.Rows.envOfC qual (defScope st) s.heap.objs.size f cdv)) →
      Takes (cxOf (L2.CX P w) P w K mg base N qual (defScope st) f cdv A outer s H E) (fun cls d _ H => E cls d H) → PassesOwn (model P w) (A.deeper (PyProof.Rows.envOfC qual (defScope st) s.heap.objs.size f cdv)) (PyProof.Rows.envOfC qual (defScope st) s.heap.objs.size f cdv) (cxOf (L2.CX P w) P w K mg base N qual (defScope st) f cdv A outer s H E).xe →
      ∃ m : M (Fl Unit Empty), g ds = finM m ∧ SD (cxOf (L2.CX P w) P w K mg base N qual (defScope st) f cdv A outer s H E) (Ct.fn K N.length E) (args N.length ds) (defBody st) m) :
    FnG P w K mg base (L2.CX P w) (k + 1) f fd ps (spD K mg ps.length g) := by
  refine fnG_of F S (fun vs H Q E h => spD_len h) (fun cdv A outer s H vs Q E hg hr h => ?_)
  obtain ⟨G, S', ds, hl, r, wf, h⟩ := h
  obtain ⟨m, e, hm⟩ := hb ds hl cdv A outer s H E hg hr (takes_of rfl rfl rfl rfl) (passes_of rfl)
  refine ⟨_, hm, G, H, G, S', si_start wf r, ?_⟩
  rw [e] at h
  unfold finM M.bind at h
  cases q : m S' with
  | ok z S1 =>
    rw [q] at h
    cases z with
    | nx c => exact fun σ G' H' s' _ => h .non G' H' s'.fr s'.wf .non
    | ret d => exact fun v G' H' fr wf r => h v G' H' fr wf r
    | brk l => exact l.elim
    | cnt l => exact l.elim
  | err x S1 =>
    rw [q] at h
    exact fun cls da σ G' H' s' _ r => h cls da G' H' s'.fr s'.wf r
  | bad => rw [q] at h; exact h
variable (P w K mg base) in
def FIG (x : Str) (ps : List Str) (k : Nat) (g : List D → M D) : Prop :=
  ∃ f fd, mg x = some (.ref f) ∧ PySem.W.keepIn K (.ref f) = true ∧ Binds K fd ps [] ∧ FnG P w K mg base (L2.CX P w) k f fd ps (spD K mg ps.length g)
end
section
variable {X : Cx} {W : WX} {ρ : List Slot} {e : Expr} {es : List Expr} {ms : List (M D)} {m : M D} {pos p : Pos} {x : Str}
theorem pe_callG {CX : CXT} {k : Nat} {f : Addr} {fd : FuncData} {ps : List Str} {sp : Sp} {E : L2.St → XK} {t : TA} (F : FnG X.prog X.w X.K X.mg X.base CX k f fd ps sp) (g : X.A.guards = some []) (hr : Room k X.A) (hg : Gl X x) (hm : X.mg x = some (.ref f)) (hk : PySem.W.keepIn X.K (.ref f) = true) (hb : Binds X.K fd ps []) (hx : ∀ σ, PassesAt CX X σ (E σ))
    (ha : PA X (e :: es) t) (hdb : (x == ("__debug__" : Str)) = false) (he : NS1 X e es) (hpl : NS2 X pos es) : PE X (.Call (.Name x p) (e :: es) [] pos) (tCallS sp E t) := by
  refine ⟨fun pins s σ H Q I h => wpAny_Call_Name_kw (ld_glob I hg hm (PySem.W.callWith_K (h₀ := X.base) I.ok.mod.kin hk (thn (ha.run pos pins s σ H _ I h) fun us s1 ⟨vs, H1, I1, r, q⟩ => ⟨I1.kIn, ?_⟩) he hpl) hdb)⟩
  have bd := hb s1 us I1.kIn (by rw [List.append_nil, ← r.length]; exact F.ln _ _ _ _ q)
  rw [List.append_nil] at bd
  refine wpAny_call (codeAny_mono (F.go g hr I1.env0 bd r q) fun z s2 hz => ?_)
  match z, hz with
  | .error ex, hz => exact hx σ pins H1 s1 ex s2 I1 hz
  | .ok (.ret u), hz => exact I1.after hz
  | .ok .next, hz => exact hz.elim
  | .ok .brk, hz => exact hz.elim
  | .ok .cont, hz => exact hz.elim
theorem ed_callG {ps : List Str} {k : Nat} {g : List D → M D} (F : FIG X.prog X.w X.K X.mg X.base x ps k g) (gu : X.A.guards = some []) (tk : Takes X W) (hr : Room k X.A) (ha : EA X W ρ (e :: es) (argsM ms)) (hl : ms.length = ps.length := by rfl) (hg : Gl X x := by rfl)
    (hdb : (x == ("__debug__" : Str)) = false := by decide) (he : NS1 X e es := by rfl) (hpl : NS2 X pos es := by rfl) :
    ED X W ρ (.Call (.Name x p) (e :: es) [] pos) (callM g ms) := by
  obtain ⟨f, fd, h1, h2, h3, h4⟩ := F
  refine PE.imp (pe_callG h4 gu hr hg h1 h2 h3 (fun σ => passAt tk σ) ha hdb he hpl) fun σ H Q ⟨G0, H0, G, S, si, h⟩ => ⟨G0, H0, G, S, si, ?_⟩
  unfold callM M.bind at h
  cases q : argsM ms S with
  | err _ _ => rw [q] at h; exact h
  | bad => rw [q] at h; exact h
  | ok ds S1 =>
    rw [q] at h
    exact fun vs G1 H1 s1 f1 r1 => ⟨G1, S1, ds, by rw [args_len q, hl], r1, s1.wf, okF_of (okG.from h f1) s1⟩
/-! ### repr -/
/-- the text of data -/
def rprOk (d : PyData) : Bool := d.showable && !d.hasDict && decide (d.depth ≤ 60) && decide (d.shown.length ≤ sizeLine)
def rRepr (K : PySem.W.Frag) : List V → Hp → VK → Prop := fun xs H Q => ∃ v d, xs = [v] ∧ Dp K H v d ∧ rprOk d = true ∧ Q (.str d.shown) H
theorem rpr_of {d : PyData} (h : rprOk d = true) : d.showable = true ∧ d.hasDict = false ∧ d.depth ≤ 60 ∧ d.shown.length ≤ sizeLine := by
  unfold rprOk at h
  simp only [Bool.and_eq_true, Bool.not_eq_true', decide_eq_true_eq] at h
  exact ⟨h.1.1.1, h.1.1.2, h.1.2, h.2⟩
theorem call_reprD (g : X.A.guards = some []) (hu : X.A.units + 64 < cLine) : CallR X (.builtin "repr") (rRepr X.K) := by
  intro pins s σ H xs us Q I r ⟨v, d, hv, hd, hk, q⟩
  subst hv
  obtain ⟨u, rfl, rx⟩ := vals1 r
  obtain ⟨z1, z2, z3, z4⟩ := rpr_of hk
  obtain ⟨as, rd⟩ := Dp.reads I d v u hd rx
  have fin : ∀ (h' : Heap) (t u : Tok), (∀ b o, s.heap.get? b = some o → h'.get? b = some o) → EP X pins σ Q (.str d.shown u) { s with heap := h', toks := t } := fun h' t u k => ⟨.str _, H, I.kept k, ⟨_, rfl⟩, q⟩
  have same : ∀ b o, s.heap.get? b = some o → s.heap.get? b = some o := fun _ _ e => e
  cases d with
  | none => cases rd; exact PySem.P.repr_of_none (fin s.heap _ _ same)
  | bool b => cases rd; exact PySem.P.repr_of_bool (fin s.heap _ _ same)
  | int i =>
    cases rd
    exact PySem.P.repr_of_int (of_decide_eq_true z1) (fin s.heap _ _ same)
  | str y =>
    cases rd
    exact PySem.P.repr_of_str (fin s.heap _ _ same) z4
  | list ds =>
    obtain ⟨a, rfl⟩ := isRef_of_reads rd rfl
    exact repr_of_reads' rd z1 (PyData.noDict_hsm z2) g (by omega) same (fun h' u t k => fin h' t u k) z4
  | tuple ds =>
    obtain ⟨a, rfl⟩ := isRef_of_reads rd rfl
    exact repr_of_reads' rd z1 (PyData.noDict_hsm z2) g (by omega) same (fun h' u t k => fin h' t u k) z4
  | dict kvs => exact absurd z2 (by simp [PyData.hasDict])
/-- repr: what stands at pointers is looked at -/
def dRepr (d : D) : M D := fun S => if (viewD S 64 d).flat && rprOk (viewD S 64 d).toPy then .ok (.str (viewD S 64 d).toPy.shown) S else .bad
theorem calld_repr {K : PySem.W.Frag} {mg : Str → Option Value} : CallD K mg (rRepr K) (ar1 dRepr) := by
  intro W G0 H0 G H σ ρ S xs ds Q si r h
  cases r with
  | nil => exact h.elim
  | @cons v d _ _ r1 t =>
    cases t with
    | cons _ _ => exact h.elim
    | nil =>
      have h : okG K mg W (RD K) G0 H0 G H σ ρ Q (dRepr d S) := h
      unfold dRepr at h
      by_cases c : ((viewD S 64 d).flat && rprOk (viewD S 64 d).toPy) = true
      case neg => rw [if_neg c] at h; exact h.elim
      rw [if_pos c] at h
      obtain ⟨c1, c2⟩ := Bool.and_eq_true_iff.mp c
      exact ⟨v, _, rfl, (Rep.view si.wf 64 v d r1).dp c1, c2, okG.here h si (.str _)⟩
end
end Dl
/-! the law itself, where its body or its helpers ask for texts (repr) -/
namespace Dl
open PySem L2 PySem.Spec PyProof.Rows
section
variable {P : Program} {w : World} {K : PySem.W.Frag} {mg : Str → Option Value}
/-- an abstract heap of the script alone -/
theorem script_heap {a : Addr} {h : Heap} {vs : List Value} {ns : List Int} (kx : K.In h) (ha : h.get? a = some { cls := .type "list", data := .seq vs.toArray }) (r : Vals (ns.map V.int) vs) (hl : ns.length ≤ sizeLine) :
    ∃ H : Hp, Only H ∧ SqL K H a (ns.map V.int) ∧ HOk P w H h ∧ ∀ b, H b ≠ none → b = a ∧ K.lookup a = none := by
  by_cases c : K.lookup a = none
  · let fz : HO := .frz { cls := .type "list", data := .seq vs.toArray } (.lst (ns.map V.int))
    have key : ∀ b u, (if b = a then some fz else none) = some u → b = a ∧ u = fz := fun b u e => by
      by_cases q : b = a
      · rw [if_pos q] at e; cases e; exact ⟨q, rfl⟩
      · rw [if_neg q] at e; cases e
    refine ⟨fun b => if b = a then some fz else none, fun b => ?_, .inl (.inr ⟨{ cls := .type "list", data := .seq vs.toArray }, if_pos rfl⟩), fun b u e => ?_, fun b e => ⟨?_, c⟩⟩
    · by_cases q : b = a
      · exact .inr ⟨_, _, if_pos q⟩
      · exact .inl (if_neg q)
    · obtain ⟨rfl, rfl⟩ := key b u e
      exact ⟨ha, by rw [List.length_map]; exact hl, vs, _, r, ha⟩
    · by_cases q : b = a
      · exact q
      · exact absurd (if_neg q) e
  · obtain ⟨o, hk⟩ := Option.ne_none_iff_exists'.mp c
    have e := kx a o hk
    rw [ha] at e
    cases e
    have z : vs.toArray.size ≤ sizeLine := by rw [List.size_toArray, ← r.length, List.length_map]; exact hl
    exact ⟨fun _ => none, fun _ => .inl rfl, .inr ⟨_, vs.toArray, _, hk, rfl, rfl, rfl, z, by simpa using r⟩, fun _ _ z => (nomatch (show (none : Option HO) = some _ from z)), fun _ z => absurd rfl z⟩
theorem law_at {mb : Str → Option Value} {CX : CXT} {k : Nat} {fa a : Addr} {fd : FuncData} {x : Str} {sp : Sp} {s : Shared} {vs : List Value} {ns : List Int} (kx : K.In s.heap) (n1 : s.heap.Ns mainGlobals mg) (n2 : s.heap.Ns builtinsNs mb) (n3 : ∀ x : Str, x ≠ "__name__" → mb x = bootBuiltins x)
    (lim : s.heap.NoLimit) (gs : s.gens = #[]) (ha : s.heap.get? a = some { cls := .type "list", data := .seq vs.toArray }) (hi : IntsAre vs ns) (hl : ns.length ≤ sizeLine) (room : Room k callerA) (F : ∀ base : Heap, K.In base → base.Ns mainGlobals mg → FnG P w K mg base CX k fa fd [x] sp)
    (bind : ∀ (s : Shared) (u : Value), BindsTo s fd ⟨[u], []⟩ [(x, u)]) (hsp : ∀ H : Hp, Only H → SqL K H a (ns.map V.int) → sp [.ref a] H (fun v _ => v = .bl true) fun _ _ _ => False) (hx : ∀ H e s2, CX [] H s (fun _ _ _ => False) e s2 → False) :
    codeAny (model P w) callerA (.call (.ref fa) ⟨[.ref a], []⟩) (fun r s2 => r = .ok (.ret (.bool true)) ∧ OldK s.heap s2.heap ∧ s2.os = s.os ∧ AllBare s2.gens) s := by
  obtain ⟨H, only, hS, hok, hA⟩ := script_heap (P := P) (w := w) kx ha (vals_ints hi) hl
  have there : ∀ {b : Addr} {o : Obj}, s.heap.get? b = some o → H b = none → (hidT s.heap H).get? b = some o := fun e n => hidT_get e n
  have kb : K.In (hidT s.heap H) := fun b o e => there (kx b o e) (Classical.byContradiction fun q => by
    obtain ⟨rfl, z⟩ := hA b q
    rw [z] at e; cases e)
  have ns : ∀ {b : Addr} {m : Str → Option Value}, s.heap.Ns b m → (hidT s.heap H).Ns b m := fun {b m} ⟨o, es, ep, e, d, r⟩ => ⟨o, es, ep, there e (Classical.byContradiction fun q => by
    obtain ⟨rfl, _⟩ := hA b q
    rw [ha] at e; cases e
    cases (show Data.seq vs.toArray _ = Data.dict es ep from d)), d, r⟩
  obtain ⟨mc, l1, l2⟩ := lim
  have env : Env0 P w K mg (hidT s.heap H) callerA [] s H := ⟨rfl, ⟨kb, ns n1, ⟨mb, ns n2, n3⟩, mc, ns l1, l2⟩, fun b o e => of_hidT e, Nat.le_of_eq (hidT_size _ _), trivial, fun b z => (nomatch z), hok, .of_eq gs⟩
  refine codeAny_mono ((F _ kb (ns n1)).go (us := [.ref a]) (vs := [.ref a]) rfl room env (bind s (.ref a)) (.cons rfl .nil) (hsp H only hS)) fun r s2 h => ?_
  match r, h with
  | .error e, h => exact (hx H e s2 h).elim
  | .ok .next, h => exact h.elim
  | .ok .brk, h => exact h.elim
  | .ok .cont, h => exact h.elim
  | .ok (.ret u), ⟨v, H2, os, bare, un, hok2, rv, q⟩ =>
    obtain rfl : v = .bl true := q
    obtain rfl : u = Value.bool true := rv
    refine ⟨rfl, OldK.of_keep fun b o e => ?_, os, bare⟩
    rcases only b with z | ⟨ob, xs, z⟩
    · exact un.keep b o e z (fun z => (nomatch z)) (by simp)
    · have o1 := (hok b _ z).1
      have o2 := (hok2 b _ (un.frzs b ob _ z)).1
      rw [e] at o1
      cases o1
      exact o2
end
theorem walk_at {l : PySem.W.OpenLaw} {n k : Nat} {q : Program} {loose : List Str} {XP : (Str → Option Value) → Heap → Prop} {YP : World → Heap → Prop} {d : DefRec} {K : Params → PySem.W.Frag} {CX : World → CXT} {sp : World → Sp} {x : Str} (hn : l.most = some n) (hn2 : n ≤ sizeLine) (hdf : d.params.defaults = []) (room : Room k callerA)
    (hY : ∀ (w : World) (h : Heap), YP w h → (K w.params).In h)
    (F : ∀ (w : World) (mg : Str → Option Value) (fa : Addr) (h : Heap), (K w.params).In h → h.Ns mainGlobals mg → mg d.name = some (.ref fa) → ∃ fd : FuncData, (∀ (s : Shared) (u : Value), BindsTo s fd ⟨[u], []⟩ [(x, u)]) ∧ ∀ base : Heap, (K w.params).In base → base.Ns mainGlobals mg → FnG l.prog w (K w.params) mg base (CX w) k fa fd [x] (sp w))
    (hsp : ∀ (w : World) (H : Hp) (a : Addr) (ns : List Int), ns.length ≤ n → Only H → SqL (K w.params) H a (ns.map V.int) → sp w [.ref a] H (fun v _ => v = .bl true) fun _ _ _ => False)
    (hx : ∀ (w : World) (H : Hp) (s : Shared) (e : Value) (s2 : Shared), CX w [] H s (fun _ _ _ => False) e s2 → False) : PySem.W.WalkO q loose XP YP l.row.toRowW d [] (fun f vs => PySem.call f vs) :=
  Att.attach_call hn hdf fun w s0 s1 mg mb fa o pm cd doc a vs ns G Y ho hd hcd hmg hobj hints hlen hg => by
    obtain ⟨fd, hb, hF⟩ := F w mg fa _ (hY w _ Y) G.T.g hmg
    exact law_at (hY w _ Y) G.T.g G.T.b G.T.builtins G.T.nolimit hg hobj hints (Nat.le_trans hlen hn2) room hF hb (fun H => hsp w H a ns hlen) fun H => hx w H s1
end Dl
set_option maxHeartbeats 1000000
/-! the law itself, where it or a helper of it makes lambdas (law_atT: as law_at, with the table; the part on the table follows the library's law_callTs) -/
namespace Dl
open PySem PySem.Spec PyProof.Rows L2 LamX
end Dl
set_option maxHeartbeats 1000000
/-! the end of a law with lambdas -/
namespace Dl
open PySem PySem.Spec PyProof.Rows L2 LamX
end Dl
/-! sum of lists, put end to end: sum(rows, []) -/
namespace Dl
open PySem L2 PySem.Spec PyProof.Rows
abbrev lstO (its : List Value) (n : Nat) : Obj := { cls := .type "list", data := .seq its.toArray n }
section
variable {prog : Program} {w : World} {A : Around} {R : Result → Shared → Prop} {I S : Addr} {fp wr : List Addr} {n : Nat} {P : Nat → Value → Prop} {St : Nat → Heap → Prop}
/-- what a turn needs of the rows that are still to come -/
def Rows (h : Heap) (S : Addr) (wr : List Addr) (bs : Nat → Addr) (zs : Nat → List Value) (i n : Nat) : Prop := ∀ j, i ≤ j → j < n → bs j ≠ S ∧ bs j ∉ wr ∧ ∃ e, h.get? (bs j) = some (lstO (zs j) e)
end
/-! as a rule -/
end Dl
/-! sums of lists; clear; slices of a list at a pointer set anew -/
namespace Dl
open PySem L2 PySem.Spec PyProof.Rows
/-! ### sum(rows, []) -/
/-! ### xs.clear() -/
end Dl
/-! a list that was built by a comprehension gets a pointer -/
namespace Dl
open PySem L2
def boxOwn (ds : List D) : M D := fun S => .ok (.ptr S.cells.length) { S with cells := S.cells ++ [.lst ds] }
@[simp] theorem ev_boxOwn {ds : List D} {S : MS} : boxOwn ds S = .ok (.ptr S.cells.length) { S with cells := S.cells ++ [.lst ds] } := rfl
end Dl
/-! D65: zip of a tuple and a list (either first). -/
namespace Dl
open PySem PySem.Spec PyProof.Rows L2
end Dl
/-! D66: is not True, is not False -/
namespace Dl
open PySem L2
def dNotB (b : Bool) : D → M D
  | .bl c => M.pure (.bl (!decide (c = b)))
  | _ => M.bad
@[simp] theorem notb_bl {b c : Bool} : dNotB b (.bl c) = M.pure (.bl (!(c == b))) := by cases b <;> cases c <;> rfl
end Dl
/-! D67: str of lists and tuples -/
namespace Dl
open PySem L2 PySem.Spec PyProof.Rows
end Dl
/-! D68: in, for data of any depth -/
namespace Dl
open PySem L2 PySem.Spec PyProof.Rows
end Dl
/-! D69: comparing what stands at pointers -/
namespace Dl
open PySem L2
end Dl
/-! repr where it may be handed an empty dict; == that looks at pointers -/
namespace Dl
open PySem PySem.Spec PyProof.Rows L2
section
variable {X : Cx} {W : WX} {ρ : List Slot} {e a b : Expr} {m ma mb : M D} {pos p : Pos}
/-- alike: what stands at pointers is looked at -/
def dEqV (d e : D) : M D := fun S => if ((viewD S 64 d).plain && (viewD S 64 e).plain) = true then .ok (.bl ((viewD S 64 d).eqv (viewD S 64 e))) S else .bad
theorem opd_eqV {K : PySem.W.Frag} {mg : Str → Option Value} : OpD K mg (rEqD K) dEqV := by
  intro W G0 H0 G H σ ρ S x y d e Q si r1 r2 h
  unfold dEqV at h
  by_cases c : ((viewD S 64 d).plain && (viewD S 64 e).plain) = true
  case neg => rw [if_neg c] at h; exact h.elim
  rw [if_pos c] at h
  obtain ⟨z1, z2⟩ := Bool.and_eq_true_iff.mp c
  obtain ⟨f1, s1⟩ := plain_of z1
  obtain ⟨f2, s2⟩ := plain_of z2
  exact ⟨_, _, (Rep.view si.wf 64 x d r1).dp f1, (Rep.view si.wf 64 y e r2).dp f2, s1, s2, okG.here h si (.bl _)⟩
theorem ed_eqV {k : Nat} (hr : Room k X.A) (ha : ED X W ρ a ma) (hb : ED X W ρ b mb) (hm : behindInMarks .Eq b = false := by rfl) : ED X W ρ (.Compare a [.Eq] [b] pos) (bin dEqV ma mb) := ed_cmp (op_eqD hr.units) opd_eqV ha hb hm
/-- the text of data, or of an empty dict -/
def rReprE (K : PySem.W.Frag) : List V → Hp → VK → Prop := fun xs H Q => rRepr K xs H Q ∨ ∃ a, xs = [.ref a] ∧ H a = some (.dK []) ∧ Q (.str "{}") H
theorem call_reprE (g : X.A.guards = some []) (hu : X.A.units + 64 < cLine) : CallR X (.builtin "repr") (rReprE X.K) := by
  intro pins s σ H xs us Q I r h
  rcases h with h | ⟨a, hx, ha, q⟩
  · exact call_reprD g hu pins s σ H xs us Q I r h
  subst hx
  obtain ⟨u, rfl, rx⟩ := vals1 r
  obtain rfl : u = Value.ref a := rx
  obtain ⟨_, ns, vs, kv, o, es, ep, e1, e2, e3, _, e4, _⟩ := I.hok a _ ha
  cases kv
  have e5 : es.toList = [] := by
    cases q : es.toList with
    | nil => rfl
    | cons x xs => rw [q] at e4; exact absurd e4 (by first | exact fun h => h.elim | exact fun h => nomatch h | simp [Pairs])
  have rd : Reads s.heap (.ref a) (.dict []) [a] := by
    have := Reads.dict (h := s.heap) (a := a) (kvs := []) (as := []) (bs := []) e1 e2.1 e3 (by rw [e5]; exact .nil) (by rw [e5]; exact .nil)
    exact this
  exact repr_of_reads' (h₀ := s.heap) rd rfl (fun _ z => by
    rw [← List.mem_singleton.mp z] at ns
    simp at ns) g (by show X.A.units + 2 < cLine; omega) (fun _ _ e => e) (fun h' u t k => ⟨.str _, H, I.kept k, ⟨_, rfl⟩, q⟩) (by rw [sizeLine_eq]; decide)
def dReprE (d : D) : M D := fun S => match viewD S 64 d with
  | .dic [] [] => .ok (.str "{}") S
  | _ => dRepr d S
theorem calld_reprE {K : PySem.W.Frag} {mg : Str → Option Value} : CallD K mg (rReprE K) (ar1 dReprE) := by
  intro W G0 H0 G H σ ρ S xs ds Q si r h
  have other : okG K mg W (RD K) G0 H0 G H σ ρ Q (ar1 dRepr ds S) → rReprE K xs H Q := fun h => .inl (calld_repr W G0 H0 G H σ ρ S xs ds Q si r h)
  cases r with
  | nil => exact h.elim
  | @cons v d _ _ r1 t =>
    cases t with
    | cons _ _ => exact h.elim
    | nil =>
      have h : okG K mg W (RD K) G0 H0 G H σ ρ Q (dReprE d S) := h
      unfold dReprE at h
      split at h
      · rename_i q
        have rv := Rep.view si.wf 64 v d r1
        rw [q] at rv
        cases rv with
        | dic e1 _ _ e4 _ =>
          have e5 := List.map_eq_nil_iff.mp e4
          subst e5
          exact .inr ⟨_, rfl, e1, okG.here h si (.str _)⟩
      · exact other h
theorem ed_reprE (g : X.A.guards = some []) (hu : X.A.units + 64 < cLine) (hm : X.mg "repr" = none) (ha : ED X W ρ e m) (hg : Gl X "repr" := by rfl) (hs : starEach [e] X.env = (false, eval e X.env) :: starEach [] X.env := by rfl) (he : NS1 X e [] := by rfl) (hpl : NS2 X pos [] := by rfl) :
    ED X W ρ (.Call (.Name "repr" p) [e] [] pos) (callM (ar1 dReprE) [m]) := ed_callB (call_reprE g hu) calld_reprE hm PyProof.Rows.boot_repr (ea_cons ha ea_nil hs) hg (by decide) (by decide) he hpl
end
end Dl
set_option maxHeartbeats 1000000
/-! a loop over a list at a pointer, whose body leaves all that stands at pointers -/
namespace Dl
open PySem L2
end Dl
set_option maxHeartbeats 1000000
/-! o[k], o[k] = v where the object's class has methods of its own for it (pe_itemO follows the library's sub_K, set_itemO its ksp_setItem) -/
namespace Dl
open PySem PySem.Spec PyProof.Rows L2
theorem fnIn_of {K : PySem.W.Frag} {x qual : Str} {st : Stmt} {f : Addr} {fd : FuncData} (F : Fun K x qual st f fd) : PySem.W.fnIn K f = true := by
  obtain ⟨oc, od, kV, doc, pm, an, cdv, ct, osl, rfl, e1, e2⟩ := F.ex
  unfold PySem.W.fnIn
  rw [e1]
section
variable {P : Program} {w : World} {K : PySem.W.Frag} {base : Heap} {mg : Str → Option Value}
/-- as MI, of a def in Python, of a class that is no sequence's -/
def MIO (P : Program) (w : World) (K : PySem.W.Frag) (mg : Str → Option Value) (base : Heap) (c m : Str) (ps : List Str) (k : Nat) (g : List D → M D) : Prop :=
  ∃ C f fd, CI K mg c C ∧ Meth K C m f ∧ Binds K fd ps [] ∧ PySem.W.fnIn K f = true ∧ PySem.W.noSeq K C = true ∧ FnOk P w K mg base (L2.CX P w) k f fd ps (spD K mg ps.length g)
end
section
variable {X : Cx} {ta tb : TE} {a b : Expr} {pos : Pos}
theorem run_meth {CX : CXT} {k : Nat} {C f ad dx : Addr} {fd : FuncData} {ps : List Str} {sp : L2.Sp} {E : XK} {fs : List (Str × V)} {pins : List (Addr × Obj)} {σ : L2.St} {H : Hp} {s : Shared} {Q : VK} {vs : List V} {us : List Value} (F : FnOk X.prog X.w X.K X.mg X.base CX k f fd ps sp) (hr : Room (k + 1) X.A) (hb : Binds X.K fd ps []) (hx : PassesAt CX X σ E) (I : Inv X pins σ H s) (r : Vals vs us) (h : sp (.ref ad :: vs) H Q E) :
    wpAny (model X.prog X.w) X.A.in1 (call (.ref f) (.ref ad :: us)) (EP X pins σ Q) X.xe s := by
  apply wpAny_call
  have hl : ((Value.ref ad :: us) ++ []).length = ps.length := by
    have := F.len _ _ _ _ h
    rw [List.append_nil, List.length_cons, ← r.length]
    exact this
  apply codeAny_mono (F.run X.A.in1 X.stack s H ⟨.ref ad :: us, []⟩ (.ref ad :: us) (.ref ad :: vs) Q E hr.in1 I.env0.in1 (by have := hb s (.ref ad :: us) I.kIn hl; rw [List.append_nil] at this; exact this) (.cons rfl r) h)
  intro z s2 hq
  match z, hq with
  | .error er, hq => exact hx pins H s er s2 I hq
  | .ok (.ret u), hq => exact I.after hq
  | .ok .next, hq => exact hq.elim
  | .ok .brk, hq => exact hq.elim
  | .ok .cont, hq => exact hq.elim
theorem pe_itemO {CX : CXT} {k : Nat} {C f : Addr} {fd : FuncData} {ps : List Str} {sp : L2.Sp} {E : L2.St → XK} (hm : Meth X.K C "__getitem__" f) (hf : PySem.W.fnIn X.K f = true) (F : FnOk X.prog X.w X.K X.mg X.base CX k f fd ps sp) (hr : Room (k + 1) X.A) (hb : Binds X.K fd ps []) (hx : ∀ σ, PassesAt CX X σ (E σ)) (ha : PE X a ta) (hi : PE X b tb)
    (hs : ∀ o i : Value, subscripted b true o i = runValue (.builtin "lifetime.subscript" ⟨[o, i], []⟩) := by intro _ _; with_unfolding_all rfl) :
    PE X (.Subscript a b pos) (fun σ H Q => ta σ H fun x H1 => tb σ H1 fun y H2 => ∃ ad dx fs, x = .ref ad ∧ H2 ad = some (.ins C dx fs) ∧ sp [.ref ad, y] H2 Q (E σ)) := by
  refine ⟨fun pins s σ H Q I h => ?_⟩
  refine Subscript_ (binT ha hi I h fun v u s2 x y H2 I2 rx ry q => ?_)
  obtain ⟨ad, dx, fs, ex, ea, w⟩ := q
  subst ex
  obtain rfl : v = Value.ref ad := rx
  obtain ⟨mA, O, _⟩ := ins_get I2.hok ea
  obtain ⟨od, J, _⟩ := O.look
  have run := run_meth (C := C) (dx := dx) (fs := fs) (vs := [y]) (us := [u]) F hr hb (hx σ) I2 (.cons ry .nil) w
  have hf2 := hf
  unfold PySem.W.fnIn at hf2
  split at hf2
  · rename_i e
    unfold subscriptTail getitemInPython
    refine wpAny_bind (wpAny_bind (wpAny_bind (J.type.here ((PySem.W.looks_findIn I2.kIn hm.at_).here ?_))))
    dsimp only
    refine wpAny_bind (wpAny_load (I2.kIn _ _ e) (wpAny_pure ?_))
    dsimp only
    rw [hs]
    refine wpAny_bind (wpAny_runValue (codeAny_builtin PySem.W.entry_sub ?_))
    unfold Builtin.«lifetime.subscript»
    refine wpAny_bind (PySem.W.special_fn I2.kIn J hm.at_ (by have q := hm.fn; unfold PySem.W.isFn at q; exact beq_iff_eq.mp q) (wpAny_mono run (fun v2 s3 z => ?_) fun _ _ z => z))
    refine wpAny_pure ?_
    show wpAny _ _ (letTemporaryGo a (.ref ad) v2 >>= fun _ => pure v2) _ _ s3
    exact wpAny_bind (wpAny_letTemporaryGo (wpAny_pure z))
  · cases hf2
end
def getOM (cn : Str) (g : List D → M D) (mo mi : M D) : M D := mo.bind fun o => mi.bind fun i => (isIns cn o).bind fun _ => g [o, i]
section
variable {X : Cx} {W : WX} {ρ : List Slot} {a b : Expr} {ma mb : M D} {pos : Pos}
theorem ed_getO {cn s1 s2 : Str} {k : Nat} {g : List D → M D} (F : MIO X.prog X.w X.K X.mg X.base cn "__getitem__" [s1, s2] k g) (tk : Takes X W) (hr : Room (k + 1) X.A) (ha : ED X W ρ a ma) (hb : ED X W ρ b mb)
    (hs : ∀ o i : Value, subscripted b true o i = runValue (.builtin "lifetime.subscript" ⟨[o, i], []⟩) := by intro _ _; with_unfolding_all rfl) : ED X W ρ (.Subscript a b pos) (getOM cn g ma mb) := by
  obtain ⟨C, f, fd, T, hm, bd, hf, hq, F⟩ := F
  refine PE.imp (pe_itemO hm hf F hr bd (fun σ => passAt tk σ) ha hb hs) fun σ H Q ⟨G0, H0, G, S, si, h⟩ => ⟨G0, H0, G, S, si, okG.bind h fun G1 H1 S1 x d s1 f1 r1 h1 => ⟨G0, H0, G1, S1, s1, okG.bind h1 fun G2 H2 S2 y e s2 f2 r2 h2 => ?_⟩⟩
  have ro := Rep.mono f2 r1
  obtain ⟨⟨ad, dx, gs, ev, ea⟩, h2⟩ := isIns_ok s2 ro T.mg h2
  exact ⟨ad, dx, gs, ev, ea, G2, S2, [d, e], rfl, by rw [← ev]; exact .cons ro (.cons r2 .nil), s2.wf, okF_of h2 s2⟩
end
end Dl
set_option maxHeartbeats 1000000
/-! loops and comprehensions over what stands at a pointer: behind each turn it is looked whether it still stands there -/
namespace Dl
open PySem L2
/-- the items, and what must stand for them to be told -/
abbrev RI := List D × (MS → Prop)
open Classical in
noncomputable def chk (c : MS → Prop) : M Unit := fun S => if c S then .ok () S else .bad
theorem chk_ok {c : MS → Prop} {S : MS} (h : c S) : chk c S = .ok () S := by
  unfold chk
  rw [if_pos h]
theorem chk_bad {c : MS → Prop} {S : MS} (h : ¬ c S) : chk c S = .bad := by
  unfold chk
  rw [if_neg h]
/-- J gives the items as long as c holds -/
def IsWR (K : PySem.W.Frag) (mg : Str → Option Value) (J : It) (p : RI) (G : Gh) (H : Hp) : Prop := ∃ (Gd : Hp → Prop) (Y : Nat → Hp → V → Hp → Prop), Walk J p.1.length Gd Y ∧ (∀ G1 H1 S1, LR G H G1 H1 → Wf K mg G1 H1 S1 → p.2 S1 → Gd H1) ∧
  ∀ i G1 H1 S1 x H2, i < p.1.length → LR G H G1 H1 → Wf K mg G1 H1 S1 → p.2 S1 → Y i H1 x H2 → (H2 = H1 ∨ ∃ q o, H1 q = none ∧ H2 = upd H1 q o) ∧ ∃ d, p.1[i]? = some d ∧ Rep K G1 H2 x d
section
variable (K : PySem.W.Frag) (mg : Str → Option Value) (W : WX)
def okIR (G0 : Gh) (H0 : Hp) (G : Gh) (H : Hp) (σ : L2.St) (ρ : List Slot) (R : It → Hp → Prop) : Res RI → Prop
  | .ok p S => ∀ J G' H', SI K mg G0 H0 G' H' σ ρ S → FR G H G' H' → p.2 S → IsWR K mg J p G' H' → R J H'
  | .err e S => ∀ cls da G' H', SI K mg G0 H0 G' H' σ ρ S → FR G H G' H' → ErrRep K mg G' H' e cls da → W cls da σ H'
  | .bad => False
def tIR (ρ : List Slot) (m : M RI) : TI := fun σ H R => ∃ G0 H0 G S, SI K mg G0 H0 G H σ ρ S ∧ okIR K mg W G0 H0 G H σ ρ R (m S)
end
def IDR (X : Cx) (W : WX) (ρ : List Slot) (tg iter : Expr) (m : M RI) : Prop := PI X tg iter (tIR X.K X.mg W ρ m)
section
variable {K : PySem.W.Frag} {mg : Str → Option Value} {W : WX} {α β : Type} {R : Gh → Hp → β → α → Prop} {G0 G G1 : Gh} {H0 H H1 : Hp} {σ : L2.St} {ρ : List Slot} {Q : β → Hp → Prop} {Q' : It → Hp → Prop} {S : MS}
theorem okIR.from {r : Res RI} (h : okIR K mg W G0 H0 G H σ ρ Q' r) (f : FR G H G1 H1) : okIR K mg W G0 H0 G1 H1 σ ρ Q' r := by
  cases r with
  | ok a S => exact fun J G' H' s r c q => h J G' H' s (f.trans r) c q
  | err e S => exact fun cls da G' H' s r => h cls da G' H' s (f.trans r)
  | bad => exact h
theorem okIR.bind {m : M α} {f : α → M RI} (h : okIR K mg W G0 H0 G H σ ρ Q' (m.bind f S))
    (k : ∀ G1 H1 S1 b a, SI K mg G0 H0 G1 H1 σ ρ S1 → FR G H G1 H1 → R G1 H1 b a → okIR K mg W G0 H0 G1 H1 σ ρ Q' (f a S1) → Q b H1) : okG K mg W R G0 H0 G H σ ρ Q (m S) := by
  unfold M.bind at h
  cases e : m S with
  | ok a S1 => rw [e] at h; exact fun b G1 H1 s1 f1 r1 => k G1 H1 S1 b a s1 f1 r1 (h.from f1)
  | err x S1 => rw [e] at h; exact h
  | bad => rw [e] at h; exact h
end
/-- the items of a list (at a pointer, too) or of a tuple -/
def itemsR : D → M RI
  | .lst ds => M.pure (ds, fun _ => True)
  | .tup ds => M.pure (ds, fun _ => True)
  | .ptr k => fun S => match S.cells[k]? with
    | some (.lst ds) => .ok (ds, fun S' => S'.cells[k]? = some (.lst ds)) S
    | _ => .bad
  | _ => M.bad
theorem Wf.at_lst {K : PySem.W.Frag} {mg : Str → Option Value} {G1 G2 : Gh} {H1 H2 : Hp} {S2 : MS} {n : Nat} {a : Addr} {ds : List D} (e1 : G1.φ[n]? = some a) (r : LR G1 H1 G2 H2) (w2 : Wf K mg G2 H2 S2) (c2 : S2.cells[n]? = some (.lst ds)) : ∃ xs, H2 a = some (.lst xs) ∧ Reps K G2 H2 xs ds := by
  have ph : G2.φ[n]? = some a := by
    obtain ⟨t, e⟩ := r.pre
    rw [← e, List.getElem?_append_left (List.getElem?_eq_some_iff.mp e1).1]
    exact e1
  obtain ⟨xs, e, _, t⟩ := w2.cell n _ a c2 ph
  exact ⟨xs, e, t⟩
section
variable {X : Cx} {W : WX} {ρ : List Slot} {a b c e tg : Expr} {ma mb mc m : M D} {pos p : Pos}
theorem idr_seq (h : ED X W ρ e m) : IDR X W ρ tg e (m.bind itemsR) := PI.imp (pi_seq h) fun σ H R ⟨G0, H0, G, S, si, h⟩ => ⟨G0, H0, G, S, si, okIR.bind h fun G1 H1 S1 x d s1 f1 r1 h1 => by
  cases r1 with
  | lst e1 z n t =>
    rename_i a xs ds
    refine ⟨_, rfl, .inl ⟨⟨_, SqL.of e1⟩, h1 _ G1 H1 s1 (.refl _ _) trivial ⟨fun H => SqL X.K H a xs, YAt xs, by rw [← t.length]; exact walk_list, fun G2 H2 S2 r _ _ => SqL.of (r.keep _ _ e1 (.inl n)), fun i G2 H2 S2 x H3 _ r _ _ y => ?_⟩⟩⟩
    obtain ⟨e, q⟩ := y
    subst e
    obtain ⟨d, hd, rd⟩ := (t.lr r).getV q
    exact ⟨.inl rfl, d, hd, rd⟩
  | tup e1 z t =>
    rename_i a xs ds
    refine ⟨_, rfl, .inr ⟨⟨_, e1⟩, h1 _ G1 H1 s1 (.refl _ _) trivial ⟨fun H => SqT X.K H a xs, YAt xs, by rw [← t.length]; exact walk_tup, fun G2 H2 S2 r _ _ => r.sqT e1, fun i G2 H2 S2 x H3 _ r _ _ y => ?_⟩⟩⟩
    obtain ⟨e, q⟩ := y
    subst e
    obtain ⟨d, hd, rd⟩ := (t.lr r).getV q
    exact ⟨.inl rfl, d, hd, rd⟩
  | ptr e1 =>
    rename_i a n
    unfold itemsR at h1
    cases qc : S1.cells[n]? with
    | none => simp only [qc] at h1; exact h1.elim
    | some c =>
      cases c with
      | lst ds =>
        simp only [qc] at h1
        obtain ⟨xs1, ex1, _⟩ := s1.wf.at_lst e1 (.refl _ _) qc
        refine ⟨_, rfl, .inl ⟨⟨_, SqL.of ex1⟩, h1 _ G1 H1 s1 (.refl _ _) qc ⟨fun H => ∃ xs, SqL X.K H a xs ∧ xs.length = ds.length, fun i H x H' => H' = H ∧ ∀ xs, SqL X.K H a xs → xs[i]? = some x, ⟨fun i H hi ⟨xs, q, l⟩ => ⟨xs, xs[i]'(by show i < xs.length; rw [l]; exact hi), q, by simp⟩, fun H ⟨xs, q, l⟩ => ⟨xs, q, by show xs.length ≤ ds.length; omega⟩, fun i H x H' _ _ y => y⟩, fun G2 H2 S2 r w2 c2 => ?_, fun i G2 H2 S2 x H3 hi r w2 c2 y => ?_⟩⟩⟩
        · obtain ⟨xs, e, t⟩ := w2.at_lst e1 r c2
          exact ⟨xs, SqL.of e, t.length⟩
        · obtain ⟨rfl, y⟩ := y
          obtain ⟨xs, e, t⟩ := w2.at_lst e1 r c2
          obtain ⟨d, hd, rd⟩ := t.getV (y xs (SqL.of e))
          exact ⟨.inl rfl, d, hd, rd⟩
      | dic _ => simp only [qc] at h1; exact h1.elim
      | out => simp only [qc] at h1; exact h1.elim
      | ins _ _ => simp only [qc] at h1; exact h1.elim
  | _ => exact h1.elim⟩
end
end Dl
/-! comparisons in an except suite -/
namespace Dl
open PySem L2
end Dl
set_option maxHeartbeats 1000000
namespace Dl
open PySem L2
/-! ### comprehensions -/
noncomputable def compR (c : MS → Prop) (f : D → M (Option D)) : List D → M (List D)
  | [] => M.pure []
  | d :: ds => (f d).bind fun o => (chk c).bind fun _ => (compR c f ds).bind fun r => M.pure (match o with | some x => x :: r | none => r)
noncomputable def lcRM (mi : M RI) (u : D → Option (List D)) (mt : List D → M Bool) (me : List D → M D) : M (List D) := mi.bind fun p => if szOk p.1.length = true then compR p.2 (fun d => unM u (eltM mt me) d) p.1 else M.bad
section
variable {X : Cx} {W : WX} {ρ : List Slot} {tg iter elt : Expr} {ifs : List Expr} {scope : Scope} {own : List (Str × Nat)} {pos : Pos} {mi : M RI} {g : TG} {u : D → Option (List D)} {sl : List Slot → List D → List Slot} {is : List Nat} {mt : List D → M Bool} {me : List D → M D}
theorem lcR_ok {K : PySem.W.Frag} {mg : Str → Option Value} {vs : List Nat} {σ : L2.St} {H : Hp} {Q : VK} (his : ∀ i ∈ is, i ∈ vs) (ht : TgD K mg g u sl is) (h : tN K mg W ρ (lcRM mi u mt me) σ H Q) :
    tLc (tIR K mg W ρ mi) g (fun τ H Q => ∃ us, tG K mg (fun c d _ H => W c d σ H) RB (sl (wipeR ρ vs) us) (mt us) τ H Q) (fun τ H Q => ∃ us, tG K mg (fun c d _ H => W c d σ H) (RD K) (sl (wipeR ρ vs) us) (me us) τ H Q) vs σ H Q := by
  obtain ⟨G0, H0, G, S, si, h⟩ := h
  refine ⟨G0, H0, G, S, si, ?_⟩
  unfold lcRM M.bind at h
  cases e : mi S with
  | err x S1 => rw [e] at h; exact h
  | bad => rw [e] at h; exact h
  | ok p S1 =>
    obtain ⟨ds, cn⟩ := p
    rw [e] at h
    by_cases hz : szOk ds.length = true
    case neg =>
      simp only [hz, if_false] at h
      exact h.elim
    simp only [hz, if_true] at h
    have hz' := sz_of hz
    intro J G1 H1 s1 f1 cd0 iw Dl hDl
    obtain ⟨Gd, Y, wk, hG, hY⟩ := iw
    let cm : D → M (Option D) := fun d => unM u (eltM mt me) d
    have h : okN K mg W G0 H0 G H σ ρ Q (compR cn cm ds S1) := h
    let Pv : Nat → Hp → Prop := fun i H' => ∃ G' S' xs acc, SI K mg G0 H0 G' H' σ ρ S' ∧ FR G1 H1 G' H' ∧ cn S' ∧ H' Dl = some (.lst xs) ∧ xs.length ≤ i ∧ Reps K G' H' xs acc ∧ G'.O Dl ∧ ¬ G'.cell Dl ∧
      okN K mg W G0 H0 G H σ ρ Q (((compR cn cm (ds.drop i)).bind fun r => M.pure (acc ++ r)) S')
    refine lc_it (g := g) (tt := fun τ H Q => ∃ us, tG K mg (fun c d _ H => W c d σ H) RB (sl (wipeR ρ vs) us) (mt us) τ H Q) (te := fun τ H Q => ∃ us, tG K mg (fun c d _ H => W c d σ H) (RD K) (sl (wipeR ρ vs) us) (me us) τ H Q) (vs := vs) (σ := σ) (H1 := H1) (D := Dl) (Qd := fun H => Q (.ref Dl) H) wk Pv ?_ ?_ ?_ ?_
    · refine ⟨G1.own Dl, S1, [], [], s1.allocO hDl, .allocO hDl, cd0, upd_same, Nat.le_refl _, .nil, .inl rfl, fun c => s1.wf.fresh hDl (.inl c), ?_⟩
      rw [List.drop_zero]
      unfold M.bind
      cases q : compR cn cm ds S1 with
      | ok r S2 => rw [q] at h; exact h
      | err x S2 => rw [q] at h; exact h
      | bad => rw [q] at h; exact h
    · rintro i H' _ ⟨G', S', xs, acc, s', fr, cd, _⟩
      exact hG G' H' S' fr.lr s'.wf cd
    · rintro i x H' H2 hi ⟨G', S', xs, acc, s', fr, cd, hD, hx, tx, hO, hc, h'⟩ y
      have hi : i < ds.length := hi
      obtain ⟨hH, d, hd, rd⟩ := hY i G' H' S' x H2 hi fr.lr s'.wf cd y
      have hd : ds[i]? = some d := hd
      have f2 : FR G' H' G' H2 := by
        rcases hH with e | ⟨p, o, hp, e⟩
        · rw [e]; exact .refl _ _
        · rw [e]; exact .alloc hp
      have s2 : SI K mg G0 H0 G' H2 σ ρ S' := by
        rcases hH with e | ⟨p, o, hp, e⟩
        · rw [e]; exact s'
        · rw [e]; exact s'.alloc hp
      have ed : ds.drop i = d :: ds.drop (i + 1) := by
        obtain ⟨hi', e⟩ := List.getElem?_eq_some_iff.mp hd
        rw [← e]
        exact List.drop_eq_getElem_cons hi'
      rw [ed] at h'
      have ow : ∀ (i : Nat) (ds : List D), ρ[i]? = some (.own ds) → σ[i]? ≠ some (some (V.ref Dl)) := s1.owns hDl
      have h0 : H0 Dl = none := s1.fr.free hDl
      have bad : cm d S' = .bad → False := fun q => by
        unfold compR M.bind at h'
        simp only [q] at h'
        exact h'.elim
      cases qu : u d with
      | none => exact (bad (by show unM u (eltM mt me) d S' = _; unfold unM; rw [qu]; rfl)).elim
      | some us =>
        have qe : cm d S' = eltM mt me us S' := by
          show unM u (eltM mt me) d S' = _
          unfold unM
          rw [qu]
          rfl
        have err : ∀ {x : Err} {S3 : MS}, eltM mt me us S' = .err x S3 → okN K mg W G0 H0 G H σ ρ Q (.err x S3) := fun {x S3} q => by
          rw [q] at qe
          unfold compR M.bind at h'
          simp only [qe] at h'
          exact h'
        refine ht G0 H0 G' H2 (wipe σ vs) (wipeR ρ vs) S' x d us _ (s2.wipe vs) rd qu fun σ2 si2 hw => ⟨?_, us, G0, H0, G', S', si2, ?_⟩
        · rw [hw vs his]
          exact wipe_idem vs fun _ h => h
        · have hD2 : H2 Dl = some (.lst xs) := f2.keep _ _ hD (.inl hc)
          have fin : ∀ {o : Option D} {S3 : MS}, eltM mt me us S' = .ok o S3 → cn S3 ∧ okN K mg W G0 H0 G H σ ρ Q (((compR cn cm (ds.drop (i + 1))).bind fun r => M.pure (acc ++ (match o with | some x => x :: r | none => r))) S3) := fun {o S3} q => by
            rw [q] at qe
            have q' := qe
            unfold compR M.bind at h'
            simp only [q'] at h'
            by_cases q1 : cn S3
            · refine ⟨q1, ?_⟩
              rw [chk_ok q1] at h'
              unfold M.bind
              cases q2 : compR cn cm (ds.drop (i + 1)) S3 with
              | ok r S4 => simp only [q2] at h'; exact h'
              | err a b => simp only [q2] at h'; exact h'
              | bad => simp only [q2] at h'; exact h'
            · rw [chk_bad q1] at h'
              exact h'.elim
          cases qt : mt us S' with
          | err a b =>
            intro cls da G3 H3 s3 f3 er
            exact err (show eltM mt me us S' = .err a b by unfold eltM M.bind; rw [qt]) cls da G3 H3 (s2.mono f3 s3.wf) (f1.trans (fr.trans (f2.trans f3))) er
          | bad => exact (bad (qe.trans (show eltM mt me us S' = .bad by unfold eltM M.bind; rw [qt]))).elim
          | ok b S3 =>
            intro b' G3 H3 s3 f3 eb
            cases eb
            have hD3 : H3 Dl = some (.lst xs) := f3.keep _ _ hD2 (.inl hc)
            cases b with
            | false =>
              have fin1 := fin (o := none) (S3 := S3) (by unfold eltM M.bind; rw [qt]; rfl)
              refine ⟨G3, S3, xs, acc, s2.mono f3 s3.wf, fr.trans (f2.trans f3), fin1.1, hD3, by omega, tx.mono (f2.trans f3), (f2.trans f3).oold _ hO, fun c => ?_, ?_⟩
              · rcases f3.cnew _ c with y | y
                · exact hc y
                · rw [hD2] at y; cases y
              · exact fin1.2
            | true =>
              refine ⟨us, G0, H0, G3, S3, s3, ?_⟩
              cases qm : me us S3 with
              | err a b =>
                intro cls da G4 H4 s4 f4 er
                exact err (show eltM mt me us S' = .err a b by unfold eltM M.bind; rw [qt]; simp only [if_true]; rw [qm]) cls da G4 H4 (s2.mono (f3.trans f4) s4.wf) (f1.trans (fr.trans (f2.trans (f3.trans f4)))) er
              | bad => exact (bad (qe.trans (show eltM mt me us S' = .bad by unfold eltM M.bind; rw [qt]; simp only [if_true]; rw [qm]))).elim
              | ok y' S4 =>
                intro yv G4 H4 s4 f4 ry
                have f24 := f2.trans (f3.trans f4)
                have hc3 : ¬ G3.cell Dl := fun c => by
                  rcases f3.cnew _ c with y | y
                  · exact hc y
                  · rw [hD2] at y; cases y
                have hD4 : H4 Dl = some (.lst xs) := f4.keep _ _ hD3 (.inl hc3)
                have hc4 : ¬ G4.cell Dl := fun c => by
                  rcases f4.cnew _ c with y | y
                  · exact hc3 y
                  · rw [hD3] at y; cases y
                have hO4 : G4.O Dl := f24.oold _ hO
                have s5 : SI K mg G0 H0 G4 H4 σ ρ S4 := s2.mono (f3.trans f4) s4.wf
                have lr : LR G4 H4 G4 (upd H4 Dl (.lst (xs ++ [yv]))) := .put hD4 (fun z => z) (.inr hO4)
                have fin1 := fin (o := some y') (S3 := S4) (by unfold eltM M.bind; rw [qt]; simp only [if_true]; rw [qm]; rfl)
                refine ⟨xs, hD4, by omega, ?_⟩
                refine ⟨G4, S4, xs ++ [yv], acc ++ [y'], s5.putO hD4 (fun z => z) hO4 hc4 h0 ow, (fr.trans f24).putO hDl hD4, fin1.1, upd_same, by rw [List.length_append, List.length_singleton]; omega, ?_, hO4, hc4, ?_⟩
                · exact ((tx.mono f24).append (.cons ry .nil)).lr lr
                · simpa only [List.append_assoc, List.singleton_append] using fin1.2
    · rintro H' ⟨G', S', xs, acc, s', fr, _, hD, hx, tx, hO, hc, h'⟩
      have hx : xs.length ≤ ds.length := hx
      rw [List.drop_length] at h'
      have h' : okN K mg W G0 H0 G H σ ρ Q (.ok (acc ++ []) S') := h'
      rw [List.append_nil] at h'
      exact h' Dl xs G' H' s' (f1.trans fr) (f1.free hDl) hD (by omega) hO hc tx
end
noncomputable def mapRC (c : MS → Prop) (f : D → M D) : List D → M (List D)
  | [] => M.pure []
  | d :: ds => (f d).bind fun x => (chk c).bind fun _ => (mapRC c f ds).bind fun r => M.pure (x :: r)
noncomputable def filRC (c : MS → Prop) (t : D → M Bool) (f : D → M D) : List D → M (List D)
  | [] => M.pure []
  | d :: ds => (t d).bind fun b => if b = true then (f d).bind fun x => (chk c).bind fun _ => (filRC c t f ds).bind fun r => M.pure (x :: r) else (chk c).bind fun _ => filRC c t f ds
noncomputable def mapR (mi : M RI) (f : D → M D) : M (List D) := mi.bind fun p => gd (szOk p.1.length) (mapRC p.2 f p.1)
noncomputable def filR (mi : M RI) (t : D → M Bool) (f : D → M D) : M (List D) := mi.bind fun p => gd (szOk p.1.length) (filRC p.2 t f p.1)
theorem comp_filR {cn : MS → Prop} {u : D → Option (List D)} {mt : List D → M Bool} {me : List D → M D} : ∀ ds : List D, compR cn (fun d => unM u (eltM mt me) d) ds = filRC cn (unM u mt) (unM u me) ds
  | [] => rfl
  | d :: ds => by
    have ih := comp_filR (cn := cn) (u := u) (mt := mt) (me := me) ds
    funext S
    unfold compR filRC
    rw [ih]
    cases q : u d with
    | none =>
      have e1 : unM u (eltM mt me) d = M.bad := by unfold unM; rw [q]; rfl
      have e2 : unM u mt d = M.bad := by unfold unM; rw [q]; rfl
      rw [e1, e2]
      rfl
    | some us =>
      have e1 : unM u (eltM mt me) d = eltM mt me us := by unfold unM; rw [q]; rfl
      have e2 : unM u mt d = mt us := by unfold unM; rw [q]; rfl
      have e3 : unM u me d = me us := by unfold unM; rw [q]; rfl
      rw [e1, e2, e3]
      unfold eltM M.bind
      cases qt : mt us S with
      | err _ _ => simp only [qt]
      | bad => simp only [qt]
      | ok b S1 =>
        cases b with
        | false =>
          simp only [qt, M.pure, Bool.false_eq_true, if_false]
          cases chk cn S1 with
          | ok _ S2 => simp only []; cases filRC cn (unM u mt) (unM u me) ds S2 <;> rfl
          | _ => rfl
        | true =>
          simp only [qt, M.pure, if_true]
          cases qm : me us S1 with
          | err _ _ => simp only [qm]
          | bad => simp only [qm]
          | ok x S2 => simp only [qm]
theorem lcR_fil {mi : M RI} {u : D → Option (List D)} {mt : List D → M Bool} {me : List D → M D} : lcRM mi u mt me = filR mi (unM u mt) (unM u me) := by
  unfold lcRM filR gd
  congr 1
  funext ds
  rw [comp_filR]
theorem filR_all {cn : MS → Prop} {u : D → Option (List D)} {f : List D → M D} : ∀ ds : List D, filRC cn (unM u fun _ => M.pure true) (unM u f) ds = mapRC cn (unM u f) ds
  | [] => rfl
  | d :: ds => by
    have ih := filR_all (cn := cn) (u := u) (f := f) ds
    funext S
    unfold filRC mapRC
    rw [ih]
    cases q : u d with
    | some us =>
      have e : unM u (fun _ => M.pure true) d = M.pure true := by unfold unM; rw [q]; rfl
      rw [e]
      rfl
    | none =>
      have e : unM u (fun _ => M.pure true) d = M.bad := by unfold unM; rw [q]; rfl
      have e' : unM u f d = M.bad := by unfold unM; rw [q]; rfl
      rw [e, e']
      rfl
theorem lcR_map {mi : M RI} {u : D → Option (List D)} {me : List D → M D} : lcRM mi u (fun _ => M.pure true) me = mapR mi (unM u me) := by
  rw [lcR_fil]
  unfold filR mapR
  congr 1
  funext ds
  rw [filR_all]
section
variable {X : Cx} {W : WX} {ρ : List Slot} {tg iter elt : Expr} {c : Expr} {scope : Scope} {own : List (Str × Nat)} {pos : Pos} {mi : M RI} {mt : List D → M Bool} {me : List D → M D}
/-- [elt for tg in iter] -/
theorem en_mapR (t : Tg) (tk : Takes X W) (hN : X.N.Nodup) (ok : BlkOk X.N X.env.scope scope own) (hi : IDR X W ρ tg iter mi) (his : ∀ i ∈ t.ix, i ∈ own.map (·.2)) (hg : BK X scope fun Y => PG Y tg (t.g Y.K))
    (he : BK X scope fun Y => ∀ W', Takes Y W' → ∀ us, ED Y W' (slN t.ix (wipeR ρ (own.map (·.2))) us) elt (me us))
    (hst : X.stack = X.env :: X.outer := by rfl) (hfr : X.env.frame = some X.env.locals := by rfl) (hc : X.calm = true := by rfl) (hs : ∀ x, foldedSetIterable iter X.env x = pure x := by intro _; rfl) : EN X W ρ (.ListComp elt [⟨tg, iter, [], 0⟩] scope pos) (mapR mi (unT t me)) := by
  have h : EN X W ρ (.ListComp elt [⟨tg, iter, [], 0⟩] scope pos) (lcRM mi t.u (fun _ => M.pure true) me) :=
    PE.imp (pe_lcX (tt := fun W' τ H Q => ∃ us, tG X.K X.mg W' RB (slN t.ix (wipeR ρ (own.map (·.2))) us) (M.pure true) τ H Q) (te := fun W' τ H Q => ∃ us, tG X.K X.mg W' (RD X.K) (slN t.ix (wipeR ρ (own.map (·.2))) us) (me us) τ H Q) tk hN ok hi hg
      (fun s H C cl fp xe W' tk' => ⟨fun pins s' σ H' Q I ⟨us, q⟩ => (etf_nil (us := us)).run pins s' σ H' Q I q⟩) (fun s H C cl fp xe W' tk' => ⟨fun pins s' σ H' Q I ⟨us, q⟩ => (he s H C cl fp xe W' tk' us).run pins s' σ H' Q I q⟩) hst hfr hc hs) fun σ H Q h => lcR_ok his (tg_ok t) h
  rw [lcR_map] at h
  exact h
variable {i : Nat} {y : Str} {py spos : Pos}
end
end Dl
/-! xs[i] -= e, a list at a pointer, a place from 0 on -/
namespace Dl
open PySem L2
end Dl
/-! try .. except X: where X is a base class of the errors that may come -/
namespace Dl
open PySem L2
end Dl
/-! an instance of a class without == of its own: it is not unlike itself -/
namespace Dl
open PySem L2
/-- what is known of the class -/
structure EqC (K : PySem.W.Frag) (C : Addr) : Prop where
  eq : PySem.W.findIn K (.ref C) "__eq__" = some (some (.builtin "object.__eq__"))
  ne : PySem.W.findIn K (.ref C) "__ne__" = some (some (.builtin "object.__ne__"))
  sub : PySem.W.subIn K (.ref C) (.type "object") = some true
section
open PySem.W
variable {prog : Program} {w : World} {A : Around} {E : Value → Shared → Prop} {s : Shared} {K : Frag} {x C L : Addr} {h₀ : Heap} {m : Str → Option Value} {ox : Obj} {od : Option Obj} {name : Str}
theorem ifBound_B {M : Model} {id : String} {args : List Value} {Q : Option Value → Shared → Prop} (X : K.In s.heap) (I : InstAt s.heap x ox C od) (hs : findIn K (.ref C) name = some (some (.builtin id))) (S : PySem.Slot "object" name id)
    (h : wpAny M A (call (.builtin id) (.ref x :: args)) (fun v => Q (some v)) E s) : wpAny M A (callSpecialIfBound? (.ref x) name args) Q E s := by
  simp only [callSpecialIfBound?, bindSpecialIfBound?]
  refine wpAny_holding (wpAny_bind (wpAny_bind (wpAny_bind (I.type.here ((looks_findIn X hs).here ?_)))))
  simp only [S.bind]
  refine wpAny_bind (wpAny_askSetting (wpAny_ite ?_))
  have fin : wpAny M A (call (.builtin id) ([.ref x] ++ args) >>= fun v => pure (some v)) Q E s := wpAny_bind (wpAny_mono h (fun v s' h' => wpAny_pure h') fun _ _ h' => h')
  split
  · exact wpAny_bind (wpAny_pure (wpAny_pure fin))
  · exact wpAny_tryCatch (wpAny_bind (wpAny_pure (wpAny_pure fin)))
theorem check_B {M : Model} {id n : String} {rest : List Value} {Q : Unit → Shared → Prop} (X : K.In s.heap) (I : InstAt s.heap x ox C od) (hb : subIn K (.ref C) (.type "object") = some true) (hk : builtinKind id = some .slot) (hs : splitId id = some ("object", n))
    (ha : argsOk id ⟨.ref x :: rest, []⟩) (hq : Q () s) : wpAny M A (checkBuiltinCall id ⟨.ref x :: rest, []⟩) Q E s := by
  simp only [checkBuiltinCall, hk, hs]
  refine wpAny_bind ?_
  unfold isInstance
  refine wpAny_bind (I.type.here ((looks_subIn X hb).here ?_))
  cases hsig : Manifest.signature? id with
  | none => exact wpAny_pure hq
  | some sig =>
    simp only [argsOk, hsig] at ha
    have h2 : Bind.checkArgs id sig ⟨.ref x :: rest, []⟩ = pure () := ha
    show wpAny M A (Bind.checkArgs id sig ⟨.ref x :: rest, []⟩) Q E _
    rw [h2]; exact wpAny_pure hq
end
/-- a class of the text without == of its own -/
def EqF (K : PySem.W.Frag) (mg : Str → Option Value) (c : Str) : Prop := ∃ C, mg c = some (.ref C) ∧ EqC K C
end Dl
/-! instances of classes without == of their own: == of two, xs.index -/
namespace Dl
open PySem L2
section
open PySem.W
variable {prog : Program} {w : World} {A : Around} {E : Value → Shared → Prop} {s : Shared} {K : Frag} {x y C : Addr} {ox oy : Obj} {od od' : Option Obj}
theorem special_eqO (X : K.In s.heap) (I : InstAt s.heap x ox C od) (J : InstAt s.heap y oy C od') (hc : EqC K C) (hxy : x ≠ y) {Q : Option Value → Shared → Prop} (hq : Q (some .notImplemented) s) : wpAny (model prog w) A (callSpecialIfBound? (.ref x) "__eq__" [.ref y]) Q E s := by
  have hnt : ox.cls ≠ .type "tuple" := by rw [I.cls]; intro e; cases e
  exact ifBound_B X I hc.eq PySem.F.cmp_object.eq (wpAny_call (codeAny_call_builtin PySem.F.cmp_object.eq.plain PySem.F.cmpEntry_eq (check_B X I hc.sub PySem.F.cmpKind_eq PySem.F.cmpSplit_eq (PySem.F.cmpArgs_eq _ _) (objEq_entry_other hxy I.at_ J.at_ hnt hq))))
theorem try_eqO (X : K.In s.heap) (I : InstAt s.heap x ox C od) (J : InstAt s.heap y oy C od') (hc : EqC K C) (hxy : x ≠ y) {Q : Option Value → Shared → Prop} (hq : Q none s) : wpAny (model prog w) A (tryCompare (.ref x) "__eq__" (.ref y)) Q E s := by
  simp only [tryCompare]
  exact wpAny_bind (special_eqO X I J hc hxy (wpAny_pure hq))
/-- two instances of one class -/
theorem eq_instO (X : K.In s.heap) (I : InstAt s.heap x ox C od) (J : InstAt s.heap y oy C od') (hc : EqC K C) (hxy : x ≠ y) (hu : A.units + 1 < cLine) {Q : Value → Shared → Prop} (hq : Q (.bool false) s) : wpAny (model prog w) A (richCompare .Eq (.ref x) (.ref y)) Q E s := by
  have hnt : ox.cls ≠ .type "tuple" := by rw [I.cls]; intro e; cases e
  have one : wpAny (model prog w) A (tryCompare (.ref x) (cmpInfo .Eq).2.1 (.ref y)) (fun r s' => r = none ∧ s' = s) E s := try_eqO X I J hc hxy ⟨rfl, rfl⟩
  have two : wpAny (model prog w) A (tryCompare (.ref y) (cmpInfo .Eq).2.2 (.ref x)) (fun r s' => r = none ∧ s' = s) E s := try_eqO X J I hc hxy.symm ⟨rfl, rfl⟩
  unfold richCompare
  simp only [oneThing_ref]
  refine wpAny_holding (wpAny_bind (wpAny_cRoomFor (by omega) ?_))
  refine wpAny_bind (I.type.here (wpAny_bind (J.type.here ?_)))
  split
  · rename_i q
    simp at q
  · refine wpAny_bind (wpAny_pure ?_)
    simp only [Bool.false_eq_true, if_false]
    refine wpAny_bind (wpAny_mono one (fun r s' z => ?_) fun _ _ e => e)
    obtain ⟨rfl, rfl⟩ := z
    simp only [Bool.not_false, if_true]
    refine wpAny_bind (wpAny_mono two (fun r s'' z => ?_) fun _ _ e => e)
    obtain ⟨rfl, rfl⟩ := z
    repeat (first | with_reducible refine wpAny_isSame_ref_other hxy I.at_ J.at_ hnt ?_ | wp_step)
    exact hq
theorem eqB_same {x : Addr} {Q : Bool → Shared → Prop} (hq : Q true s) : wpAny (model prog w) A (eqBool (.ref x) (.ref x)) Q E s := by
  unfold eqBool
  refine wpAny_holding ?_
  refine wpAny_ite_split (fun _ => ?_) (fun h => absurd (beq_self_eq_true _) h)
  repeat wp_step
  exact hq
theorem eqB_other (X : K.In s.heap) (I : InstAt s.heap x ox C od) (J : InstAt s.heap y oy C od') (hc : EqC K C) (hxy : x ≠ y) (hu : A.units + 1 < cLine) {Q : Bool → Shared → Prop} (hq : Q false s) : wpAny (model prog w) A (eqBool (.ref x) (.ref y)) Q E s :=
  GQ.eqBool_refG hxy (eq_instO X I J hc hxy hu ⟨false, rfl, hq⟩)
end
def rIndexI (K : PySem.W.Frag) : V → List V → Hp → VK → Prop := fun x xs H Q => ∃ (a b C : Addr) (ys : List V) (j : Nat), x = V.ref a ∧ xs = [.ref b] ∧ SqL K H a ys ∧ EqC K C ∧ (∀ y ∈ ys, ∃ c dx fs, y = .ref c ∧ H c = some (.ins C dx fs)) ∧ (∃ dx fs, H b = some (.ins C dx fs)) ∧ ys[j]? = some (.ref b) ∧
  (∀ (m : Nat) (z' : V), m < j → ys[m]? = some z' → z' ≠ .ref b) ∧ Q (.int (j : Nat)) H
section
variable {X : Cx}
theorem mt_indexI (hu : X.A.units + 64 < cLine) : MtR X "list.index" (rIndexI X.K) := by
  intro pins s σ H x xs v us Q I rx rxs h
  obtain ⟨a, b, C, ys, j, rfl, rfl, hs, hc, hys, hb, hz, hno, q⟩ := h
  cases rx
  cases rxs with
  | cons ry rt =>
    rename_i uy ut
    cases rt
    obtain ⟨its, rv, ⟨⟨cls, dd, data, sl⟩, n, ho, hcl, hdn, hd⟩, hlen⟩ := I.list hs
    simp only at hcl hd
    subst hcl hd
    cases ry
    obtain ⟨u, hu', ru⟩ := rv.get hz
    cases ru
    obtain ⟨hjl, hje⟩ := List.getElem?_eq_some_iff.mp hu'
    have hvl := rv.length
    have hj : j < its.toArray.size := by simpa using hjl
    have hsl := sizeLine_eq
    obtain ⟨mh, hF⟩ := I.fr
    have kin := I.ok.mod.kin.keeps hF.keep
    have item : ∀ (m : Nat) (hm : m < its.length), ∃ c dx fs, its[m] = .ref c ∧ H c = some (.ins C dx fs) ∧ ys[m]? = some (.ref c) := fun m hm => by
      have hm2 : m < ys.length := by omega
      have e := List.getElem?_eq_getElem hm2
      obtain ⟨c, dx, fs, ec, hcc⟩ := hys _ (List.getElem_mem hm2)
      rw [ec] at e
      obtain ⟨u2, hu2, ru2⟩ := rv.get e
      cases ru2
      obtain ⟨_, hme⟩ := List.getElem?_eq_some_iff.mp hu2
      exact ⟨c, dx, fs, hme, hcc, e⟩
    refine call_meets PySem.F.slot_list_index ⟨_, ho, rfl⟩ PySem.F.entry_list_index (PySem.F.args_list_index_2 _ _)
      (SeqAt.list_indexAt a its.toArray n dd sl (.ref b) (fun u => decide (u = .ref b)) j hj (by omega) ?_ ?_) ⟨ho, fun u' hu' => ?_, ?_⟩
    · have e1 : its.toArray[j] = .ref b := by simpa using hje
      rw [e1]
      exact decide_eq_true rfl
    · intro m hm hmj
      have hml : m < its.length := by simpa using hm
      obtain ⟨c, dx, fs, e1, _, e3⟩ := item m hml
      have e1 : its.toArray[m] = .ref c := by simpa using e1
      rw [e1]
      have ne := hno m _ hmj e3
      exact decide_eq_false fun h => ne (by injection h with h; rw [h])
    · obtain ⟨m, hm, em⟩ := List.getElem_of_mem (show u' ∈ its by simpa using hu')
      obtain ⟨c, dx, fs, e1, hcc, _⟩ := item m hm
      rw [← em, e1]
      by_cases q : c = b
      · subst q
        intro prog w E Q hq
        refine eqB_same ?_
        rw [decide_eq_true rfl] at hq
        exact hq
      · obtain ⟨dx2, fs2, hb⟩ := hb
        obtain ⟨mA, J1, _⟩ := ins_get I.hok hcc
        obtain ⟨od1, J1, _⟩ := J1.look
        obtain ⟨mB, J2, _⟩ := ins_get I.hok hb
        obtain ⟨od2, J2, _⟩ := J2.look
        intro prog w E Q hq
        rw [decide_eq_false (fun h => q (by injection h))] at hq
        exact eqB_other kin J1 J2 hc q (by show X.A.units + 1 + 1 < cLine; omega) hq
    · exact ⟨.int (j : Nat), H, I.tok _, ⟨_, rfl⟩, q⟩
end
/-- xs.index(x): xs a list of instances of class c, x one of them -/
def idxP : List D → Nat → Option Nat
  | .ptr k :: ds, b => if k = b then some 0 else (idxP ds b).map (· + 1)
  | _, _ => none
def insB (S : MS) (c : Str) : D → Bool
  | .ptr k => match S.cells[k]? with
    | some (.ins c' _) => c' == c
    | _ => false
  | _ => false
def idxI (c : Str) (o q : D) : M D := fun S => match o, q with
  | .ptr p, .ptr b => match S.cells[p]? with
    | some (.lst ds) => if (ds.all (insB S c) && insB S c (.ptr b)) = true then match idxP ds b with
      | some j => .ok (.int (j : Nat)) S
      | none => .bad
      else .bad
    | _ => .bad
  | _, _ => .bad
def idxM (c : Str) (mo mi : M D) : M D := mo.bind fun o => (isLstP o).bind fun _ => mi.bind fun i => idxI c o i
theorem idxP_at : ∀ {ds : List D} {b j : Nat}, idxP ds b = some j → ds[j]? = some (.ptr b) ∧ ∀ (m : Nat) (z : D), m < j → ds[m]? = some z → ∃ k, z = .ptr k ∧ k ≠ b
  | [], b, j, h => by cases h
  | d :: ds, b, j, h => by
    cases d with
    | ptr k =>
      simp only [idxP] at h
      by_cases q : k = b
      · rw [if_pos q] at h
        cases h
        subst q
        exact ⟨rfl, fun m z hm _ => by omega⟩
      · rw [if_neg q] at h
        cases e : idxP ds b with
        | none => rw [e] at h; cases h
        | some j' =>
          rw [e] at h
          cases h
          obtain ⟨h1, h2⟩ := idxP_at e
          refine ⟨by rw [List.getElem?_cons_succ]; exact h1, fun m z hm hz => ?_⟩
          cases m with
          | zero => cases hz; exact ⟨k, rfl, q⟩
          | succ m => exact h2 m z (by simp only at hm; omega) (by rw [List.getElem?_cons_succ] at hz; exact hz)
    | _ => cases h
section
variable {X : Cx} {W : WX} {ρ : List Slot} {o e : Expr} {mo me : M D} {c : Str}
theorem ed_idx {ap cp : Pos} (hf : EqF X.K X.mg c) (hpe : PE X (.Call (.Attribute o "index" ap) [e] [] cp) (tBM X.K "list" (rIndexI X.K) (tG X.K X.mg W (RD X.K) ρ mo) (tCons (tG X.K X.mg W (RD X.K) ρ me) tNil))) : ED X W ρ (.Call (.Attribute o "index" ap) [e] [] cp) (idxM c mo me) :=
  PE.imp hpe fun σ H Q ⟨G0, H0, G, S, si, h⟩ => ⟨G0, H0, G, S, si, okG.bind h fun G1 H1 S1 x d s1 f1 r1 h1 => by
    obtain ⟨ty, h1⟩ := isLst_ok s1 r1 h1
    refine ⟨ty, G0, H0, G1, S1, s1, okG.bind h1 fun G2 H2 S2 y d2 s2 f2 r2 h2 => ?_⟩
    have ro := Rep.mono f2 r1
    have r2 : Rep X.K G2 H2 y d2 := r2
    unfold idxI at h2
    obtain ⟨C, hm, hc⟩ := hf
    have ins_of : ∀ {k : Nat} {a : Addr}, G2.φ[k]? = some a → insB S2 c (.ptr k) = true → ∃ dx fs, H2 a = some (.ins C dx fs) := fun {k a} q w => by
      simp only [insB] at w
      cases qc : S2.cells[k]? with
      | none => rw [qc] at w; cases w
      | some cl =>
        rw [qc] at w
        cases cl with
        | ins c' fs =>
          have w : (c' == c) = true := w
          have w := eq_of_beq w
          subst w
          obtain ⟨C', dx, gs, m1, m2, _⟩ := s2.wf.cell k _ a qc q
          rw [hm] at m1
          cases m1
          exact ⟨dx, gs, m2⟩
        | _ => cases w
    cases ro with
    | @ptr a k q =>
      cases r2 with
      | @ptr b kb qb =>
        cases qc : S2.cells[k]? with
        | none => simp only [qc] at h2; exact h2.elim
        | some cl =>
          cases cl with
          | lst ds =>
            simp only [qc] at h2
            split at h2
            · rename_i al
              rw [Bool.and_eq_true, List.all_eq_true] at al
              cases qi : idxP ds kb with
              | none => simp only [qi] at h2; exact h2.elim
              | some j =>
                simp only [qi] at h2
                obtain ⟨xs, ha, hz, t⟩ := s2.wf.cell k _ a qc q
                obtain ⟨i1, i2⟩ := idxP_at qi
                have item : ∀ (m : Nat) (v : V), xs[m]? = some v → ∃ kk aa, ds[m]? = some (.ptr kk) ∧ v = .ref aa ∧ G2.φ[kk]? = some aa := fun m v hv => by
                  obtain ⟨hl, _⟩ := List.getElem?_eq_some_iff.mp hv
                  have tl := t.length
                  have hd := List.getElem?_eq_getElem (l := ds) (i := m) (by omega)
                  have w := al.1 ds[m] (List.getElem_mem _)
                  obtain ⟨v', hv', rv⟩ := t.get hd
                  rw [hv] at hv'
                  cases hv'
                  cases hp : ds[m] with
                  | ptr kk =>
                    rw [hp] at rv hd
                    cases rv with
                    | ptr qq => exact ⟨kk, _, hd, rfl, qq⟩
                  | _ => rw [hp] at w; cases w
                obtain ⟨vj, hvj, rvj⟩ := t.get i1
                have ej : vj = .ref b := by
                  cases rvj with
                  | ptr qq => rw [qb] at qq; cases qq; rfl
                subst ej
                refine ⟨a, b, C, xs, j, rfl, rfl, SqL.of ha, hc, fun y hy => ?_, ins_of qb al.2, hvj, fun m z' hm hz' => ?_, h2 (.int (j : Nat)) G2 H2 s2 (FR.refl _ _) (.int _)⟩
                · obtain ⟨m, hm', em⟩ := List.getElem_of_mem hy
                  obtain ⟨kk, aa, e1, e2, e3⟩ := item m y (by rw [← em]; exact List.getElem?_eq_getElem hm')
                  obtain ⟨dx, fs, e4⟩ := ins_of e3 (al.1 _ (List.mem_of_getElem? e1))
                  exact ⟨aa, dx, fs, e2, e4⟩
                · obtain ⟨kk, aa, e1, e2, e3⟩ := item m z' hz'
                  obtain ⟨k2, e4, e5⟩ := i2 m _ hm e1
                  cases e4
                  rw [e2]
                  intro h
                  injection h with h
                  subst h
                  exact e5 (by
                    obtain ⟨l1, g1⟩ := List.getElem?_eq_some_iff.mp e3
                    obtain ⟨l2, g2⟩ := List.getElem?_eq_some_iff.mp qb
                    exact (List.getElem_inj s2.wf.nd).mp (g1.trans g2.symm))
            · exact h2.elim
          | dic _ => simp only [qc] at h2; exact h2.elim
          | ins _ _ => simp only [qc] at h2; exact h2.elim
          | out => simp only [qc] at h2; exact h2.elim
      | _ => exact h2.elim
    | _ => cases r2 <;> exact h2.elim⟩
end
end Dl
/-! isinstance(e, T): e a caught error with a field. The first part is the library's own (HandS.ExcIs), for errors with a dict -/
namespace PySem.W
open PySem PySem.Spec PySem.Calls PyProof.Rows
section
variable {prog : Program} {w : World} {A : Around} {E : Value → Shared → Prop} {s : Shared} {K : Frag} {x D : Addr} {ox : Obj}
set_option maxHeartbeats 4000000 in
theorem findObj_dataO {C : Addr} {od : Option Obj} {name : Str} {a g : Value} (hc : (clsIn K C).isSome = true) (ha : findIn K (.ref C) name = some (some a)) (hg : specialIn K a "__get__" = some (some g)) (ht : takesIn K a = some true) : findObj K C od name = some (.bind g a) := by
  obtain ⟨cd, hc⟩ := Option.isSome_iff_exists.mp hc
  unfold findObj
  rw [hc, Option.bind_some, ha, Option.bind_some]
  simp [hg, ht]
set_option maxHeartbeats 4000000 in
theorem kin_classO {od : Option Obj} {Q : Option Value → Shared → Prop} (hga : findIn K (.ref D) "__getattribute__" = some (some (.builtin "BaseException.__getattribute__"))) (hgt : findIn K (.ref D) "__getattr__" = some none) (hsub : subIn K (.ref D) (.type "BaseException") = some true)
    (hdct : hasDictIn K D = true) (ha : findIn K (.ref D) "__class__" = some (some (.builtin "object.__class__")))
    (hn : specialIn K (.builtin "object.__class__") "__get__" = some (some (.builtin "getset_descriptor.__get__"))) (htk : takesIn K (.builtin "object.__class__") = some true) (hm : mroIn K D (.type "object") = some true)
    (X : K.In s.heap) (I : InstAt s.heap x ox D od) (h : Q (some (.ref D)) { s with toks := s.toks + 1 }) : wpAny (model prog w) A (getAttr? (.ref x) "__class__") Q E s := by
  have hf : findObj K D od "__class__" = some (.bind (.builtin "getset_descriptor.__get__") (.builtin "object.__class__")) := findObj_dataO (by obtain ⟨cd, hc, _⟩ := any_some hdct; rw [hc]; rfl) ha hn htk
  obtain ⟨hp, g, d, t, os⟩ := s
  have L0 := I.type (M := model prog w)
  have L1 := looks_findIn (M := model prog w) X hga
  have L2 := looks_findIn (M := model prog w) X hgt
  have L3 := looks_find (M := model prog w) X I hf
  have sub : Looks (model prog w) hp (isInstance (.ref x) (.type "BaseException")) true := L0.andThen (looks_subIn X hsub)
  have hx0 : (false && onTheHeap (Value.builtin "BaseException.__getattribute__")) = false := rfl
  have hx2 : (Value.builtin "BaseException.__getattribute__" == Value.builtin "object.__getattribute__") = false := by decide +kernel
  have hx1 : (onTheHeap (Value.ref D) && Value.builtin "BaseException.__getattribute__" == Value.builtin "object.__getattribute__") = false := by rw [hx2]; rfl
  unfold getAttr? getAttrBy? getAttrBy
  refine wpAny_bind (wpAny_mkText (wpAny_bind (wpAny_attempt (wpAny_holding (wpAny_bind (L0.at (wpAny_bind (L1.at ?_))))))))
  show wpAny _ _ (if (onTheHeap (Value.ref D) && Value.builtin "BaseException.__getattribute__" == Value.builtin "object.__getattribute__") = true then _ else _) _ _ _
  rw [hx1, if_neg Bool.false_ne_true]
  unfold getAttrByItsOwn hookBefore
  refine wpAny_bind ?_
  rw [if_pos (show onTheHeap (Value.ref D) = true from rfl)]
  refine L2.at ?_
  refine wpAny_bind (wpAny_attempt (wpAny_holding ?_))
  unfold callGetattribute
  rw [hx0, if_neg Bool.false_ne_true]
  unfold boundAndCalled
  rw [PySem.F.excAttr_ValueError.ga.bind (.ref x)]
  refine wpAny_bind (wpAny_pure ?_)
  show wpAny _ _ (call (.builtin "BaseException.__getattribute__") [.ref x, .str "__class__" t]) _ _ _
  refine wpAny_call (codeAny_call_builtin PySem.F.excAttr_ValueError.ga.plain PySem.F.entry_bexc_ga ?_)
  refine @check_slot (model prog w) _ _ ⟨hp, g, d, t + 1, os⟩ "BaseException.__getattribute__" "BaseException" "__getattribute__" (.ref x) [.str "__class__" t] [] _ (by decide +kernel) (by decide +kernel) sub (PySem.F.args_bexc_ga (.ref x) (.str "__class__" t)) ?_
  unfold Builtin.«object.__getattribute__»
  refine wpAny_bind (wpAny_of_eq (a := ((Value.ref x : Value), [Value.str "__class__" t])) (by first | rfl | (simp only [slotArgs]; rfl)) ?_)
  refine wpAny_bind (wpAny_pure (wpAny_bind (L0.at (wpAny_bind (L3.at ?_)))))
  show wpAny _ _ (holding [Value.builtin "object.__class__"] (call (.builtin "getset_descriptor.__get__") [.builtin "object.__class__", .ref x, .ref D]) >>= ret) _ _ _
  refine wpAny_bind (wpAny_holding (wpAny_call (class_get (s := ⟨hp, g, d, t + 1, os⟩) (ox := ox) (od := od) X I hm ?_)))
  refine wpAny_pure ?_
  show wpAny _ _ (handedOut (.ref D)) _ _ _
  rw [handedOut_of (v := .ref D) rfl]
  first
    | exact wpAny_pure (wpAny_pure h)
    | exact wpAny_pure h
    | exact wpAny_pure (wpAny_bind (wpAny_pure (wpAny_pure h)))
set_option maxHeartbeats 4000000 in
theorem kitx_excO {od : Option Obj} (hga : findIn K (.ref D) "__getattribute__" = some (some (.builtin "BaseException.__getattribute__"))) (hgt : findIn K (.ref D) "__getattr__" = some none) (hsub : subIn K (.ref D) (.type "BaseException") = some true) (hdct : hasDictIn K D = true) (ha : findIn K (.ref D) "__class__" = some (some (.builtin "object.__class__")))
    (hn : specialIn K (.builtin "object.__class__") "__get__" = some (some (.builtin "getset_descriptor.__get__"))) (htk : takesIn K (.builtin "object.__class__") = some true) (hm : mroIn K D (.type "object") = some true) :
    KitX K (.ref x) (.ref D) (fun h => InstAt h x ox D od) where
  ty := fun _ _ _ I => I.type
  it := fun _ _ X _ => by
    obtain ⟨cdD, hcD, _⟩ := any_some hdct
    unfold clsIn at hcD
    split at hcD
    · rename_i c' d' cd' sl' ho
      intro A' Q' E' s' k q
      unfold isType loadHead
      exact wpAny_bind (wpAny_loadPart (k _ _ (X _ _ ho)) (wpAny_pure q))
    · cases hcD
  ne := fun h tp dd its n sl X htp => by
    obtain ⟨cdD, hcD, _⟩ := any_some hdct
    refine Bool.eq_false_iff.mpr fun q => ?_
    have e : D = tp := Value.ref.inj (beq_iff_eq.mp q)
    subst e
    unfold clsIn at hcD
    split at hcD
    · rename_i c' d' cd' sl' ho
      have z := (X _ _ ho).symm.trans htp
      cases z
    · cases hcD
  ca := fun X I k => kin_classO hga hgt hsub hdct ha hn htk hm X I k
end
end PySem.W
namespace Dl
open PySem PySem.Spec PyProof.Rows L2
def rIsO (K : PySem.W.Frag) (D a dd : Addr) : List V → Hp → VK → Prop := fun xs H Q => ∃ (c : V) (cv : Value) (b : Bool) (fs : List (Str × V)), xs = [.ref a, c] ∧ (∀ u, RelV c u → u = cv) ∧ PySem.W.kitOne K (.ref D) cv = some b ∧ H dd = some (.xd fs) ∧ Q (.bl b) H
theorem call_isO {X : Cx} {a D dd : Addr} {oe : Obj} {pn : List (Addr × Obj)} (C : ExcC X.K D) (hz : Zc (.ref D) (some dd) oe) (hf : ∃ vs, oe.data = .fields vs) : CallR (X.suite a ((a, oe) :: pn)) (.builtin "isinstance") (rIsO X.K D a dd) := by
  intro pins s σ H xs us Q I r h
  obtain ⟨c, cv, b, fs, rfl, hcv, e, ea, q⟩ := h
  cases r with
  | cons rx rr =>
    cases rr with
    | cons rt rr =>
      cases rr
      cases rx
      have ec := hcv _ rt
      subst ec
      obtain ⟨hget, _⟩ := I.pin (a, oe) (List.mem_append.mpr (.inl List.mem_cons_self))
      obtain ⟨vs, hv⟩ := hf
      have hx : ObjOk X.prog X.w H s.heap dd (.xd fs) := I.hok dd _ ea
      obtain ⟨mA, hns, hr⟩ := hx
      obtain ⟨od, ho, hl⟩ := lookIn_ns hns
      have J : PySem.W.InstAt s.heap a oe D (some od) := ⟨hget, hz.1, by unfold PySem.W.notCls; rw [hv] <;> rfl, by rw [hz.2]; exact ho⟩
      exact PySem.W.kia_one (PySem.W.kitx_excO C.hg C.hk C.hs C.hd C.ha C.hn C.ht C.hm) I.kIn J e (fun z => nomatch z) fun tk => ⟨.bl b, H, I.kept (t' := tk) fun _ _ z => z, rfl, q⟩
/-- errors of class x are of class T -/
def XIs (K : PySem.W.Frag) (mg : Str → Option Value) (x T : Str) : Prop := ∃ C CT, mg x = some (.ref C) ∧ mg T = some (.ref CT) ∧ ExcC K C ∧ PySem.W.kitOne K (.ref C) (.ref CT) = some true
theorem kit_sub {K : PySem.W.Frag} {C CT : Addr} (h1 : PySem.W.isClsIn K CT = true) (h2 : PySem.W.typeIn K (.ref CT) = some (.type "type")) (h3 : PySem.W.subIn K (.ref C) (.ref CT) = some true) : PySem.W.kitOne K (.ref C) (.ref CT) = some true := by
  have h1 : (PySem.W.clsIn K CT).isSome = true := h1
  have k : PySem.W.kitCls K (.ref C) (.ref CT) = some true := by
    unfold PySem.W.kitCls
    simp only [h1, h2, h3]
    rfl
  unfold PySem.W.kitOne
  split
  · rfl
  · exact k
section
variable {X : Cx} {ρ : List Slot} {pos p p2 : Pos}
theorem ed_isX {W : WX} {i : Nat} {n f x T : Str} {CA aa dd : Addr} {oe : Obj} {d : D} {pn : List (Addr × Obj)} {np : Pos} (hm : X.mg x = some (.ref CA)) (xi : XIs X.K X.mg x T) (hi : X.mg "isinstance" = none) (hz : Zc (.ref CA) (some dd) oe) (hv : ∃ vs, oe.data = .fields vs)
    (hρ : ρ[i]? = some (.exc aa dd f d)) (hN : X.N[i]? = some n := by rfl) (hvis : Vis X.env.scope n := by first | exact Or.inl rfl | exact Or.inr (Or.inl rfl) | exact Or.inr (Or.inr rfl)) (hd : (n == ("__debug__" : Str)) = false := by decide) (hcd : (n == ("__classdict__" : Str)) = false := by decide)
    (hg : Gl X "isinstance" := by rfl) (hgT : Gl X T := by rfl) (hdT : (T == ("__debug__" : Str)) = false := by decide)
    (hs : NS1 (X.suite aa ((aa, oe) :: pn)) (.Name T p2) [] := by rfl) (he : NS1 (X.suite aa ((aa, oe) :: pn)) (.Name n np) [.Name T p2] := by rfl) (hpl : NS2 (X.suite aa ((aa, oe) :: pn)) pos [.Name T p2] := by rfl) :
    ED (X.suite aa ((aa, oe) :: pn)) W ρ (.Call (.Name "isinstance" p) [.Name n np, .Name T p2] [] pos) (M.pure (.bl true)) := by
  obtain ⟨C, CT, m1, m2, xc, ko⟩ := xi
  rw [hm] at m1
  cases m1
  refine PE.imp (pe_callB (call_isO xc hz hv) hg hi (by decide +kernel) (pa_cons (pv i hN hvis hd hcd) (pa_cons (pe_glob (v := .ref CT) hgT m2 rfl hdT) pa_nil hs) he) (by decide) (by decide) he hpl) fun σ H Q ⟨G0, H0, G, S, si, h⟩ => ?_
  obtain ⟨e, v, hdd, hmu, rv⟩ := si.env i _ hρ
  exact ⟨_, e, .ref CT, .ref CT, true, [(f, v)], rfl, fun u r => by cases r; rfl, ko, hdd, okG.here h si (.bl true)⟩
end
end Dl
/-! a law whose first row gives the stream and a new list -/
namespace Dl
open PySem L2
section
variable {P : Program} {w : World} {K : PySem.W.Frag} {base : Heap} {mg : Str → Option Value}
/-- as fnG_law, the first row gives a new list, too -/
theorem fnG_law2 {i j : Nat} {fB : List D → M (Fl Unit Empty)} {x qual sn : Str} {st : Stmt} {f : Addr} {fd : FuncData} {N : List Str} {k : Nat} (F : Fun K x qual st f fd) (S : FnScope N [sn] (defScope st)) (hz : tabX K mg = []) (hN : 2 ≤ N.length)
    (hm : ∀ ns : List Int, ns.length ≤ 63 → ∃ S', finM ((lstM []).bind fB) (S0 ns) = .ok (.bl true) S')
    (hb : ∀ (cdv : Value) (A : Around) (outer : List Env) (s : Shared) (H : Hp) (E : XK), (A.deeper (PyProof.Rows.envOfC qual (defScope st) s.heap.objs.size f cdv)).guards = some [] → Room k (A.deeper (PyProof.Rows.envOfC qual (defScope st) s.heap.objs.size f cdv)) →
      Takes (cxOf (L2.CX P w) P w K mg base N qual (defScope st) f cdv A outer s H E) (fun cls d _ H => E cls d H) → PassesOwn (model P w) (A.deeper (PyProof.Rows.envOfC qual (defScope st) s.heap.objs.size f cdv)) (PyProof.Rows.envOfC qual (defScope st) s.heap.objs.size f cdv) (cxOf (L2.CX P w) P w K mg base N qual (defScope st) f cdv A outer s H E).xe →
      ∃ st0 rest, defBody st = st0 :: rest ∧ PS (cxOf (L2.CX P w) P w K mg base N qual (defScope st) f cdv A outer s H E) st0 (tPar i j (tCons (tLst (tCons (tCB (rLst K) (tCons (tVar 0) tNil)) (tCons (tC (.int 0)) (tCons (tC (.int 0)) (tCons (tC (.int 0)) tNil))))) (tCons (tN K mg (Ct.fn K N.length E).W (List.replicate N.length .any) (lstM [])) tNil))) ∧
        ∀ ds, SD (cxOf (L2.CX P w) P w K mg base N qual (defScope st) f cdv A outer s H E) (Ct.fn K N.length E) (((List.replicate N.length .any).set i (.val .strm)).set j (.own ds)) rest (fB ds)) :
    FnG P w K mg base (L2.CX P w) (k + 1) f fd [sn] (spL K) := by
  refine fnG_of F S (fun vs H Q E h => ?_) (fun cdv A outer s H vs Q E gu hr h => ?_)
  · obtain ⟨a, ns, rfl, _⟩ := h
    rfl
  obtain ⟨a, ns, rfl, hS, hl, hQ⟩ := h
  obtain ⟨st0, rest, eb, h0, h1⟩ := hb cdv A outer s H E gu hr (takes_of rfl rfl rfl rfl) (passes_of rfl)
  rw [eb]
  have h1' : PSs (cxOf (L2.CX P w) P w K mg base N qual (defScope st) f cdv A outer s H E) rest (fun D σ H' => ∃ ds, tS K mg (Ct.fn K N.length E) (((List.replicate N.length .any).set i (.val .strm)).set j (.own ds)) (fB ds) D σ H') := ⟨fun pins s' σ H' D I ⟨ds, q⟩ => (h1 ds).run pins s' σ H' D I q⟩
  refine ⟨_, pss_cons h0 h1', ?_⟩
  refine ⟨.ref a, ?_, a, ns.map V.int, rfl, .inl hS, fun l hl' => ⟨by show 4 ≤ sizeLine; rw [sizeLine_eq]; decide, fun p hp => ?_⟩⟩
  · unfold L2.start
    rfl
  have npl : l ≠ p := fun e => by rw [← e, upd_same] at hp; cases hp
  have htb : LamX.Tabs (tabX K mg) H := by rw [hz]; exact fun _ h => (nomatch h)
  let G : Gh := ⟨[], p, l, fun _ => False, fun _ => False, mg, tabX K mg⟩
  let H2 : Hp := upd (upd H l (.lst (ns.map V.int))) p (.lst [.ref l, .int 0, .int 0, .int 0])
  have hcell : ∀ b, G.mu b → b = p ∨ b = l ∨ b ∈ (tabX K mg).map Prod.fst := fun b h => by
    rcases h with (h | h | h | h) | h
    · cases h.1
    · exact .inl h
    · exact .inr (.inl h)
    · exact .inr (.inr h)
    · exact h.elim
  have hH2l : H2 l = some (.lst (ns.map V.int)) := by show upd _ p _ l = _; rw [upd_ne npl, upd_same]
  have htb2 : LamX.Tabs (tabX K mg) H2 := htb.ext fun b o e => by
    show upd (upd H l _) p _ b = _
    have e1 : upd H l (.lst (ns.map V.int)) b = some o := by rw [upd_ne (ne_of_none e hl')]; exact e
    rw [upd_ne (ne_of_none e1 hp)]; exact e1
  have hlive : ∀ b, G.mu b → ∃ o, H2 b = some o := fun b h => by
    rcases hcell b h with e | e | e
    · rw [e]; exact ⟨_, upd_same⟩
    · rw [e]; exact ⟨_, hH2l⟩
    · obtain ⟨q, hq, e⟩ := List.mem_map.mp e
      obtain ⟨ps, h1, _⟩ := htb2 q hq
      exact ⟨_, by rw [← e]; exact h1⟩
  have wf : Wf K mg G H2 (S0 ns) := ⟨rfl, .nil, (fun i c a h => by cases h), hlive, upd_same, hH2l, Ne.symm npl, (fun h => by cases h), (fun h => by cases h), Nat.le_trans hl (by decide), rfl, (fun _ _ _ _ _ _ h => h), (fun _ h => h.elim), (fun _ h => h.elim), rfl, htb2⟩
  obtain ⟨S', hm⟩ := hm ns hl
  have si : SI K mg G H2 G H2 (L2.start N [V.ref a]) (List.replicate N.length .any) (S0 ns) := by
    refine ⟨.refl _ _, hlive, wf, ?_, fun i x h => ?_, fun i j ds es l' n h => ?_⟩
    · unfold L2.start
      simp only [List.length_append, List.length_map, List.length_replicate, List.length_cons, List.length_nil]
      omega
    · rw [List.getElem?_replicate] at h
      split at h
      · cases h; trivial
      · cases h
    · rw [List.getElem?_replicate] at h
      split at h
      · cases h
      · cases h
  have hk : ∀ (DD : Ends), (∀ H', DD.rt (.bl true) H') → okS K mg (Ct.fn K N.length E) G H2 G H2 DD ((lstM []).bind fB (S0 ns)) := fun DD hr => by
    unfold finM at hm
    generalize (lstM []).bind fB = m at hm ⊢
    unfold M.bind at hm
    cases q : m (S0 ns) with
    | ok z S1 =>
      rw [q] at hm
      cases z with
      | nx c => cases hm
      | ret d =>
        cases hm
        intro v G' H' _ _ r
        cases r
        exact hr H'
      | brk l => exact l.elim
      | cnt l => exact l.elim
    | err x S1 => rw [q] at hm; cases hm
    | bad => rw [q] at hm; cases hm
  refine ⟨G, H2, G, S0 ns, si, okS.bindN (hk _ ?_) (wk_refl _) fun l2 xs G1 H1 S1 ds s1 f1 n hl2 z ho hc t h1 => ⟨.ref p, .ref l2, rfl, ds, G, H2, G1, S1, ?_, h1⟩⟩
  · exact fun H' => hQ H'
  · have r1 : Rep K G1 H1 (.ref p) .strm := Rep.mono f1 (.strm : Rep K G H2 (.ref G.sa) .strm)
    exact (s1.set i r1).setOwn j hl2 z ho hc n t fun i2 fs _ e => by
      by_cases q1 : i = i2
      · subst q1
        rw [List.getElem?_set] at e
        split at e
        · split at e <;> cases e
        · rename_i q; exact absurd rfl q
      · rw [List.getElem?_set_ne q1, List.getElem?_replicate] at e
        split at e <;> cases e
end
end Dl
/-! methods that give a new list -/
namespace Dl
open PySem L2
section
variable (P : Program) (w : World) (K : PySem.W.Frag) (mg : Str → Option Value) (base : Heap)
def MIN (c m : Str) (ps : List Str) (k : Nat) (g : List D → M (List D)) : Prop :=
  ∃ C f fd, CI K mg c C ∧ Meth K C m f ∧ Binds K fd ps [] ∧ FnOk P w K mg base (L2.CX P w) k f fd ps (spN K mg ps.length g)
end
theorem isA_okN {K : PySem.W.Frag} {mg : Str → Option Value} {W : WX} {ρ : List Slot} {G0 G : Gh} {H0 H : Hp} {σ : L2.St} {S : MS} {Q : VK} {cn mn : Str} {CA : Addr} {v : V} {d : D} {f : Unit → M (List D)} (si : SI K mg G0 H0 G H σ ρ S) (r : Rep K G H v d) (T : mg cn = some (.ref CA))
    (h : okN K mg W G0 H0 G H σ ρ Q ((isA cn mn d).bind f S)) : (∃ a dx gs, v = .ref a ∧ H a = some (.ins CA dx gs) ∧ gs.lookup mn = none) ∧ okN K mg W G0 H0 G H σ ρ Q (f () S) := by
  unfold isA M.bind at h
  cases q : insOf S d with
  | none => simp only [q] at h; exact h.elim
  | some cc =>
    obtain ⟨c', fs⟩ := cc
    simp only [q] at h
    by_cases ec : c' = cn
    · subst ec
      simp only [if_true] at h
      obtain ⟨a, dx, gs, ev, ha, t⟩ := ins_of si.wf r q T
      cases ql : fs.lookup mn with
      | none => simp only [ql] at h; exact ⟨⟨a, dx, gs, ev, ha, t.look.2 ql⟩, h⟩
      | some d' => simp only [ql] at h; exact h.elim
    · rw [if_neg ec] at h; exact h.elim
def methN (cn mn : Str) (g : List D → M (List D)) (mo : M D) (ms : List (M D)) : M (List D) := mo.bind fun o => (isA cn mn o).bind fun _ => (argsM ms).bind fun ds => g (o :: ds)
section
variable {X : Cx} {W : WX} {ρ : List Slot} {o : Expr} {mo : M D} {pos apos : Pos}
theorem en_meth0 {cn mn sn : Str} {k : Nat} {g : List D → M (List D)} {pl : Sem Bool} (F : MIN X.prog X.w X.K X.mg X.base cn mn [sn] k g) (tk : Takes X W) (hr : Room k X.A) (ho : ED X W ρ o mo)
    (ht : MC X o mn apos pos [] pl := by rfl) : EN X W ρ (.Call (.Attribute o mn apos) [] [] pos) (methN cn mn g mo []) := by
  obtain ⟨C, f, fd, T, hm, hb, F⟩ := F
  exact PE.imp (pe_methV0 (pl := pl) ho T.cl hm F hr hb (fun σ => passAt tk σ) ht) fun σ H Q ⟨G0, H0, G, S, si, h⟩ => ⟨G0, H0, G, S, si, okN.bind h fun G1 H1 S1 x d s1 f1 r1 h1 => by
    obtain ⟨⟨a, dx, gs, ev, ea, el⟩, h1⟩ := isA_okN s1 r1 T.mg h1
    refine ⟨a, dx, gs, ev, ea, el, G1, S1, [d], rfl, .cons r1 .nil, s1.wf, ?_⟩
    have h1 : okN X.K X.mg W G0 H0 G1 H1 σ ρ Q (g [d] S1) := h1
    cases qg : g [d] S1 with
    | ok es S2 =>
      rw [qg] at h1
      exact fun l xs G' H' fr wf n hl' z ho hc t => h1 l xs G' H' (s1.mono fr wf) fr n hl' z ho hc t
    | err _ _ =>
      rw [qg] at h1
      exact fun cls da G' H' fr wf r => h1 cls da G' H' (s1.mono fr wf) fr r
    | bad =>
      rw [qg] at h1
      exact h1⟩
end
theorem ev_methN0 {cn mn : Str} {g : List D → M (List D)} {mo : M D} {S : MS} : methN cn mn g mo [] S = (mo S).andThen fun o S1 => (isA cn mn o S1).andThen fun _ S2 => g [o] S2 := by
  unfold methN
  rw [ev_bind]
  congr 1
end Dl
namespace Lw
open PySem L2 Dl
noncomputable section
abbrev tabC : List (Str × List Str) := [("Memory", ["Memory"])]
abbrev f_draw := drawD
def f_pick (a_stream : D) (a_some : D) : M D := finM (retM (bin dItem (M.pure a_some) (callM (ar2 f_draw) [(M.pure a_stream), (callM (ar1 dLen) [(M.pure a_some)])])))
def f_is_integer (a_thing : D) : M D := finM (retM (andV (una (dIsX tabC [.int] []) (M.pure a_thing)) (notV (una (dIsX tabC [.bool] []) (M.pure a_thing)))))
def f_checked_octet (a_thing : D) : M D := finM (ifM (orT (notT (tst (callM (ar1 f_is_integer) [(M.pure a_thing)]))) (orT (tst (bin dLt (M.pure a_thing) (M.pure (D.int 0)))) (tst (bin dGt (M.pure a_thing) (M.pure (D.int 255)))))) (outM ((M.pure a_thing).bind fun v_e1 => M.raise ⟨"BadOctet", "value", v_e1⟩)) (retM (M.pure a_thing)))
def f_octets_ofN (a_things : D) : M (List D) := finN (retM (frz (mapR (M.bind (M.pure a_things) itemsR) (unT (.nm 1) (on1 fun v_thing2 => (callM (ar1 f_checked_octet) [(M.pure v_thing2)]))))))
def f_Memory_init (a_self : D) (a_octets : D) : M D := finM (M.bind (boxM (ifM (tst (callM (ar1 f_is_integer) [(M.pure a_octets)])) (repM (lstM [(M.pure (D.int 0))]) (M.pure a_octets)) ((argsM [(M.pure a_octets)]).bind (ar1N f_octets_ofN)))) fun v_v1 => M.bind (M.pure a_self) fun v_o2 => M.bind (setF "Memory" "octet_rows" v_o2 v_v1) fun _ => (M.pure (.nx ())))
def f_wis_very (a_thing : D) : M D := finM (M.bind (M.pure D.non) fun v_found1 => (thenM (tryM "BadOctet" "value" [] (M.bind (newM "Memory" (ar2 f_Memory_init) [(frz (lstM [(M.pure (D.int 0)), (M.pure a_thing)]))]) fun _ => (M.pure (.nx v_found1))) (fun v_e3 => (M.bind (M.pure v_e3) fun v_found4 => (M.pure (.nx v_found4))))) (fun (v_c2 : D) => (M.bind (appM (M.pure a_thing) (M.pure (D.int 5))) fun _ => (retM (bin dEqV (M.pure v_c2) (M.pure a_thing)))))))
def f_wsome_octets (a_stream : D) (a_many : D) : M (List D) := finN (retM (frz (mapX (M.bind (M.pure a_many) rng1) (unT (.nm 2) (on1 fun v_k2 => (callM (ar2 f_pick) [(M.pure a_stream), (frz (lstM [(M.pure (D.int 0)), (M.pure (D.int 1)), (M.pure (D.int 127)), (M.pure (D.int 128)), (M.pure (D.int 255)), (callM (ar2 f_draw) [(M.pure a_stream), (M.pure (D.int 256))])]))]))))))
def f_Memory_octets (a_self : D) : M (List D) := finN (retM (frz (toList (una (dFld "Memory" "octet_rows") (M.pure a_self)))))
def f_wsame : Nat → D → D → M D
  | 0, _, _ => M.bad
  | n + 1, a_found, a_due => finM (ifM (tst (una (dIsX tabC [.dict] []) (M.pure a_due))) (outM (retM (andV (una (dIsX tabC [.dict] []) (M.pure a_found)) M.bad))) (ifM (tst (una (dIsX tabC [.list, .tuple] []) (M.pure a_due))) (outM (ifM (orT (tst (bin dNe (una (dIsX tabC [.list] []) (M.pure a_found)) (una (dIsX tabC [.list] []) (M.pure a_due)))) (tst (bin dNe (una (dIsX tabC [.tuple] []) (M.pure a_found)) (una (dIsX tabC [.tuple] []) (M.pure a_due))))) (outM (retM (M.pure (D.bl false)))) (retM (andV (bin dEq (callM (ar1 dLen) [(M.pure a_found)]) (callM (ar1 dLen) [(M.pure a_due)])) (callM (ar1 dAll) [(frz (mapX (M.bind (argsM [(M.pure a_found), (M.pure a_due)]) zipM) (unT (.tp [(.nm 2), (.nm 3)]) (on2 fun v_one1 v_two2 => (callM (ar2 (f_wsame n)) [(M.pure v_one1), (M.pure v_two2)])))))]))))) (ifM (tst (una (dIsX tabC [.int] []) (M.pure a_due))) (outM (retM (andV (una (dIsX tabC [.int] []) (M.pure a_found)) (andV (bin dEq (una (dIsX tabC [.bool] []) (M.pure a_found)) (una (dIsX tabC [.bool] []) (M.pure a_due))) (bin dEq (M.pure a_found) (M.pure a_due)))))) (retM (andV (una (dIsB false) (una (dIsX tabC [.bool, .int, .list, .tuple, .dict] []) (M.pure a_found))) (bin dEq (M.pure a_found) (M.pure a_due)))))))
def f_wis_refused (a_stream : D) : M D := finM (M.bind (frz (lstM [(M.pure (D.int 256)), (una dNeg (M.pure (D.int 1))), (bin dMul (M.pure (D.int 64)) (bin dPow (M.pure (D.int 2)) (M.pure (D.int 64)))), (bin dMul (una dNeg (M.pure (D.int 64))) (bin dPow (M.pure (D.int 2)) (M.pure (D.int 64)))), (M.pure (D.bl true)), (M.pure (D.bl false)), (M.pure D.non), (M.pure (D.str "1")), (M.pure (D.str "")), (frz (lstM [(M.pure (D.int 1))])), (tupM []), (frzD (M.pure [])), (M.pure (D.int 300))])) fun v_odd1 => (M.bind (frz ((argsM [(M.pure a_stream), (callM (ar2 f_draw) [(M.pure a_stream), (M.pure (D.int 6))])]).bind (ar2N f_wsome_octets))) fun v_rows2 => (M.bind (mapX (M.bind (bin dAdd (M.pure (D.int 1)) (callM (ar2 f_draw) [(M.pure a_stream), (M.pure (D.int 3))])) rng1) (unT (.nm 7) (on1 fun v_k4 => (callM (ar2 f_pick) [(M.pure a_stream), (M.pure v_odd1)])))) fun v_bad3 => (M.bind (argsM [(callM (ar2 f_draw) [(M.pure a_stream), (bin dAdd (callM (ar1 dLen) [(M.pure v_rows2)]) (M.pure (D.int 1)))]), (M.pure D.non)]) (on2 fun v_at5 v_found6 => (thenM (tryM "BadOctet" "value" [] (M.bind (newM "Memory" (ar2 f_Memory_init) [(bin dAdd (bin dAdd (sliceM (M.pure v_rows2) (partM none) (partM (some (M.pure v_at5)))) (M.pure (D.lst v_bad3))) (sliceM (M.pure v_rows2) (partM (some (M.pure v_at5))) (partM none)))]) fun _ => (M.pure (.nx v_found6))) (fun v_e8 => (M.bind (tupM [(callM (ar1 dReprE) [(M.pure v_e8)]), (M.pure (D.bl true))]) fun v_found9 => (M.pure (.nx v_found9))))) (fun (v_c7 : D) => (retM (bin dEq (M.pure v_c7) (tupM [(callM (ar1 dReprE) [(bin dItem (M.pure (D.lst v_bad3)) (M.pure (D.int 0)))]), (M.pure (D.bl true))]))))))))))
def f_Memory_len (a_self : D) : M D := finM (retM (callM (ar1 dLen) [(una (dFld "Memory" "octet_rows") (M.pure a_self))]))
def f_Memory_checked_place (a_self : D) (a_k : D) : M D := finM (ifM (orT (notT (tst (callM (ar1 f_is_integer) [(M.pure a_k)]))) (orT (tst (bin dLt (M.pure a_k) (M.pure (D.int 0)))) (tst (bin dGe (M.pure a_k) (callM (ar1 dLen) [(una (dFld "Memory" "octet_rows") (M.pure a_self))]))))) (outM ((M.pure a_k).bind fun v_e1 => M.raise ⟨"BadAddress", "octet", v_e1⟩)) (retM (M.pure a_k)))
def f_Memory_getitem (a_self : D) (a_k : D) : M D := finM (retM (bin dItem (una (dFld "Memory" "octet_rows") (M.pure a_self)) (methM "Memory" "checked_place" (ar2 f_Memory_checked_place) (M.pure a_self) [(M.pure a_k)])))
def m_law : M (Fl Unit Empty) := (M.bind (lstM []) fun v_kept1 => (M.bind (M.bind (M.pure (D.int 8)) rng1) fun v_ds27 => thenM (forM (fun (v_c2 : List D) v_turn3 => (M.bind (callM (ar2 f_pick) [(M.pure D.strm), (frz (lstM [(M.pure (D.int 0)), (M.pure (D.int 1)), (M.pure (D.int 2)), (M.pure (D.int 3)), (M.pure (D.int 9)), (M.pure (D.int 200)), (callM (ar2 f_draw) [(M.pure D.strm), (M.pure (D.int 200))])]))]) fun v_many4 => (M.bind (argsM [(frz ((argsM [(M.pure D.strm), (M.pure v_many4)]).bind (ar2N f_wsome_octets))), (callM (ar2 f_draw) [(M.pure D.strm), (M.pure (D.int 3))])]) (on2 fun v_rows5 v_way6 => (M.bind (newM "Memory" (ar2 f_Memory_init) [(bin dItem (frz (lstM [(callM (ar1 dTuple) [(M.pure v_rows5)]), (M.pure v_many4), (frz (toList (M.pure v_rows5)))])) (M.pure v_way6))]) fun v_memory7 => (thenM (ifM (tst (bin dEq (M.pure v_way6) (M.pure (D.int 2)))) (M.bind (boxM (toList (M.pure v_rows5))) fun v_passed9 => (M.bind (newM "Memory" (ar2 f_Memory_init) [(M.pure v_passed9)]) fun v_memory10 => (M.bind (appM (M.pure v_passed9) (M.pure (D.int 7))) fun _ => (M.bind (M.pure (D.int 99)) fun v_v11 => M.bind (M.pure v_passed9) fun v_o12 => M.bind (M.pure (D.int 0)) fun v_i13 => M.bind (setI v_o12 v_i13 v_v11) fun _ => (M.pure (.nx v_memory10)))))) (M.pure (.nx v_memory7))) (fun (v_c8 : D) => (M.bind (ifM (tst (bin dEq (M.pure v_way6) (M.pure (D.int 1)))) (bin dMul (frz (lstM [(M.pure (D.int 0))])) (M.pure v_many4)) (M.pure v_rows5)) fun v_due14 => (M.bind (M.bind (M.pure (D.int 2)) rng1) fun v_ds24 => thenM (forM (fun (_ : Unit) v_again16 => (M.bind (boxM (methN "Memory" "octets" (ar1N f_Memory_octets) (M.pure v_c8) [])) fun v_found17 => (ifM (orT (notT (tst (borrowM (ar2 (f_wsame 8)) [(M.pure v_found17), (M.pure v_due14)]))) (notT (tst (callM (ar2 (f_wsame 8)) [(lenOM "Memory" (ar1 f_Memory_len) [(M.pure v_c8)]), (M.pure v_many4)])))) (outM (retM (M.pure (D.bl false)))) (M.bind (appM (M.pure v_found17) (M.pure (D.int 1))) fun _ => (M.bind (M.pure (D.int 77)) fun v_v18 => M.bind (M.pure v_found17) fun v_o19 => M.bind (M.pure (D.int 0)) fun v_i20 => M.bind (setI v_o19 v_i20 v_v18) fun _ => (M.pure (.nx ()))))))) v_ds24 ()) (fun (_ : Unit) => (ifM (orT (notT (tst (callM (ar2 (f_wsame 8)) [(frz (mapX (M.bind (M.pure v_many4) rng1) (unT (.nm 13) (on1 fun v_k21 => (getOM "Memory" (ar2 f_Memory_getitem) (M.pure v_c8) (M.pure v_k21)))))), (M.pure v_due14)]))) (notT (tst (callM (ar1 f_wis_refused) [(M.pure D.strm)])))) (outM (retM (M.pure (D.bl false)))) (M.bind (newM "Memory" (ar2 f_Memory_init) [(frz (methN "Memory" "octets" (ar1N f_Memory_octets) (M.pure v_c8) []))]) fun v_twin22 => (ifM (tst (bin dNe (idxM "Memory" (boxM (lstM [(M.pure v_twin22), (M.pure v_c8)])) (M.pure v_c8)) (M.pure (D.int 1)))) (outM (retM (M.pure (D.bl false)))) (M.bind (tupM [(M.pure v_c8), (M.pure v_due14)]) fun v_d23 => gd (szLt (List.length v_c2)) (M.pure (.nx (v_c2 ++ [v_d23]))))))))))))))))) v_ds27 v_kept1) (fun (v_c2 : List D) => (ifM (notT (tst (callM (ar1 f_wis_very) [(boxM (lstM [(M.pure (D.int 1))]))]))) (outM (retM (M.pure (D.bl false)))) (retM (callM (ar1 dAll) [(frz (mapX (M.bind (M.pure (D.lst v_c2)) items) (unT (.tp [(.nm 5), (.nm 6)]) (on2 fun v_memory25 v_due26 => (callM (ar2 (f_wsame 8)) [(frz (methN "Memory" "octets" (ar1N f_Memory_octets) (M.pure v_memory25) [])), (M.pure v_due26)])))))]))))))
end
end Lw
namespace Lw
open PySem L2 Dl
def top (i : Nat) : Stmt := PySem.Challenge.pw_fieldberth_k35_memories_made.main.body.getD i (.Pass ⟨0, 0, 0, 0⟩)
abbrev tgtC : List Str := []
structure Bi (mg : Str → Option Value) : Prop where
  b_all : mg "all" = none
  b_bool : mg "bool" = none
  b_dict : mg "dict" = none
  b_int : mg "int" = none
  b_isinstance : mg "isinstance" = none
  b_len : mg "len" = none
  b_list : mg "list" = none
  b_range : mg "range" = none
  b_repr : mg "repr" = none
  b_tuple : mg "tuple" = none
  b_zip : mg "zip" = none
section
variable {P : Program} {w : World} {K : PySem.W.Frag} {base : Heap} {mg : Str → Option Value}
abbrev s_pick : Stmt := top 13
theorem sc_pick : FnScope ["_law_stream", "_law_some"] ["_law_stream", "_law_some"] (defScope s_pick) := ⟨rfl, rfl, rfl, by decide +kernel, rfl, by decide +kernel, by decide +kernel⟩
theorem wk_pick {f : Addr} {fd : FuncData} (F : Fun K "_law_pick" "_law_pick" s_pick f fd) (hm : mg "_law_pick" = some (.ref f)) (hk : PySem.W.keepIn K (.ref f) = true) (hb : Binds K fd ["_law_stream", "_law_some"] []) (B : Bi mg) (I_draw : FI P w K mg base "_law_draw" ["_law_stream", "_law_many"] 1 (ar2 f_draw)) : FI P w K mg base "_law_pick" ["_law_stream", "_law_some"] 2 (ar2 f_pick) := by
  exact ⟨f, fd, hm, hk, hb, fn_of_D F sc_pick fun ds hl cdv A outer s H E hr tk po => match ds, hl with
    | [a_stream, a_some], _ => ⟨_, rfl, show SD _ _ [.val a_stream, .val a_some] _ _ from (sd_ret (wk_any _) (ed_item (kpos := ⟨0, 0, 0, 0⟩) (ed_var 1) (ed_callF I_draw tk (hr.mono (by decide)) (ea_cons (ed_var 0) (ea_cons (ed_callB call_len calld_len B.b_len PySem.boot_len (ea_cons (ed_var 1) ea_nil)) ea_nil)))))⟩⟩
abbrev s_is_integer : Stmt := top 6
theorem sc_is_integer : FnScope ["thing"] ["thing"] (defScope s_is_integer) := ⟨rfl, rfl, rfl, by decide +kernel, rfl, by decide +kernel, by decide +kernel⟩
theorem wk_is_integer {f : Addr} {fd : FuncData} (F : Fun K "is_integer" "is_integer" s_is_integer f fd) (hm : mg "is_integer" = some (.ref f)) (hk : PySem.W.keepIn K (.ref f) = true) (hb : Binds K fd ["thing"] []) (TF : TabF K mg tgtC tabC) (B : Bi mg) : FI P w K mg base "is_integer" ["thing"] 1 (ar1 f_is_integer) := by
  exact ⟨f, fd, hm, hk, hb, fn_of_D F sc_is_integer fun ds hl cdv A outer s H E hr tk po => match ds, hl with
    | [a_thing], _ => ⟨_, rfl, show SD _ _ [.val a_thing] _ _ from (sd_ret (wk_any _) (ed_and (ed_isiX TF ⟨B.b_int, by decide +kernel, by rfl, by decide, by decide, by decide⟩ B.b_isinstance (ed_var 0)) (ed_one (ed_not (ed_isiX TF ⟨B.b_bool, by decide +kernel, by rfl, by decide, by decide, by decide⟩ B.b_isinstance (ed_var 0))))))⟩⟩
abbrev s_checked_octet : Stmt := top 8
theorem sc_checked_octet : FnScope ["thing"] ["thing"] (defScope s_checked_octet) := ⟨rfl, rfl, rfl, by decide +kernel, rfl, by decide +kernel, by decide +kernel⟩
theorem wk_checked_octet {f : Addr} {fd : FuncData} (F : Fun K "checked_octet" "checked_octet" s_checked_octet f fd) (hm : mg "checked_octet" = some (.ref f)) (hk : PySem.W.keepIn K (.ref f) = true) (hb : Binds K fd ["thing"] []) (I_is_integer : FI P w K mg base "is_integer" ["thing"] 1 (ar1 f_is_integer)) (E_BadOctet : EI P w K mg base "BadOctet" "value") : FI P w K mg base "checked_octet" ["thing"] 3 (ar1 f_checked_octet) := by
  exact ⟨f, fd, hm, hk, hb, fn_of_D F sc_checked_octet fun ds hl cdv A outer s H E hr tk po => match ds, hl with
    | [a_thing], _ => ⟨_, rfl, show SD _ _ [.val a_thing] _ _ from (sd_ifR (wk_any _) (et_w (ew_or (et_not (et_val (ed_callF I_is_integer tk (hr.mono (by decide)) (ea_cons (ed_var 0) ea_nil)))) (ew_or (et_lt (ed_var 0) ed_int) (ew_or1 (et_gt (ed_var 0) ed_int))))) (sd_raiseF (wk_any _) E_BadOctet tk (hr.mono (by decide)) (ed_var 0)) (sd_ret (wk_any _) (ed_var 0)))⟩⟩
abbrev s_octets_ofN : Stmt := top 9
theorem sc_octets_ofN : FnScope ["things", "thing"] ["things"] (defScope s_octets_ofN) := ⟨rfl, rfl, rfl, by decide +kernel, rfl, by decide +kernel, by decide +kernel⟩
theorem wk_octets_ofN {f : Addr} {fd : FuncData} (F : Fun K "octets_of" "octets_of" s_octets_ofN f fd) (hm : mg "octets_of" = some (.ref f)) (hk : PySem.W.keepIn K (.ref f) = true) (hb : Binds K fd ["things"] []) (I_checked_octet : FI P w K mg base "checked_octet" ["thing"] 3 (ar1 f_checked_octet)) : FN P w K mg base "octets_of" ["things"] 4 (ar1N f_octets_ofN) := by
  exact ⟨f, fd, hm, hk, hb, fn_of_N F sc_octets_ofN fun ds hl cdv A outer s H E hr tk po => match ds, hl with
    | [a_things], _ => ⟨_, rfl, show SD _ _ [.val a_things, .any] _ _ from (sd_retNew (wk_any _) (en_mapR (.nm 1) tk sc_octets_ofN.nd (blkOk_by (N := ["things", "thing"]) (sc := defScope s_octets_ofN) (own := [("thing", 1)]) (by decide +kernel)) (idr_seq (ed_var 0)) (by decide) (fun _ _ _ _ _ _ => (pg_name (i := 1) sc_octets_ofN.nd rfl (Or.inl rfl))) (fun _ _ _ _ _ _ W' tk' us => match us with | [] => ed_bad | [v_thing2] => (ed_callF I_checked_octet tk' (hr.mono (by decide)) (ea_cons (ed_var 1) ea_nil)) | _ :: _ :: _ => ed_bad)))⟩⟩
abbrev s_Memory_init : Stmt := inClass (top 10) 0
theorem sc_Memory_init : FnScope ["self", "octets"] ["self", "octets"] (defScope s_Memory_init) := ⟨rfl, rfl, rfl, by decide +kernel, rfl, by decide +kernel, by decide +kernel⟩
theorem wk_Memory_init {C f : Addr} {fd : FuncData} (F : Fun K "__init__" "Memory.__init__" s_Memory_init f fd) (hc : CI K mg "Memory" C) (hm : Mk K C f) (hb : Binds K fd ["self", "octets"] []) (I_octets_ofN : FN P w K mg base "octets_of" ["things"] 4 (ar1N f_octets_ofN)) (I_is_integer : FI P w K mg base "is_integer" ["thing"] 1 (ar1 f_is_integer)) (na_Memory_octet_rows : NA K mg "Memory" "octet_rows") : KI P w K mg base "Memory" ["self", "octets"] 5 (ar2 f_Memory_init) := by
  exact ⟨C, f, fd, hc, hm, hb, fn_of_D F sc_Memory_init fun ds hl cdv A outer s H E hr tk po => match ds, hl with
    | [a_self, a_octets], _ => ⟨_, rfl, show SD _ _ [.val a_self, .val a_octets] _ _ from (sd_fldF (wk_any _) na_Memory_octet_rows (ed_var 0) (ed_box (en_if (et_val (ed_callF I_is_integer tk (hr.mono (by decide)) (ea_cons (ed_var 1) ea_nil))) (en_rep (en_lst (ea_cons ed_int ea_nil)) (ed_var 1)) (en_callN I_octets_ofN tk (hr.mono (by decide)) (ea_cons (ed_var 1) ea_nil)))) (sd_nil (c := ()) (wk_any _)))⟩⟩
abbrev s_wis_very : Stmt := top 17
theorem sc_wis_very : FnScope ["_law_thing", "_law_found", "e"] ["_law_thing"] (defScope s_wis_very) := ⟨rfl, rfl, rfl, by decide +kernel, rfl, by decide +kernel, by decide +kernel⟩
theorem wk_wis_very {f : Addr} {fd : FuncData} (F : Fun K "_law_is_very" "_law_is_very" s_wis_very f fd) (hm : mg "_law_is_very" = some (.ref f)) (hk : PySem.W.keepIn K (.ref f) = true) (hb : Binds K fd ["_law_thing"] []) (I_Memory_init : KI P w K mg base "Memory" ["self", "octets"] 5 (ar2 f_Memory_init)) (X_BadOctet : EX K mg "BadOctet" "value") : FI P w K mg base "_law_is_very" ["_law_thing"] 7 (ar1 f_wis_very) := by
  obtain ⟨CA_BadOctet, hm_BadOctet, te_BadOctet, xf_BadOctet, nf_BadOctet⟩ := X_BadOctet
  exact ⟨f, fd, hm, hk, hb, fn_of_D F sc_wis_very fun ds hl cdv A outer s H E hr tk po => match ds, hl with
    | [a_thing], _ => ⟨_, rfl, show SD _ _ [.val a_thing, .any, .any] _ _ from (sd_set 1 (wk_any _) sc_wis_very.nd ed_non (fun v_found1 => (sd_try (fun (v_c2 : D) => [.val a_thing, .val v_c2, .any]) [.val a_thing, .val v_found1, .any] (i := 2) (f := "value") (wk_any _) (wk_any _) hm_BadOctet tk sc_wis_very.nd te_BadOctet (fun _ h => nomatch h) (fun W1 pn1 xe1 tk1 po1 => (sd_expr (.same (.same (.any .nil))) (ed_makeF I_Memory_init tk1 (hr.mono (by decide)) (ea_cons (ed_new (en_lst (ea_cons ed_int (ea_cons (ed_var 0) ea_nil)))) ea_nil)) (sd_nil (c := v_found1) (.same (.same (.any .nil)))))) (fun a1 d1 oe1 v_e3 pn1 hz hv => (sd_set 1 (wk_any _) sc_wis_very.nd (ed_xf (i := 2) xf_BadOctet nf_BadOctet hz hv rfl) (fun v_found4 => (sd_nil (c := v_found4) (.same (.same (.any .nil))))))) (fun v_c2 => (sd_expr (wk_any _) (ed_appP (pe_bm PySem.F.plainAttrs_list PySem.F.slot_list_append PySem.F.type_list_append mt_append (ed_var 0) (pa_cons ed_int pa_nil))) (sd_ret (wk_any _) (ed_eqV hr (ed_var 1) (ed_var 0))))) (fun _ => rfl) (fun l => l.elim))))⟩⟩
abbrev s_wsome_octets : Stmt := top 15
theorem sc_wsome_octets : FnScope ["_law_stream", "_law_many", "_law_k"] ["_law_stream", "_law_many"] (defScope s_wsome_octets) := ⟨rfl, rfl, rfl, by decide +kernel, rfl, by decide +kernel, by decide +kernel⟩
theorem wk_wsome_octets {f : Addr} {fd : FuncData} (F : Fun K "_law_some_octets" "_law_some_octets" s_wsome_octets f fd) (hm : mg "_law_some_octets" = some (.ref f)) (hk : PySem.W.keepIn K (.ref f) = true) (hb : Binds K fd ["_law_stream", "_law_many"] []) (B : Bi mg) (I_draw : FI P w K mg base "_law_draw" ["_law_stream", "_law_many"] 1 (ar2 f_draw)) (I_pick : FI P w K mg base "_law_pick" ["_law_stream", "_law_some"] 2 (ar2 f_pick)) : FN P w K mg base "_law_some_octets" ["_law_stream", "_law_many"] 3 (ar2N f_wsome_octets) := by
  exact ⟨f, fd, hm, hk, hb, fn_of_N F sc_wsome_octets fun ds hl cdv A outer s H E hr tk po => match ds, hl with
    | [a_stream, a_many], _ => ⟨_, rfl, show SD _ _ [.val a_stream, .val a_many, .any] _ _ from (sd_retNew (wk_any _) (en_mapX (.nm 2) tk sc_wsome_octets.nd (blkOk_by (N := ["_law_stream", "_law_many", "_law_k"]) (sc := defScope s_wsome_octets) (own := [("_law_k", 2)]) (by decide +kernel)) (id_rng1 B.b_range (ed_var 1)) (by decide) (fun _ _ _ _ _ _ => (pg_name (i := 2) sc_wsome_octets.nd rfl (Or.inl rfl))) (fun _ _ _ _ _ _ W' tk' us => match us with | [] => ed_bad | [v_k2] => (ed_callF I_pick tk' (hr.mono (by decide)) (ea_cons (ed_var 0) (ea_cons (ed_new (en_lst (ea_cons ed_int (ea_cons ed_int (ea_cons ed_int (ea_cons ed_int (ea_cons ed_int (ea_cons (ed_callF I_draw tk' (hr.mono (by decide)) (ea_cons (ed_var 0) (ea_cons ed_int ea_nil))) ea_nil)))))))) ea_nil))) | _ :: _ :: _ => ed_bad)))⟩⟩
abbrev s_Memory_octets : Stmt := inClass (top 10) 6
theorem sc_Memory_octets : FnScope ["self"] ["self"] (defScope s_Memory_octets) := ⟨rfl, rfl, rfl, by decide +kernel, rfl, by decide +kernel, by decide +kernel⟩
theorem wk_Memory_octets {C f : Addr} {fd : FuncData} (F : Fun K "octets" "Memory.octets" s_Memory_octets f fd) (hc : CI K mg "Memory" C) (hm : Meth K C "octets" f) (hb : Binds K fd ["self"] []) (na_Memory_octet_rows : NA K mg "Memory" "octet_rows") (B : Bi mg) : MIN P w K mg base "Memory" "octets" ["self"] 1 (ar1N f_Memory_octets) := by
  exact ⟨C, f, fd, hc, hm, hb, fn_of_N F sc_Memory_octets fun ds hl cdv A outer s H E hr tk po => match ds, hl with
    | [a_self], _ => ⟨_, rfl, show SD _ _ [.val a_self] _ _ from (sd_retNew (wk_any _) (en_list (mL := B.b_list) (ed_fldF na_Memory_octet_rows (ed_var 0))))⟩⟩
abbrev s_wsame : Stmt := top 14
theorem sc_wsame : FnScope ["_law_found", "_law_due", "_law_one", "_law_two"] ["_law_found", "_law_due"] (defScope s_wsame) := ⟨rfl, rfl, rfl, by decide +kernel, rfl, by decide +kernel, by decide +kernel⟩
theorem wk_wsame {f : Addr} {fd : FuncData} (F : Fun K "_law_same" "_law_same" s_wsame f fd) (hm : mg "_law_same" = some (.ref f)) (hk : PySem.W.keepIn K (.ref f) = true) (hb : Binds K fd ["_law_found", "_law_due"] []) (TF : TabF K mg tgtC tabC) (B : Bi mg) : ∀ n : Nat, FI P w K mg base "_law_same" ["_law_found", "_law_due"] (1 + n) (ar2 (f_wsame n))
  | 0 => ⟨f, fd, hm, hk, hb, fn_of_D F sc_wsame fun ds hl cdv A outer s H E hr tk po => match ds, hl with
    | [_, _], _ => ⟨M.bad, rfl, sd_bad⟩⟩
  | n + 1 => by
    have ih_wsame := wk_wsame F hm hk hb TF B n
    exact ⟨f, fd, hm, hk, hb, fn_of_D F sc_wsame fun ds hl cdv A outer s H E hr tk po => match ds, hl with
    | [a_found, a_due], _ => ⟨_, rfl, show SD _ _ [.val a_found, .val a_due, .any, .any] _ _ from (sd_ifR (wk_any _) (et_val (ed_isiX TF ⟨B.b_dict, by decide +kernel, by rfl, by decide, by decide, by decide⟩ B.b_isinstance (ed_var 1))) (sd_ret (wk_any _) (ed_and (ed_isiX TF ⟨B.b_dict, by decide +kernel, by rfl, by decide, by decide, by decide⟩ B.b_isinstance (ed_var 0)) (ed_one ed_bad))) (sd_ifR (wk_any _) (et_val (ed_isiTX TF (.cons ⟨B.b_list, by decide +kernel, by rfl, by decide, by decide, by decide⟩ (by rfl) (.cons ⟨B.b_tuple, by decide +kernel, by rfl, by decide, by decide, by decide⟩ (by rfl) .nil)) B.b_isinstance (ed_var 1))) (sd_ifR (wk_any _) (et_w (ew_or (et_ne hr (ed_isiX TF ⟨B.b_list, by decide +kernel, by rfl, by decide, by decide, by decide⟩ B.b_isinstance (ed_var 0)) (ed_isiX TF ⟨B.b_list, by decide +kernel, by rfl, by decide, by decide, by decide⟩ B.b_isinstance (ed_var 1))) (ew_or1 (et_ne hr (ed_isiX TF ⟨B.b_tuple, by decide +kernel, by rfl, by decide, by decide, by decide⟩ B.b_isinstance (ed_var 0)) (ed_isiX TF ⟨B.b_tuple, by decide +kernel, by rfl, by decide, by decide, by decide⟩ B.b_isinstance (ed_var 1)))))) (sd_ret (wk_any _) ed_bl) (sd_ret (wk_any _) (ed_and (ed_eq hr (ed_callB call_len calld_len B.b_len PySem.boot_len (ea_cons (ed_var 0) ea_nil)) (ed_callB call_len calld_len B.b_len PySem.boot_len (ea_cons (ed_var 1) ea_nil))) (ed_one (ed_callB (cr_all rfl) calld_all B.b_all (by decide +kernel) (ea_cons (ed_new (en_mapX (.tp [(.nm 2), (.nm 3)]) tk sc_wsame.nd (blkOk_by (N := ["_law_found", "_law_due", "_law_one", "_law_two"]) (sc := defScope s_wsame) (own := [("_law_one", 2), ("_law_two", 3)]) (by decide +kernel)) (id_zip B.b_zip (ea_cons (ed_var 0) (ea_cons (ed_var 1) ea_nil))) (by decide) (fun _ _ _ _ _ _ => (pg_tup rfl (pgs_cons (pg_name (i := 2) sc_wsame.nd rfl (Or.inl rfl)) (pgs_cons (pg_name (i := 3) sc_wsame.nd rfl (Or.inl rfl)) pgs_nil)))) (fun _ _ _ _ _ _ W' tk' us => match us with | [] => ed_bad | [_] => ed_bad | [v_one1, v_two2] => (ed_callF ih_wsame tk' (hr.mono (by show _ ≤ 1 + n; omega)) (ea_cons (ed_var 2) (ea_cons (ed_var 3) ea_nil))) | _ :: _ :: _ :: _ => ed_bad))) ea_nil)))))) (sd_ifR (wk_any _) (et_val (ed_isiX TF ⟨B.b_int, by decide +kernel, by rfl, by decide, by decide, by decide⟩ B.b_isinstance (ed_var 1))) (sd_ret (wk_any _) (ed_and (ed_isiX TF ⟨B.b_int, by decide +kernel, by rfl, by decide, by decide, by decide⟩ B.b_isinstance (ed_var 0)) (ed_and (ed_eq hr (ed_isiX TF ⟨B.b_bool, by decide +kernel, by rfl, by decide, by decide, by decide⟩ B.b_isinstance (ed_var 0)) (ed_isiX TF ⟨B.b_bool, by decide +kernel, by rfl, by decide, by decide, by decide⟩ B.b_isinstance (ed_var 1))) (ed_one (ed_eq hr (ed_var 0) (ed_var 1)))))) (sd_ret (wk_any _) (ed_and (ed_isB (ed_isiTX TF (.cons ⟨B.b_bool, by decide +kernel, by rfl, by decide, by decide, by decide⟩ (by rfl) (.cons ⟨B.b_int, by decide +kernel, by rfl, by decide, by decide, by decide⟩ (by rfl) (.cons ⟨B.b_list, by decide +kernel, by rfl, by decide, by decide, by decide⟩ (by rfl) (.cons ⟨B.b_tuple, by decide +kernel, by rfl, by decide, by decide, by decide⟩ (by rfl) (.cons ⟨B.b_dict, by decide +kernel, by rfl, by decide, by decide, by decide⟩ (by rfl) .nil))))) B.b_isinstance (ed_var 0))) (ed_one (ed_eq hr (ed_var 0) (ed_var 1))))))))⟩⟩
abbrev s_wis_refused : Stmt := top 16
theorem sc_wis_refused : FnScope ["_law_stream", "_law_odd", "_law_rows", "_law_bad", "e", "_law_at", "_law_found", "_law_k"] ["_law_stream"] (defScope s_wis_refused) := ⟨rfl, rfl, rfl, by decide +kernel, rfl, by decide +kernel, by decide +kernel⟩
theorem wk_wis_refused {f : Addr} {fd : FuncData} (F : Fun K "_law_is_refused" "_law_is_refused" s_wis_refused f fd) (hm : mg "_law_is_refused" = some (.ref f)) (hk : PySem.W.keepIn K (.ref f) = true) (hb : Binds K fd ["_law_stream"] []) (I_draw : FI P w K mg base "_law_draw" ["_law_stream", "_law_many"] 1 (ar2 f_draw)) (I_wsome_octets : FN P w K mg base "_law_some_octets" ["_law_stream", "_law_many"] 3 (ar2N f_wsome_octets)) (B : Bi mg) (I_pick : FI P w K mg base "_law_pick" ["_law_stream", "_law_some"] 2 (ar2 f_pick)) (I_Memory_init : KI P w K mg base "Memory" ["self", "octets"] 5 (ar2 f_Memory_init)) (XI_BadOctet_BerthError : XIs K mg "BadOctet" "BerthError") (X_BadOctet : EX K mg "BadOctet" "value") : FIG P w K mg base "_law_is_refused" ["_law_stream"] 7 (ar1 f_wis_refused) := by
  obtain ⟨CA_BadOctet, hm_BadOctet, te_BadOctet, xf_BadOctet, nf_BadOctet⟩ := X_BadOctet
  exact ⟨f, fd, hm, hk, hb, fnG_of_D F sc_wis_refused fun ds hl cdv A outer s H E gu hr tk po => match ds, hl with
    | [a_stream], _ => ⟨_, rfl, show SD _ _ [.val a_stream, .any, .any, .any, .any, .any, .any, .any] _ _ from (sd_set 1 (wk_any _) sc_wis_refused.nd (ed_new (en_lst (ea_cons ed_int (ea_cons (ed_neg ed_int) (ea_cons (ed_mul ed_int (ed_pow ed_int ed_int)) (ea_cons (ed_mul (ed_neg ed_int) (ed_pow ed_int ed_int)) (ea_cons ed_bl (ea_cons ed_bl (ea_cons ed_non (ea_cons ed_str (ea_cons ed_str (ea_cons (ed_new (en_lst (ea_cons ed_int ea_nil))) (ea_cons (ed_tup ea_nil) (ea_cons (ed_newD end_empty) (ea_cons ed_int ea_nil))))))))))))))) (fun v_odd1 => (sd_set 2 (wk_any _) sc_wis_refused.nd (ed_new (en_callN I_wsome_octets tk (hr.mono (by decide)) (ea_cons (ed_var 0) (ea_cons (ed_callF I_draw tk (hr.mono (by decide)) (ea_cons (ed_var 0) (ea_cons ed_int ea_nil))) ea_nil)))) (fun v_rows2 => (sd_ofLc 3 (wk_any _) (ps_mapX (.nm 7) tk sc_wis_refused.nd (blkOk_by (N := ["_law_stream", "_law_odd", "_law_rows", "_law_bad", "e", "_law_at", "_law_found", "_law_k"]) (sc := defScope s_wis_refused) (own := [("_law_k", 7)]) (by decide +kernel)) (id_rng1 B.b_range (ed_add ed_int (ed_callF I_draw tk (hr.mono (by decide)) (ea_cons (ed_var 0) (ea_cons ed_int ea_nil))))) (by decide) (fun _ _ _ _ _ _ => (pg_name (i := 7) sc_wis_refused.nd rfl (Or.inl rfl))) (fun _ _ _ _ _ _ W' tk' us => match us with | [] => ed_bad | [v_k4] => (ed_callF I_pick tk' (hr.mono (by decide)) (ea_cons (ed_var 0) (ea_cons (ed_var 1) ea_nil))) | _ :: _ :: _ => ed_bad) rfl rfl (sw_true rfl rfl rfl (by decide +kernel))) (fun v_bad3 => (sd_par2 5 6 (wk_any _) (ps_par rfl sc_wis_refused.nd rfl rfl (by decide) rfl rfl (ea_cons (ed_callF I_draw tk (hr.mono (by decide)) (ea_cons (ed_var 0) (ea_cons (ed_add (ed_callB call_len calld_len B.b_len PySem.boot_len (ea_cons (ed_var 2) ea_nil)) ed_int) ea_nil))) (ea_cons ed_non ea_nil)) (by rfl)) (fun v_at5 v_found6 => (sd_try (fun (v_c7 : D) => [.val a_stream, .val v_odd1, .val v_rows2, .val (D.lst v_bad3), .any, .val v_at5, .val v_c7, .any]) [.val a_stream, .val v_odd1, .val v_rows2, .val (D.lst v_bad3), .any, .val v_at5, .val v_found6, .any] (i := 4) (f := "value") (wk_any _) (wk_any _) hm_BadOctet tk sc_wis_refused.nd te_BadOctet (fun _ h => nomatch h) (fun W1 pn1 xe1 tk1 po1 => (sd_expr (.same (.same (.same (.same (.any (.same (.same (.any .nil)))))))) (ed_makeF I_Memory_init tk1 (hr.mono (by decide)) (ea_cons (ed_add (ed_add (ed_slice (ed_var 2) eo_none (eo_some (ed_var 5))) (ed_var 3)) (ed_slice (ed_var 2) (eo_some (ed_var 5)) eo_none)) ea_nil)) (sd_nil (c := v_found6) (.same (.same (.same (.same (.any (.same (.same (.any .nil))))))))))) (fun a1 d1 oe1 v_e8 pn1 hz hv => (sd_set 6 (wk_any _) sc_wis_refused.nd (ed_tup (ea_cons (ed_reprE gu hr.units B.b_repr (ed_xf (i := 4) xf_BadOctet nf_BadOctet hz hv rfl)) (ea_cons (ed_isX (i := 4) hm_BadOctet XI_BadOctet_BerthError B.b_isinstance hz hv rfl) ea_nil))) (fun v_found9 => (sd_nil (c := v_found9) (.same (.same (.same (.same (.any (.same (.same (.any .nil)))))))))))) (fun v_c7 => (sd_ret (wk_any _) (ed_eq hr (ed_var 6) (ed_tup (ea_cons (ed_reprE gu hr.units B.b_repr (ed_item (kpos := ⟨0, 0, 0, 0⟩) (ed_var 3) ed_int)) (ea_cons ed_bl ea_nil)))))) (fun _ => rfl) (fun l => l.elim))))))))))⟩⟩
abbrev s_Memory_len : Stmt := inClass (top 10) 1
theorem sc_Memory_len : FnScope ["self"] ["self"] (defScope s_Memory_len) := ⟨rfl, rfl, rfl, by decide +kernel, rfl, by decide +kernel, by decide +kernel⟩
theorem wk_Memory_len {C f : Addr} {fd : FuncData} (F : Fun K "__len__" "Memory.__len__" s_Memory_len f fd) (hc : CI K mg "Memory" C) (hm : Meth K C "__len__" f) (hb : Binds K fd ["self"] []) (na_Memory_octet_rows : NA K mg "Memory" "octet_rows") (B : Bi mg) : MI P w K mg base "Memory" "__len__" ["self"] 1 (ar1 f_Memory_len) := by
  exact ⟨C, f, fd, hc, hm, hb, fn_of_D F sc_Memory_len fun ds hl cdv A outer s H E hr tk po => match ds, hl with
    | [a_self], _ => ⟨_, rfl, show SD _ _ [.val a_self] _ _ from (sd_ret (wk_any _) (ed_callB call_len calld_len B.b_len PySem.boot_len (ea_cons (ed_fldF na_Memory_octet_rows (ed_var 0)) ea_nil)))⟩⟩
abbrev s_Memory_checked_place : Stmt := inClass (top 10) 5
theorem sc_Memory_checked_place : FnScope ["self", "k"] ["self", "k"] (defScope s_Memory_checked_place) := ⟨rfl, rfl, rfl, by decide +kernel, rfl, by decide +kernel, by decide +kernel⟩
theorem wk_Memory_checked_place {C f : Addr} {fd : FuncData} (F : Fun K "checked_place" "Memory.checked_place" s_Memory_checked_place f fd) (hc : CI K mg "Memory" C) (hm : Meth K C "checked_place" f) (hb : Binds K fd ["self", "k"] []) (I_is_integer : FI P w K mg base "is_integer" ["thing"] 1 (ar1 f_is_integer)) (na_Memory_octet_rows : NA K mg "Memory" "octet_rows") (B : Bi mg) (E_BadAddress : EI P w K mg base "BadAddress" "octet") : MI P w K mg base "Memory" "checked_place" ["self", "k"] 3 (ar2 f_Memory_checked_place) := by
  exact ⟨C, f, fd, hc, hm, hb, fn_of_D F sc_Memory_checked_place fun ds hl cdv A outer s H E hr tk po => match ds, hl with
    | [a_self, a_k], _ => ⟨_, rfl, show SD _ _ [.val a_self, .val a_k] _ _ from (sd_ifR (wk_any _) (et_w (ew_or (et_not (et_val (ed_callF I_is_integer tk (hr.mono (by decide)) (ea_cons (ed_var 1) ea_nil)))) (ew_or (et_lt (ed_var 1) ed_int) (ew_or1 (et_ge (ed_var 1) (ed_callB call_len calld_len B.b_len PySem.boot_len (ea_cons (ed_fldF na_Memory_octet_rows (ed_var 0)) ea_nil))))))) (sd_raiseF (wk_any _) E_BadAddress tk (hr.mono (by decide)) (ed_var 1)) (sd_ret (wk_any _) (ed_var 1)))⟩⟩
abbrev s_Memory_getitem : Stmt := inClass (top 10) 3
theorem sc_Memory_getitem : FnScope ["self", "k"] ["self", "k"] (defScope s_Memory_getitem) := ⟨rfl, rfl, rfl, by decide +kernel, rfl, by decide +kernel, by decide +kernel⟩
theorem wk_Memory_getitem {C f : Addr} {fd : FuncData} (F : Fun K "__getitem__" "Memory.__getitem__" s_Memory_getitem f fd) (hc : CI K mg "Memory" C) (hm : Meth K C "__getitem__" f) (hb : Binds K fd ["self", "k"] []) (hq : PySem.W.noSeq K C = true) (na_Memory_octet_rows : NA K mg "Memory" "octet_rows") (I_Memory_checked_place : MI P w K mg base "Memory" "checked_place" ["self", "k"] 3 (ar2 f_Memory_checked_place)) : MIO P w K mg base "Memory" "__getitem__" ["self", "k"] 4 (ar2 f_Memory_getitem) := by
  exact ⟨C, f, fd, hc, hm, hb, fnIn_of F, hq, fn_of_D F sc_Memory_getitem fun ds hl cdv A outer s H E hr tk po => match ds, hl with
    | [a_self, a_k], _ => ⟨_, rfl, show SD _ _ [.val a_self, .val a_k] _ _ from (sd_ret (wk_any _) (ed_item (kpos := ⟨0, 0, 0, 0⟩) (ed_fldF na_Memory_octet_rows (ed_var 0)) (ed_methF I_Memory_checked_place tk (hr.mono (by decide)) (ed_var 0) (ea_cons (ed_var 1) ea_nil))))⟩⟩
abbrev s_law : Stmt := top 18
theorem sc_law : FnScope ["_law_script", "_law_turn", "_law_stream", "_law_kept", "_law_many", "_law_memory", "_law_due", "_law_again", "_law_twin", "_law_rows", "_law_way", "_law_passed", "_law_found", "_law_k"] ["_law_script"] (defScope s_law) := ⟨rfl, rfl, rfl, by decide +kernel, rfl, by decide +kernel, by decide +kernel⟩
set_option maxHeartbeats 0 in
theorem ok_law {f : Addr} {fd : FuncData} (F : Fun K "law" "law" s_law f fd) (hz : tabX K mg = []) (B : Bi mg) (I_draw : FI P w K mg base "_law_draw" ["_law_stream", "_law_many"] 1 (ar2 f_draw)) (I_pick : FI P w K mg base "_law_pick" ["_law_stream", "_law_some"] 2 (ar2 f_pick)) (I_wsome_octets : FN P w K mg base "_law_some_octets" ["_law_stream", "_law_many"] 3 (ar2N f_wsome_octets)) (I_Memory_init : KI P w K mg base "Memory" ["self", "octets"] 5 (ar2 f_Memory_init)) (I_Memory_octets : MIN P w K mg base "Memory" "octets" ["self"] 1 (ar1N f_Memory_octets)) (I_wsame : ∀ n, FI P w K mg base "_law_same" ["_law_found", "_law_due"] (1 + n) (ar2 (f_wsame n))) (I_Memory_len : MI P w K mg base "Memory" "__len__" ["self"] 1 (ar1 f_Memory_len)) (I_Memory_getitem : MIO P w K mg base "Memory" "__getitem__" ["self", "k"] 4 (ar2 f_Memory_getitem)) (I_wis_refused : FIG P w K mg base "_law_is_refused" ["_law_stream"] 7 (ar1 f_wis_refused)) (EQ_Memory : EqF K mg "Memory") (I_wis_very : FI P w K mg base "_law_is_very" ["_law_thing"] 7 (ar1 f_wis_very)) (hlaw : ∀ ns : List Int, ns.length ≤ 63 → ∃ S', finM m_law (S0 ns) = .ok (.bl true) S') : FnG P w K mg base (L2.CX P w) 10 f fd ["_law_script"] (spL K) := by
  exact fnG_law2 (i := 2) (j := 3) F sc_law hz (by decide) hlaw fun cdv A outer s H E gu hr tk po => ⟨_, _, rfl, ps_par (i := 2) (j := 3) rfl sc_law.nd rfl rfl (by decide) rfl rfl (pa_cons (pe_lst (pa_cons (pe_callTy call_list_of (by rfl) B.b_list (by decide +kernel) (pa_cons (pv 0) pa_nil)) (pa_cons pe_int (pa_cons pe_int (pa_cons pe_int pa_nil))))) (pa_cons (en_lst ea_nil) pa_nil)) (by rfl), fun v_kept1 => (show SD _ _ [.any, .any, .val D.strm, .own v_kept1, .any, .any, .any, .any, .any, .any, .any, .any, .any, .any] _ _ from (sd_for1 1 (fun (v_c2 : List D) => [.any, .any, .val D.strm, .own v_c2, .any, .any, .any, .any, .any, .any, .any, .any, .any, .any]) v_kept1 (wk_any _) (.any (.any (.same (.same (.any (.any (.any (.any (.any (.any (.any (.any (.any (.any .nil)))))))))))))) po (id_rng1 B.b_range ed_int) (pg_name (i := 1) sc_law.nd rfl (by first | exact Or.inl rfl | exact Or.inr rfl)) (fun v_c2 v_turn3 => (sd_set 4 (wk_any _) sc_law.nd (ed_callF I_pick tk (hr.mono (by decide)) (ea_cons (ed_var 2) (ea_cons (ed_new (en_lst (ea_cons ed_int (ea_cons ed_int (ea_cons ed_int (ea_cons ed_int (ea_cons ed_int (ea_cons ed_int (ea_cons (ed_callF I_draw tk (hr.mono (by decide)) (ea_cons (ed_var 2) (ea_cons ed_int ea_nil))) ea_nil))))))))) ea_nil))) (fun v_many4 => (sd_par2 9 10 (wk_any _) (ps_par rfl sc_law.nd rfl rfl (by decide) rfl rfl (ea_cons (ed_new (en_callN I_wsome_octets tk (hr.mono (by decide)) (ea_cons (ed_var 2) (ea_cons (ed_var 4) ea_nil)))) (ea_cons (ed_callF I_draw tk (hr.mono (by decide)) (ea_cons (ed_var 2) (ea_cons ed_int ea_nil))) ea_nil)) (by rfl)) (fun v_rows5 v_way6 => (sd_set 5 (wk_any _) sc_law.nd (ed_makeF I_Memory_init tk (hr.mono (by decide)) (ea_cons (ed_item (kpos := ⟨0, 0, 0, 0⟩) (ed_new (en_lst (ea_cons (ed_callTy call_tuple_of calld_tuple B.b_tuple (by decide +kernel) (ea_cons (ed_var 9) ea_nil)) (ea_cons (ed_var 4) (ea_cons (ed_new (en_list (mL := B.b_list) (ed_var 9))) ea_nil))))) (ed_var 10)) ea_nil)) (fun v_memory7 => (sd_ifJ (fun (v_c8 : D) => [.any, .val v_turn3, .val D.strm, .own v_c2, .val v_many4, .val v_c8, .any, .any, .any, .val v_rows5, .val v_way6, .any, .any, .any]) (wk_any _) (et_eq hr (ed_var 10) ed_int) (sd_set 11 (wk_any _) sc_law.nd (ed_box (en_list (mL := B.b_list) (ed_var 9))) (fun v_passed9 => (sd_set 5 (wk_any _) sc_law.nd (ed_makeF I_Memory_init tk (hr.mono (by decide)) (ea_cons (ed_var 11) ea_nil)) (fun v_memory10 => (sd_expr (wk_any _) (ed_appP (pe_bm PySem.F.plainAttrs_list PySem.F.slot_list_append PySem.F.type_list_append mt_append (ed_var 11) (pa_cons ed_int pa_nil))) (sd_setI (wk_any _) (sd_nil (c := v_memory10) (.any (.same (.same (.same (.same (.same (.any (.any (.any (.same (.same (.any (.any (.any .nil))))))))))))))) (ps_asg ed_int (pg_sub (ed_var 11) ed_int set_list)))))))) (sd_nil (c := v_memory7) (.any (.same (.same (.same (.same (.same (.any (.any (.any (.same (.same (.any (.any (.any .nil))))))))))))))) (fun v_c8 => (sd_set 6 (wk_any _) sc_law.nd (ed_if (et_eq hr (ed_var 10) ed_int) (ed_mul (ed_new (en_lst (ea_cons ed_int ea_nil))) (ed_var 4)) (ed_var 9)) (fun v_due14 => (sd_for1 7 (fun (_ : Unit) => [.any, .val v_turn3, .val D.strm, .own v_c2, .val v_many4, .val v_c8, .val v_due14, .any, .any, .val v_rows5, .val v_way6, .any, .any, .any]) () (wk_any _) (.any (.same (.same (.same (.same (.same (.same (.any (.any (.same (.same (.any (.any (.any .nil)))))))))))))) po (id_rng1 B.b_range ed_int) (pg_name (i := 7) sc_law.nd rfl (by first | exact Or.inl rfl | exact Or.inr rfl)) (fun _ v_again16 => (sd_set 12 (wk_any _) sc_law.nd (ed_box (en_meth0 I_Memory_octets tk (hr.mono (by decide)) (ed_var 5))) (fun v_found17 => (sd_ifR (wk_any _) (et_w (ew_or (et_not (et_val (ed_borrow (I_wsame 8) tk (hr.mono (by decide)) (ea_cons (ed_var 12) (ea_cons (ed_var 6) ea_nil))))) (ew_or1 (et_not (et_val (ed_callF (I_wsame 8) tk (hr.mono (by decide)) (ea_cons (ed_lenO I_Memory_len (hr.mono (by decide)) B.b_len (ea_cons (ed_var 5) ea_nil)) (ea_cons (ed_var 4) ea_nil)))))))) (sd_ret (wk_any _) ed_bl) (sd_expr (wk_any _) (ed_appP (pe_bm PySem.F.plainAttrs_list PySem.F.slot_list_append PySem.F.type_list_append mt_append (ed_var 12) (pa_cons ed_int pa_nil))) (sd_setI (wk_any _) (sd_nil (c := ()) (.any (.same (.same (.same (.same (.same (.same (.any (.any (.same (.same (.any (.any (.any .nil))))))))))))))) (ps_asg ed_int (pg_sub (ed_var 12) ed_int set_list)))))))) (fun _ => (sd_ifR (wk_any _) (et_w (ew_or (et_not (et_val (ed_callF (I_wsame 8) tk (hr.mono (by decide)) (ea_cons (ed_new (en_mapX (.nm 13) tk sc_law.nd (blkOk_by (N := ["_law_script", "_law_turn", "_law_stream", "_law_kept", "_law_many", "_law_memory", "_law_due", "_law_again", "_law_twin", "_law_rows", "_law_way", "_law_passed", "_law_found", "_law_k"]) (sc := defScope s_law) (own := [("_law_k", 13)]) (by decide +kernel)) (id_rng1 B.b_range (ed_var 4)) (by decide) (fun _ _ _ _ _ _ => (pg_name (i := 13) sc_law.nd rfl (Or.inl rfl))) (fun _ _ _ _ _ _ W' tk' us => match us with | [] => ed_bad | [v_k21] => (ed_getO I_Memory_getitem tk' (hr.mono (by decide)) (ed_var 5) (ed_var 13)) | _ :: _ :: _ => ed_bad))) (ea_cons (ed_var 6) ea_nil))))) (ew_or1 (et_not (et_val (ed_callG I_wis_refused gu tk (hr.mono (by decide)) (ea_cons (ed_var 2) ea_nil))))))) (sd_ret (wk_any _) ed_bl) (sd_set 8 (wk_any _) sc_law.nd (ed_makeF I_Memory_init tk (hr.mono (by decide)) (ea_cons (ed_new (en_meth0 I_Memory_octets tk (hr.mono (by decide)) (ed_var 5))) ea_nil)) (fun v_twin22 => (sd_ifR (wk_any _) (et_ne hr (ed_idx EQ_Memory (pe_bm PySem.F.plainAttrs_list PySem.F.slot_list_index PySem.F.type_list_index (mt_indexI hr.units) (ed_box (en_lst (ea_cons (ed_var 8) (ea_cons (ed_var 5) ea_nil)))) (pa_cons (ed_var 5) pa_nil))) ed_int) (sd_ret (wk_any _) ed_bl) (sd_append 3 (wk_any _) (pe_bm PySem.F.plainAttrs_list PySem.F.slot_list_append PySem.F.type_list_append mt_append (pv 3) (pa_cons (ed_tup (ea_cons (ed_var 5) (ea_cons (ed_var 6) ea_nil))) pa_nil)) (fun v_d23 => (sd_nil (c := (v_c2 ++ [v_d23])) (.any (.any (.same (.same (.any (.any (.any (.any (.any (.any (.any (.any (.any (.any .nil)))))))))))))))))))))))))))))))))) (fun v_c2 => (sd_ifR (wk_any _) (et_not (et_val (ed_callF I_wis_very tk (hr.mono (by decide)) (ea_cons (ed_box (en_lst (ea_cons ed_int ea_nil))) ea_nil)))) (sd_ret (wk_any _) ed_bl) (sd_frz 3 (sd_ret (wk_any _) (ed_callB (cr_all rfl) calld_all B.b_all (by decide +kernel) (ea_cons (ed_new (en_mapX (.tp [(.nm 5), (.nm 6)]) tk sc_law.nd (blkOk_by (N := ["_law_script", "_law_turn", "_law_stream", "_law_kept", "_law_many", "_law_memory", "_law_due", "_law_again", "_law_twin", "_law_rows", "_law_way", "_law_passed", "_law_found", "_law_k"]) (sc := defScope s_law) (own := [("_law_memory", 5), ("_law_due", 6)]) (by decide +kernel)) (id_seq (ed_var 3)) (by decide) (fun _ _ _ _ _ _ => (pg_tup rfl (pgs_cons (pg_name (i := 5) sc_law.nd rfl (Or.inl rfl)) (pgs_cons (pg_name (i := 6) sc_law.nd rfl (Or.inl rfl)) pgs_nil)))) (fun _ _ _ _ _ _ W' tk' us => match us with | [] => ed_bad | [_] => ed_bad | [v_memory25, v_due26] => (ed_callF (I_wsame 8) tk' (hr.mono (by decide)) (ea_cons (ed_new (en_meth0 I_Memory_octets tk' (hr.mono (by decide)) (ed_var 5))) (ea_cons (ed_var 6) ea_nil))) | _ :: _ :: _ :: _ => ed_bad))) ea_nil))))))))⟩
end
end Lw
namespace Lw
open PySem L2 Dl
abbrev s_draw : Stmt := top 12
/-! ### the draw -/
theorem keepT_rest {T : List (Addr × Str)} {H H' : Hp} (k : ∀ b o, H b = some o → ¬ HO.ord o → H' b = some o) : KeepT T H H' := by
  have co : ∀ c q, H c = some (LamX.CodeO c q) → H' c = some (LamX.CodeO c q) := fun c q h => k c _ h (by unfold LamX.CodeO; exact fun z => z)
  refine ⟨fun p _ ⟨ps, h1, h2, h3⟩ => ⟨ps, k _ _ h1 (fun z => z), h2, fun pos cv hc => ?_⟩, co⟩
  obtain ⟨c, e1, e2⟩ := h3 pos cv hc
  exact ⟨c, e1, co c p.2 e2⟩
theorem ix0 {α : Type} {a b c d : α} : atI [a, b, c, d] 0 = some a := rfl
theorem ix1 {α : Type} {a b c d : α} : atI [a, b, c, d] 1 = some b := rfl
theorem ix2 {α : Type} {a b c d : α} : atI [a, b, c, d] 2 = some c := rfl
theorem ix3 {α : Type} {a b c d : α} : atI [a, b, c, d] 3 = some d := rfl
theorem seq0 {n : Nat} : seqIndex? 0 (n + 1) = some 0 := by simp [seqIndex?]
theorem dp_ints {K : PySem.W.Frag} {H : Hp} : ∀ xs : List Int, DpAll K H (xs.map V.int) (xs.map PyData.int)
  | [] => .nil
  | x :: xs => .cons (.int x) (dp_ints xs)
theorem lay_ints : ∀ xs : List Int, PyData.canLayAll0 (xs.map PyData.int) = true ∧ PyData.depthAll (xs.map PyData.int) = 0
  | [] => ⟨rfl, rfl⟩
  | x :: xs => by
    have ih := lay_ints xs
    rw [List.map_cons]
    unfold PyData.canLayAll0 PyData.depthAll
    rw [ih.1, ih.2]
    exact ⟨rfl, rfl⟩
theorem shaped_ints (xs : List Int) : SeqAt.shaped (.list (xs.map PyData.int)) = true := by
  unfold SeqAt.shaped PyData.canLay0 PyData.depth
  rw [(lay_ints xs).1, (lay_ints xs).2]
  rfl
theorem eqv_nil (xs : List Int) : PyData.eqv (.list (xs.map PyData.int)) (.list []) = xs.isEmpty := by
  cases xs with
  | nil => unfold PyData.eqv PyData.eqvAll; rfl
  | cons x xs => unfold PyData.eqv PyData.eqvAll; rfl
theorem pow_bound {m c : Int} (h1 : 0 ≤ m) (h2 : m < 2147483647) (h3 : 0 ≤ c) (h4 : c < 8388608) : (m + 104729 * c + 17).natAbs < 2 ^ 64 := by
  have : (2 : Nat) ^ 64 = 18446744073709551616 := by decide
  omega
theorem pow_bound2 {m c : Int} (h1 : 0 ≤ m) (h2 : m < 2147483629) (h3 : 0 ≤ c) (h4 : c < 8388608) : (m * 48271 + 40503 * c * c + 13).natAbs < 2 ^ 64 := by
  have e : (2 : Nat) ^ 64 = 18446744073709551616 := by decide
  have h5 : 0 ≤ c * c := Int.mul_nonneg h3 h3
  have h6 : c * c ≤ 8388608 * 8388608 := Int.mul_le_mul (Int.le_of_lt h4) (Int.le_of_lt h4) h3 (by decide)
  rw [Int.mul_assoc]
  generalize c * c = q at h5 h6 ⊢
  omega
theorem small64 {i : Int} (h1 : 0 ≤ i) (h2 : i < 18446744073709551616) : -(2 ^ 64) < i ∧ i < 2 ^ 64 := by
  have e : (2 : Int) ^ 64 = 18446744073709551616 := by decide
  omega
section
variable {P : Program} {w : World} {K : PySem.W.Frag} {base : Heap} {mg : Str → Option Value}
theorem sc_draw : FnScope ["_law_stream", "_law_many", "_law_digit", "_law_mixed", "_law_last"] ["_law_stream", "_law_many"] (defScope s_draw) := ⟨rfl, rfl, rfl, by decide +kernel, rfl, by decide +kernel, by decide +kernel⟩
theorem ok_draw {f : Addr} {fd : FuncData} (F : Fun K "_law_draw" "_law_draw" s_draw f fd) (mI : mg "int" = none) : FnOk P w K mg base (L2.CX P w) 1 f fd ["_law_stream", "_law_many"] (spD K mg 2 (ar2 drawD)) := by
  refine F.okX sc_draw (fun vs H Q E h => spD_len h) (fun cdv A outer s H vs Q E hr h => ?_)
  obtain ⟨G, S, ds, hl, r, wf, h⟩ := h
  obtain ⟨d1, d2, rfl⟩ : ∃ d1 d2, ds = [d1, d2] := match ds, hl with | [a, b], _ => ⟨a, b, rfl⟩
  have h : okF K mg G H Q E (drawD d1 d2 S) := h
  cases r with
  | cons r1 r =>
  cases r with
  | cons r2 r =>
  cases r
  unfold drawD at h
  cases r1 with
  | strm =>
    cases r2 with
    | int n =>
      simp only at h
      by_cases hg : (decide (0 < n) && decide (n < 18446744073709551616) && S.st.good) = true
      case neg => rw [if_neg hg] at h; exact h.elim
      rw [if_pos hg] at h
      simp only [Strm.good, Bool.and_eq_true, decide_eq_true_eq] at hg
      obtain ⟨⟨hn0, hn1⟩, ⟨⟨⟨⟨hm0, hm1⟩, hc0⟩, hc1⟩, hu0⟩⟩ := hg
      have hsab := wf.sab
      -- the stream as it stands at any turn
      let At : List Int → Int → Int → Int → Hp → Prop := fun xs cur cnt mix H' => H' G.sa = some (.lst [.ref G.sb, .int cur, .int cnt, .int mix]) ∧ H' G.sb = some (.lst (xs.map V.int)) ∧ ∀ b o, H b = some o → b ≠ G.sa → b ≠ G.sb → H' b = some o
      have at0 : At S.st.xs S.st.cur S.st.cnt S.st.mix H := ⟨wf.ha, wf.hb, fun b o e _ _ => e⟩
      have atA : ∀ {xs cur cnt mix H'} {p : Addr} {o : HO}, At xs cur cnt mix H' → H' p = none → At xs cur cnt mix (upd H' p o) := fun {xs cur cnt mix H' p o} h hp =>
        ⟨by rw [upd_ne (ne_of_none h.1 hp)]; exact h.1, by rw [upd_ne (ne_of_none h.2.1 hp)]; exact h.2.1, fun b u e h1 h2 => by rw [upd_ne (ne_of_none (h.2.2 b u e h1 h2) hp)]; exact h.2.2 b u e h1 h2⟩
      have atS : ∀ {xs cur cnt mix H'} {cur' cnt' mix' : Int}, At xs cur cnt mix H' → At xs cur' cnt' mix' (upd H' G.sa (.lst [.ref G.sb, .int cur', .int cnt', .int mix'])) := fun {xs cur cnt mix H' cur' cnt' mix'} h =>
        ⟨upd_same, by rw [upd_ne (Ne.symm hsab)]; exact h.2.1, fun b u e h1 h2 => by rw [upd_ne h1]; exact h.2.2 b u e h1 h2⟩
      have atX : ∀ {xs cur cnt mix H'} {xs' : List Int}, At xs cur cnt mix H' → At xs' cur cnt mix (upd H' G.sb (.lst (xs'.map V.int))) := fun {xs cur cnt mix H' xs'} h =>
        ⟨by rw [upd_ne hsab]; exact h.1, upd_same, fun b u e h1 h2 => by rw [upd_ne h2]; exact h.2.2 b u e h1 h2⟩
      -- the end
      have fin : ∀ {xs cur cnt mix H'} {st' : Strm} {k : Int}, At xs cur cnt mix H' → xs.length ≤ 1000 → (⟨xs, cur, cnt, mix⟩ : Strm) = S.st.next n → k = S.st.take n → Q (.int k) H' := fun {xs cur cnt mix H' st' k} h hz e ek => by
        have fr : FR G H G H' := ⟨List.prefix_rfl, rfl, rfl, rfl, fun b o e q => by
            have ka : b ≠ G.sa ∨ Fix o := q.elim (fun z => .inl fun y => z (.inr (.inl y))) .inr
            have kb : b ≠ G.sb ∨ Fix o := q.elim (fun z => .inl fun y => z (.inr (.inr (.inl y)))) .inr
            have na : b ≠ G.sa := fun y => by
              rcases ka with z | z
              · exact z y
              · rw [y, wf.ha] at e; cases e; exact z
            have nb : b ≠ G.sb := fun y => by
              rcases kb with z | z
              · exact z y
              · rw [y, wf.hb] at e; cases e; exact z
            exact h.2.2 b o e na nb, fun b q => .inl q, fun b q => .inl q, fun b q => q, fun b o e => by
            by_cases h1 : b = G.sa
            · rw [h1]; exact ⟨_, h.1⟩
            · by_cases h2 : b = G.sb
              · rw [h2]; exact ⟨_, h.2.1⟩
              · exact ⟨o, h.2.2 b o e h1 h2⟩, rfl, keepT_rest fun b o e ho => h.2.2 b o e (fun y => ho (by rw [y, wf.ha] at e; cases e; trivial)) (fun y => ho (by rw [y, wf.hb] at e; cases e; trivial))⟩
        have wf' : Wf K mg G H' { S with st := ⟨xs, cur, cnt, mix⟩ } := ⟨wf.len, wf.nd, fun i c a h1 h2 => by
            have q := wf.cell i c a h1 h2
            have na : a ≠ G.sa := fun y => wf.na (by rw [← y]; exact List.mem_of_getElem? h2)
            have nb : a ≠ G.sb := fun y => wf.nb (by rw [← y]; exact List.mem_of_getElem? h2)
            cases c with
            | lst ds => obtain ⟨xs, e, z, t⟩ := q; exact ⟨xs, h.2.2 _ _ e na nb, z, t.mono fr⟩
            | dic kvs => obtain ⟨xs, e, z, t⟩ := q; exact ⟨xs, h.2.2 _ _ e na nb, z, t.mono fr⟩
            | ins c fs => obtain ⟨C, dx, gs, m, e, t⟩ := q; exact ⟨C, dx, gs, m, h.2.2 _ _ e na nb, t.mono fr⟩
            | out => trivial, fun b q => by
            obtain ⟨u, e⟩ := wf.live b q
            exact fr.there b u e, h.1, h.2.1, wf.sab, wf.na, wf.nb, hz, wf.hmg, wf.nz, fun b q => by
            obtain ⟨u, e⟩ := wf.zl b q
            exact fr.there b u e, wf.zo, wf.hT, fr.tabs wf.tb⟩
        rw [ek]
        refine ‹okF K mg G H Q E (.ok (.int (S.st.take n)) { S with st := S.st.next n })› (.int _) G H' fr ?_ (.int _)
        rw [← e]
        exact wf'
      refine ⟨_, PSs.nox (pss_cons (ps_while PassesOwn.never (PW.pt (pw_and (pt_cmpR op_eq (pe_ix ix_list (pv 0) pe_int (fun _ _ => rfl)) pe_int (nomark _)) (pw_and1 (pt_cmpR (op_neD hr.units) (pe_ix ix_list (pv 0) pe_int (fun _ _ => rfl)) (pe_lst pa_nil) (nomark _)))))
          (pss_cons (ps_asg (pe_bm PySem.F.plainAttrs_list PySem.F.slot_list_pop PySem.F.type_list_pop mt_popAt (pe_ix ix_list (pv 0) pe_int (fun _ _ => rfl)) (pa_cons pe_int pa_nil)) (pg_sub (pv 0) pe_int set_list))
            (pss_one (ps_if (pt_cmpR op_lt (pe_ix ix_list (pv 0) pe_int (fun _ _ => rfl)) (pe_op op_pow pe_int pe_int) (nomark _))
              (pss_cons (ps_asg (pe_op op_mod (pe_callTy call_int1 (by rfl) mI PyProof.Rows.boot_int (pa_cons (pe_op op_add (pe_op op_add (pe_op op_mul (pe_ix ix_list (pv 0) pe_int (fun _ _ => rfl)) pe_int) (pe_ix ix_list (pv 0) pe_int (fun _ _ => rfl))) pe_int) pa_nil)) pe_int) (pg_sub (pv 0) pe_int set_list))
                (pss_one (ps_asg pe_int (pg_sub (pv 0) pe_int set_list)))) pss_nil))))
        (pss_cons (ps_if (pt_cmpR op_gt (pe_ix ix_list (pv 0) pe_int (fun _ _ => rfl)) pe_int (nomark _))
            (pss_cons (ps_set (i := 2) sc_draw.nd rfl (Or.inl rfl) (pe_op op_mod (pe_callTy call_int1 (by rfl) mI PyProof.Rows.boot_int (pa_cons (pe_ix ix_list (pv 0) pe_int (fun _ _ => rfl)) pa_nil)) (pv 1)))
              (pss_cons (ps_asg (pe_op op_fdivW (pe_ix ix_list (pv 0) pe_int (fun _ _ => rfl)) (pv 1)) (pg_sub (pv 0) pe_int set_list)) (pss_one (ps_ret (pv 2))))) pss_nil)
          (pss_cons (ps_asg (pe_op op_add (pe_ix ix_list (pv 0) pe_int (fun _ _ => rfl)) pe_int) (pg_sub (pv 0) pe_int set_list))
            (pss_cons (ps_set (i := 3) sc_draw.nd rfl (Or.inl rfl) (pe_op op_mod (pe_callTy call_int1 (by rfl) mI PyProof.Rows.boot_int (pa_cons (pe_op op_pow (pe_op op_add (pe_op op_add (pe_ix ix_list (pv 0) pe_int (fun _ _ => rfl)) (pe_op op_mul pe_int (pe_ix ix_list (pv 0) pe_int (fun _ _ => rfl)))) pe_int) pe_int) pa_nil)) pe_int))
              (pss_cons (ps_set (i := 4) sc_draw.nd rfl (Or.inl rfl) (pe_op op_mod (pe_callTy call_int1 (by rfl) mI PyProof.Rows.boot_int (pa_cons (pe_op op_pow (pe_op op_add (pe_op op_add (pe_op op_mul (pv 3) pe_int) (pe_op op_mul (pe_op op_mul pe_int (pe_ix ix_list (pv 0) pe_int (fun _ _ => rfl))) (pe_ix ix_list (pv 0) pe_int (fun _ _ => rfl)))) pe_int) pe_int) pa_nil)) pe_int))
                (pss_one (ps_ret (pe_op op_mod (pe_callTy call_int1 (by rfl) mI PyProof.Rows.boot_int (pa_cons (pv 4) pa_nil)) (pv 1))))))))), ?_⟩
      refine ⟨fun m σ' H' => ∃ (xs : List Int) (cur mix : Int), m = xs.length ∧ σ' = [some (.ref G.sa), some (.int n), none, none, none] ∧ At xs cur S.st.cnt mix H' ∧ xs.length ≤ 1000 ∧ fill xs cur mix = fill S.st.xs S.st.cur S.st.mix ∧ 0 ≤ mix ∧ mix < 2147483647 ∧ 0 ≤ cur,
        ⟨_, S.st.xs, S.st.cur, S.st.mix, rfl, rfl, at0, wf.zs, rfl, hm0, hm1, hu0⟩, ?_⟩
      rintro _ _ H' ⟨xs, cur, mix, rfl, rfl, at', hz, hf, hx0, hx1, hcu⟩
      refine ⟨_, rfl, G.sa, _, 1, _, rfl, rfl, SqL.of at'.1, ix1, rfl, _, rfl, ?_⟩
      refine ite2 (fun hcur => ?_) (fun hcur => ?_)
      · have hcur : cur = 0 := by
          have q := of_decide_eq_true hcur
          cases q; rfl
        refine ⟨_, rfl, G.sa, _, 0, _, rfl, rfl, SqL.of at'.1, ix0, Nat.zero_le _, fun p hp => ?_⟩
        have at1 : At xs cur S.st.cnt mix (upd H' p (.lst [])) := atA at' hp
        refine ⟨.list (xs.map PyData.int), .list [], .lst (SqL.of at1.2.1) (dp_ints xs), .lst (SqL.of upd_same) .nil, shaped_ints xs, rfl, _, rfl, ?_⟩
        rw [eqv_nil]
        cases xs with
        | nil =>
          refine iteF ?_
          have hf2 : fill S.st.xs S.st.cur S.st.mix = (([] : List Int), cur, mix) := by rw [← hf]; rfl
          have efull : S.st.full = ⟨([] : List Int), cur, S.st.cnt, mix⟩ := by unfold Strm.full; rw [hf2]
          refine ⟨_, rfl, G.sa, _, 1, _, rfl, rfl, SqL.of at1.1, ix1, _, _, rfl, rfl, _, rfl, ?_⟩
          refine ite2 (fun hpos => ?_) (fun hpos => ?_)
          · have hpos : 0 < cur := of_decide_eq_true hpos
            refine ⟨_, rfl, G.sa, _, 1, _, rfl, rfl, SqL.of at1.1, ix1, .inl ⟨_, rfl, _, rfl, _, _, rfl, rfl, hn0, ?_⟩⟩
            refine ⟨_, rfl, G.sa, _, 1, _, rfl, rfl, SqL.of at1.1, ix1, _, rfl, _, _, rfl, rfl, wide_div (b := 64) hn0 (by omega) (by decide) (by decide), _, rfl, G.sa, _, 1, 1, rfl, rfl, at1.1, rfl, ?_⟩
            refine ⟨_, rfl, fin (st' := S.st) (atS (cur' := cur / n) (cnt' := S.st.cnt) (mix' := mix) at1) (Nat.zero_le _) ?_ ?_⟩
            · unfold Strm.next; rw [efull]; simp only [hpos, if_true]
            · unfold Strm.take; rw [efull]; simp only [hpos, if_true]
          · have hpos : ¬ 0 < cur := fun z => hpos (decide_eq_true z)
            refine ⟨_, rfl, G.sa, _, 2, _, rfl, rfl, SqL.of at1.1, ix2, _, _, rfl, rfl, _, rfl, G.sa, _, 2, 2, rfl, rfl, at1.1, rfl, ?_⟩
            have a2 := atS (cur' := cur) (cnt' := S.st.cnt + 1) (mix' := mix) at1
            have hc0' : 0 ≤ S.st.cnt + 1 := by omega
            have hc1' : S.st.cnt + 1 < 8388608 := by omega
            have hq0 : 0 ≤ ((mix + 104729 * (S.st.cnt + 1) + 17) ^ 5) % 2147483629 := Int.emod_nonneg _ (by decide)
            have hq1 : ((mix + 104729 * (S.st.cnt + 1) + 17) ^ 5) % 2147483629 < 2147483629 := Int.emod_lt_of_pos _ (by decide)
            refine ⟨_, rfl, G.sa, _, 3, _, rfl, rfl, SqL.of a2.1, ix3, _, rfl, G.sa, _, 2, _, rfl, rfl, SqL.of a2.1, ix2, _, _, rfl, rfl, .inl ⟨by decide, by decide⟩, _, _, rfl, rfl, _, _, rfl, rfl, _, _, rfl, rfl, ⟨by decide, by decide, pow_bound hx0 hx1 hc0' hc1'⟩, .inl ⟨_, rfl, _, _, rfl, rfl, (by show (0 : Int) < _; decide), ?_⟩⟩
            refine ⟨_, rfl, _, _, rfl, rfl, .inr ⟨by decide, by decide⟩, _, rfl, G.sa, _, 2, _, rfl, rfl, SqL.of a2.1, ix2, _, _, rfl, rfl, .inl ⟨by decide, by decide⟩, _, rfl, G.sa, _, 2, _, rfl, rfl, SqL.of a2.1, ix2, _, _, rfl, rfl, .inr (small64 hc0' (by omega)), _, _, rfl, rfl, _, _, rfl, rfl, _, _, rfl, rfl, ⟨by decide, by decide, pow_bound2 hq0 hq1 hc0' hc1'⟩, .inl ⟨_, rfl, _, _, rfl, rfl, (by show (0 : Int) < _; decide), ?_⟩⟩
            refine ⟨_, rfl, .inl ⟨_, rfl, _, rfl, _, _, rfl, rfl, hn0, fin (st' := S.st) a2 (Nat.zero_le _) ?_ ?_⟩⟩
            · unfold Strm.next; rw [efull]; simp only [hpos, if_false]
            · unfold Strm.take; rw [efull]; simp only [hpos, if_false]; rfl
        | cons x xs =>
          refine iteT ⟨fun σ' H' => ∃ (ys : List Int) (cur mix : Int), xs.length = ys.length ∧ σ' = [some (.ref G.sa), some (.int n), none, none, none] ∧ At ys cur S.st.cnt mix H' ∧ ys.length ≤ 1000 ∧ fill ys cur mix = fill S.st.xs S.st.cur S.st.mix ∧ 0 ≤ mix ∧ mix < 2147483647 ∧ 0 ≤ cur, fun σ' H' hN => ⟨xs.length, Nat.lt_succ_self _, hN⟩, ?_⟩
          have hz' : xs.length ≤ 1000 := by simp at hz; omega
          refine ⟨_, rfl, G.sa, _, 0, _, rfl, rfl, SqL.of at1.1, ix0, .inl ⟨rfl, _, SqL.of at1.2.1⟩, G.sb, _, 0, 0, .int x, rfl, rfl, at1.2.1, by decide, by decide, (by rw [List.length_map, List.length_cons]; exact seq0), rfl, ?_⟩
          have at2 := atX (xs' := xs) at1
          refine ⟨_, rfl, G.sa, _, 1, 1, rfl, rfl, at2.1, rfl, ?_⟩
          have at3 := atS (cur' := x) (cnt' := S.st.cnt) (mix' := mix) at2
          refine ⟨_, rfl, G.sa, _, 1, _, rfl, rfl, SqL.of at3.1, ix1, _, _, rfl, rfl, ⟨by decide, by decide, by decide⟩, _, _, rfl, rfl, _, rfl, ?_⟩
          have hf' : fill (x :: xs) cur mix = (if x < 10 ^ 18 then fill xs 0 ((mix * 31 + x + 7) % 2147483647) else (xs, x, mix)) := by
            rw [fill.eq_2, if_pos hcur]
          refine ite2 (fun hx => ?_) (fun hx => ?_)
          · have hx : x < 10 ^ 18 := of_decide_eq_true hx
            refine ⟨_, rfl, G.sa, _, 3, _, rfl, rfl, SqL.of at3.1, ix3, _, _, rfl, rfl, .inr ⟨by decide, by decide⟩, _, rfl, G.sa, _, 1, _, rfl, rfl, SqL.of at3.1, ix1, _, _, rfl, rfl, _, _, rfl, rfl, .inl ⟨_, rfl, _, _, rfl, rfl, (by show (0 : Int) < _; decide), _, rfl, G.sa, _, 3, 3, rfl, rfl, at3.1, rfl, ?_⟩⟩
            have at4 := atS (cur' := x) (cnt' := S.st.cnt) (mix' := (mix * 31 + x + 7) % 2147483647) at3
            refine ⟨_, rfl, G.sa, _, 1, 1, rfl, rfl, at4.1, rfl, ?_⟩
            have at5 := atS (cur' := 0) (cnt' := S.st.cnt) (mix' := (mix * 31 + x + 7) % 2147483647) at4
            refine ⟨xs, 0, _, rfl, rfl, at5, hz', ?_, Int.emod_nonneg _ (by decide), Int.emod_lt_of_pos _ (by decide), Int.le_refl _⟩
            rw [← hf, hf', if_pos hx]
          · have hx : ¬ x < 10 ^ 18 := fun z => hx (decide_eq_true z)
            refine ⟨xs, x, mix, rfl, rfl, at3, hz', ?_, hx0, hx1, ?_⟩
            · rw [← hf, hf', if_neg hx]
              have hx1 : x ≠ 0 := fun z => hx (by rw [z]; decide)
              cases xs with
              | nil => rfl
              | cons y ys => rw [fill.eq_2, if_neg hx1]
            · have : (10 : Int) ^ 18 ≤ x := Int.not_lt.mp hx
              exact Int.le_trans (by decide) this
      · have hcur : cur ≠ 0 := fun z => hcur (by rw [z]; rfl)
        show (if false = true then _ else _)
        refine iteF ?_
        have hf2 : fill S.st.xs S.st.cur S.st.mix = (xs, cur, mix) := by
                  rw [← hf]
                  cases xs with
                  | nil => rfl
                  | cons y ys => rw [fill.eq_2, if_neg hcur]
        have efull : S.st.full = ⟨xs, cur, S.st.cnt, mix⟩ := by unfold Strm.full; rw [hf2]
        refine ⟨_, rfl, G.sa, _, 1, _, rfl, rfl, SqL.of at'.1, ix1, _, _, rfl, rfl, _, rfl, ?_⟩
        refine ite2 (fun hpos => ?_) (fun hpos => ?_)
        · have hpos : 0 < cur := of_decide_eq_true hpos
          refine ⟨_, rfl, G.sa, _, 1, _, rfl, rfl, SqL.of at'.1, ix1, .inl ⟨_, rfl, _, rfl, _, _, rfl, rfl, hn0, ?_⟩⟩
          refine ⟨_, rfl, G.sa, _, 1, _, rfl, rfl, SqL.of at'.1, ix1, _, rfl, _, _, rfl, rfl, wide_div (b := 64) hn0 (by omega) (by decide) (by decide), _, rfl, G.sa, _, 1, 1, rfl, rfl, at'.1, rfl, ?_⟩
          refine ⟨_, rfl, fin (st' := S.st) (atS (cur' := cur / n) (cnt' := S.st.cnt) (mix' := mix) at') hz ?_ ?_⟩
          · unfold Strm.next; rw [efull]; simp only [hpos, if_true]
          · unfold Strm.take; rw [efull]; simp only [hpos, if_true]
        · have hpos : ¬ 0 < cur := fun z => hpos (decide_eq_true z)
          refine ⟨_, rfl, G.sa, _, 2, _, rfl, rfl, SqL.of at'.1, ix2, _, _, rfl, rfl, _, rfl, G.sa, _, 2, 2, rfl, rfl, at'.1, rfl, ?_⟩
          have a2 := atS (cur' := cur) (cnt' := S.st.cnt + 1) (mix' := mix) at'
          have hc0' : 0 ≤ S.st.cnt + 1 := by omega
          have hc1' : S.st.cnt + 1 < 8388608 := by omega
          have hq0 : 0 ≤ ((mix + 104729 * (S.st.cnt + 1) + 17) ^ 5) % 2147483629 := Int.emod_nonneg _ (by decide)
          have hq1 : ((mix + 104729 * (S.st.cnt + 1) + 17) ^ 5) % 2147483629 < 2147483629 := Int.emod_lt_of_pos _ (by decide)
          refine ⟨_, rfl, G.sa, _, 3, _, rfl, rfl, SqL.of a2.1, ix3, _, rfl, G.sa, _, 2, _, rfl, rfl, SqL.of a2.1, ix2, _, _, rfl, rfl, .inl ⟨by decide, by decide⟩, _, _, rfl, rfl, _, _, rfl, rfl, _, _, rfl, rfl, ⟨by decide, by decide, pow_bound hx0 hx1 hc0' hc1'⟩, .inl ⟨_, rfl, _, _, rfl, rfl, (by show (0 : Int) < _; decide), ?_⟩⟩
          refine ⟨_, rfl, _, _, rfl, rfl, .inr ⟨by decide, by decide⟩, _, rfl, G.sa, _, 2, _, rfl, rfl, SqL.of a2.1, ix2, _, _, rfl, rfl, .inl ⟨by decide, by decide⟩, _, rfl, G.sa, _, 2, _, rfl, rfl, SqL.of a2.1, ix2, _, _, rfl, rfl, .inr (small64 hc0' (by omega)), _, _, rfl, rfl, _, _, rfl, rfl, _, _, rfl, rfl, ⟨by decide, by decide, pow_bound2 hq0 hq1 hc0' hc1'⟩, .inl ⟨_, rfl, _, _, rfl, rfl, (by show (0 : Int) < _; decide), ?_⟩⟩
          refine ⟨_, rfl, .inl ⟨_, rfl, _, rfl, _, _, rfl, rfl, hn0, fin (st' := S.st) a2 hz ?_ ?_⟩⟩
          · unfold Strm.next; rw [efull]; simp only [hpos, if_false]
          · unfold Strm.take; rw [efull]; simp only [hpos, if_false]; rfl
    | _ => exact h.elim
  | _ => cases r2 <;> exact h.elim
end
end Lw
namespace Lw
open PySem L2 Dl
abbrev s_exc_BadAddress : Stmt := inClass (top 4) 0
theorem sc_exc_BadAddress : FnScope ["self", "octet"] ["self", "octet"] (defScope s_exc_BadAddress) := ⟨rfl, rfl, rfl, by decide +kernel, rfl, by decide +kernel, by decide +kernel⟩
abbrev s_exc_BadOctet : Stmt := inClass (top 3) 0
theorem sc_exc_BadOctet : FnScope ["self", "value"] ["self", "value"] (defScope s_exc_BadOctet) := ⟨rfl, rfl, rfl, by decide +kernel, rfl, by decide +kernel, by decide +kernel⟩
set_option maxHeartbeats 4000000 in
theorem all_mk {P : Program} {w : World} {K : PySem.W.Frag} {h : Heap} {mg : Str → Option Value} {fa C_BadAddress fI_BadAddress C_BadOctet fI_BadOctet C_Memory C_BerthError f_draw_ f_pick_ f_is_integer_ f_checked_octet_ f_octets_ofN_ f_Memory_init_ f_wis_very_ f_wsome_octets_ f_Memory_octets_ f_wsame_ f_wis_refused_ f_Memory_len_ f_Memory_checked_place_ f_Memory_getitem_ f_law_ : Addr} (X : K.In h) (G : h.Ns mainGlobals mg) (hfa : mg "law" = some (.ref fa))
    {nm_BadAddress qn_BadAddress : Str} {N_BadAddress : Addr} {bs_BadAddress bm_BadAddress sub_BadAddress : List Value} {sn_BadAddress : List Str} {ab_BadAddress : Bool} {col_BadAddress : Option Bool} {dd_BadAddress : Option Addr} {m0_BadAddress m1_BadAddress m2_BadAddress m3_BadAddress m5_BadAddress : Option Value}
    {ocI_BadAddress kVI_BadAddress dcI_BadAddress pmI_BadAddress cdI_BadAddress ctI_BadAddress : Value} {odI_BadAddress anI_BadAddress : Option Addr} {slI_BadAddress : Array (Option Value)}
    {nm_BadOctet qn_BadOctet : Str} {N_BadOctet : Addr} {bs_BadOctet bm_BadOctet sub_BadOctet : List Value} {sn_BadOctet : List Str} {ab_BadOctet : Bool} {col_BadOctet : Option Bool} {dd_BadOctet : Option Addr} {m0_BadOctet m1_BadOctet m2_BadOctet m3_BadOctet m5_BadOctet : Option Value}
    {ocI_BadOctet kVI_BadOctet dcI_BadOctet pmI_BadOctet cdI_BadOctet ctI_BadOctet : Value} {odI_BadOctet anI_BadOctet : Option Addr} {slI_BadOctet : Array (Option Value)}
    {oc_draw kV_draw dc_draw pm_draw cd_draw ct_draw : Value} {od_draw an_draw : Option Addr} {sl_draw : Array (Option Value)}
    {oc_pick kV_pick dc_pick pm_pick cd_pick ct_pick : Value} {od_pick an_pick : Option Addr} {sl_pick : Array (Option Value)}
    {oc_is_integer kV_is_integer dc_is_integer pm_is_integer cd_is_integer ct_is_integer : Value} {od_is_integer an_is_integer : Option Addr} {sl_is_integer : Array (Option Value)}
    {oc_checked_octet kV_checked_octet dc_checked_octet pm_checked_octet cd_checked_octet ct_checked_octet : Value} {od_checked_octet an_checked_octet : Option Addr} {sl_checked_octet : Array (Option Value)}
    {oc_octets_ofN kV_octets_ofN dc_octets_ofN pm_octets_ofN cd_octets_ofN ct_octets_ofN : Value} {od_octets_ofN an_octets_ofN : Option Addr} {sl_octets_ofN : Array (Option Value)}
    {oc_Memory_init kV_Memory_init dc_Memory_init pm_Memory_init cd_Memory_init ct_Memory_init : Value} {od_Memory_init an_Memory_init : Option Addr} {sl_Memory_init : Array (Option Value)}
    {oc_wis_very kV_wis_very dc_wis_very pm_wis_very cd_wis_very ct_wis_very : Value} {od_wis_very an_wis_very : Option Addr} {sl_wis_very : Array (Option Value)}
    {oc_wsome_octets kV_wsome_octets dc_wsome_octets pm_wsome_octets cd_wsome_octets ct_wsome_octets : Value} {od_wsome_octets an_wsome_octets : Option Addr} {sl_wsome_octets : Array (Option Value)}
    {oc_Memory_octets kV_Memory_octets dc_Memory_octets pm_Memory_octets cd_Memory_octets ct_Memory_octets : Value} {od_Memory_octets an_Memory_octets : Option Addr} {sl_Memory_octets : Array (Option Value)}
    {oc_wsame kV_wsame dc_wsame pm_wsame cd_wsame ct_wsame : Value} {od_wsame an_wsame : Option Addr} {sl_wsame : Array (Option Value)}
    {oc_wis_refused kV_wis_refused dc_wis_refused pm_wis_refused cd_wis_refused ct_wis_refused : Value} {od_wis_refused an_wis_refused : Option Addr} {sl_wis_refused : Array (Option Value)}
    {oc_Memory_len kV_Memory_len dc_Memory_len pm_Memory_len cd_Memory_len ct_Memory_len : Value} {od_Memory_len an_Memory_len : Option Addr} {sl_Memory_len : Array (Option Value)}
    {oc_Memory_checked_place kV_Memory_checked_place dc_Memory_checked_place pm_Memory_checked_place cd_Memory_checked_place ct_Memory_checked_place : Value} {od_Memory_checked_place an_Memory_checked_place : Option Addr} {sl_Memory_checked_place : Array (Option Value)}
    {oc_Memory_getitem kV_Memory_getitem dc_Memory_getitem pm_Memory_getitem cd_Memory_getitem ct_Memory_getitem : Value} {od_Memory_getitem an_Memory_getitem : Option Addr} {sl_Memory_getitem : Array (Option Value)}
    {oc_law kV_law dc_law pm_law cd_law ct_law : Value} {od_law an_law : Option Addr} {sl_law : Array (Option Value)}
    (aC_BadAddress : PySem.W.nsIn K mainGlobals "BadAddress" = some (some (.ref C_BadAddress)))
    (xL_BadAddress : K.lookup C_BadAddress = some (excClassObj nm_BadAddress qn_BadAddress C_BadAddress N_BadAddress bs_BadAddress bm_BadAddress true sn_BadAddress sub_BadAddress ab_BadAddress col_BadAddress dd_BadAddress m0_BadAddress m1_BadAddress m2_BadAddress m3_BadAddress m5_BadAddress "ValueError.__new__"))
    (xb_BadAddress : PySem.HandSPX.refsVE bm_BadAddress = true)
    (sa_BadAddress : PySem.W.findIn K (.ref C_BadAddress) "__setattr__" = some (some (.builtin "object.__setattr__")))
    (eC_BadAddress : PySem.W.subIn K (.ref C_BadAddress) (.type "BaseException") = some true)
    (tC_BadAddress : PySem.W.typeIn K (.ref C_BadAddress) = some (.type "type"))
    (kC_BadAddress : PySem.W.keepIn K (.ref C_BadAddress) = true)
    (nf_BadAddress : PySem.W.findIn K (.ref C_BadAddress) "octet" = some none)
    (iI_BadAddress : PySem.W.findIn K (.ref C_BadAddress) "__init__" = some (some (.ref fI_BadAddress)))
    (tI_BadAddress : PySem.W.typeIn K (.ref fI_BadAddress) = some (.type "function"))
    (lI_BadAddress : K.lookup fI_BadAddress = some ⟨ocI_BadAddress, odI_BadAddress, .func (PySem.W.fnOf "__init__" "BadAddress.__init__" (defArgs s_exc_BadAddress) (defBody s_exc_BadAddress) (defScope s_exc_BadAddress) .none kVI_BadAddress dcI_BadAddress pmI_BadAddress anI_BadAddress cdI_BadAddress ctI_BadAddress), slI_BadAddress⟩)
    (cI_BadAddress : PySem.W.codeIn K cdI_BadAddress "BadAddress.__init__" = true)
    (kI_BadAddress : PySem.W.keepIn K (.ref fI_BadAddress) = true)
    (aC_BadOctet : PySem.W.nsIn K mainGlobals "BadOctet" = some (some (.ref C_BadOctet)))
    (xL_BadOctet : K.lookup C_BadOctet = some (excClassObj nm_BadOctet qn_BadOctet C_BadOctet N_BadOctet bs_BadOctet bm_BadOctet true sn_BadOctet sub_BadOctet ab_BadOctet col_BadOctet dd_BadOctet m0_BadOctet m1_BadOctet m2_BadOctet m3_BadOctet m5_BadOctet "ValueError.__new__"))
    (xb_BadOctet : PySem.HandSPX.refsVE bm_BadOctet = true)
    (sa_BadOctet : PySem.W.findIn K (.ref C_BadOctet) "__setattr__" = some (some (.builtin "object.__setattr__")))
    (eC_BadOctet : PySem.W.subIn K (.ref C_BadOctet) (.type "BaseException") = some true)
    (tC_BadOctet : PySem.W.typeIn K (.ref C_BadOctet) = some (.type "type"))
    (kC_BadOctet : PySem.W.keepIn K (.ref C_BadOctet) = true)
    (nf_BadOctet : PySem.W.findIn K (.ref C_BadOctet) "value" = some none)
    (iI_BadOctet : PySem.W.findIn K (.ref C_BadOctet) "__init__" = some (some (.ref fI_BadOctet)))
    (tI_BadOctet : PySem.W.typeIn K (.ref fI_BadOctet) = some (.type "function"))
    (lI_BadOctet : K.lookup fI_BadOctet = some ⟨ocI_BadOctet, odI_BadOctet, .func (PySem.W.fnOf "__init__" "BadOctet.__init__" (defArgs s_exc_BadOctet) (defBody s_exc_BadOctet) (defScope s_exc_BadOctet) .none kVI_BadOctet dcI_BadOctet pmI_BadOctet anI_BadOctet cdI_BadOctet ctI_BadOctet), slI_BadOctet⟩)
    (cI_BadOctet : PySem.W.codeIn K cdI_BadOctet "BadOctet.__init__" = true)
    (kI_BadOctet : PySem.W.keepIn K (.ref fI_BadOctet) = true)
    (ga_BadOctet : PySem.W.findIn K (.ref C_BadOctet) "__getattribute__" = some (some (.builtin "BaseException.__getattribute__")))
    (gg_BadOctet : PySem.W.findIn K (.ref C_BadOctet) "__getattr__" = some none)
    (hd_BadOctet : PySem.W.hasDictIn K C_BadOctet = true)
    (ex_BadOctet : PySem.W.subIn K (.ref C_BadOctet) (.ref C_BadOctet) = some true)
    (aC_Memory : PySem.W.nsIn K mainGlobals "Memory" = some (some (.ref C_Memory)))
    (pg_Memory : PySem.W.plainGet K C_Memory Str.empty = true)
    (hd_Memory : PySem.W.hasDictIn K C_Memory = true)
    (po_Memory : PySem.W.plainOver K C_Memory = true)
    (sa_Memory : PySem.W.findIn K (.ref C_Memory) "__setattr__" = some (some (.builtin "object.__setattr__")))
    (nna_Memory_octet_rows : PySem.W.findIn K (.ref C_Memory) "octet_rows" = some none)
    (qe_Memory : PySem.W.findIn K (.ref C_Memory) "__eq__" = some (some (.builtin "object.__eq__")))
    (qn_Memory : PySem.W.findIn K (.ref C_Memory) "__ne__" = some (some (.builtin "object.__ne__")))
    (qs_Memory : PySem.W.subIn K (.ref C_Memory) (.type "object") = some true)
    (cg_class : PySem.W.specialIn K (.builtin "object.__class__") "__get__" = some (some (.builtin "getset_descriptor.__get__")))
    (ct_class : PySem.W.takesIn K (.builtin "object.__class__") = some true)
    (cl_BadOctet : PySem.W.findIn K (.ref C_BadOctet) "__class__" = some (some (.builtin "object.__class__")))
    (mo_BadOctet : PySem.W.mroIn K C_BadOctet (.type "object") = some true)
    (aC_BerthError : PySem.W.nsIn K mainGlobals "BerthError" = some (some (.ref C_BerthError)))
    (ic_BerthError : PySem.W.isClsIn K C_BerthError = true)
    (ty_BerthError : PySem.W.typeIn K (.ref C_BerthError) = some (.type "type"))
    (ki_BadOctet_BerthError : PySem.W.subIn K (.ref C_BadOctet) (.ref C_BerthError) = some true)
    (kf_Memory : PySem.W.findIn K (.ref C_Memory) "__class__" = some (some (.builtin "object.__class__")))
    (ks_Memory : PySem.W.specialIn K (.builtin "object.__class__") "__get__" = some (some (.builtin "getset_descriptor.__get__")))
    (kt_Memory : PySem.W.takesIn K (.builtin "object.__class__") = some true)
    (kr_Memory : PySem.W.mroIn K C_Memory (.type "object") = some true)
    (kbool_Memory : PySem.W.subIn K (.ref C_Memory) (.type "bool") = some false)
    (kint_Memory : PySem.W.subIn K (.ref C_Memory) (.type "int") = some false)
    (kstr_Memory : PySem.W.subIn K (.ref C_Memory) (.type "str") = some false)
    (klist_Memory : PySem.W.subIn K (.ref C_Memory) (.type "list") = some false)
    (ktuple_Memory : PySem.W.subIn K (.ref C_Memory) (.type "tuple") = some false)
    (kdict_Memory : PySem.W.subIn K (.ref C_Memory) (.type "dict") = some false)
    (z_all : PySem.W.nsIn K mainGlobals "all" = some none)
    (z_bool : PySem.W.nsIn K mainGlobals "bool" = some none)
    (z_dict : PySem.W.nsIn K mainGlobals "dict" = some none)
    (z_int : PySem.W.nsIn K mainGlobals "int" = some none)
    (z_isinstance : PySem.W.nsIn K mainGlobals "isinstance" = some none)
    (z_len : PySem.W.nsIn K mainGlobals "len" = some none)
    (z_list : PySem.W.nsIn K mainGlobals "list" = some none)
    (z_range : PySem.W.nsIn K mainGlobals "range" = some none)
    (z_repr : PySem.W.nsIn K mainGlobals "repr" = some none)
    (z_tuple : PySem.W.nsIn K mainGlobals "tuple" = some none)
    (z_zip : PySem.W.nsIn K mainGlobals "zip" = some none)
    (a_draw : PySem.W.nsIn K mainGlobals "_law_draw" = some (some (.ref f_draw_)))
    (l_draw : K.lookup f_draw_ = some ⟨oc_draw, od_draw, .func (PySem.W.fnOf "_law_draw" "_law_draw" (defArgs s_draw) (defBody s_draw) (defScope s_draw) .none kV_draw dc_draw pm_draw an_draw cd_draw ct_draw), sl_draw⟩)
    (c_draw : PySem.W.codeIn K cd_draw "_law_draw" = true)
    (k_draw : PySem.W.keepIn K (.ref f_draw_) = true)
    (a_pick : PySem.W.nsIn K mainGlobals "_law_pick" = some (some (.ref f_pick_)))
    (l_pick : K.lookup f_pick_ = some ⟨oc_pick, od_pick, .func (PySem.W.fnOf "_law_pick" "_law_pick" (defArgs s_pick) (defBody s_pick) (defScope s_pick) .none kV_pick dc_pick pm_pick an_pick cd_pick ct_pick), sl_pick⟩)
    (c_pick : PySem.W.codeIn K cd_pick "_law_pick" = true)
    (k_pick : PySem.W.keepIn K (.ref f_pick_) = true)
    (a_is_integer : PySem.W.nsIn K mainGlobals "is_integer" = some (some (.ref f_is_integer_)))
    (l_is_integer : K.lookup f_is_integer_ = some ⟨oc_is_integer, od_is_integer, .func (PySem.W.fnOf "is_integer" "is_integer" (defArgs s_is_integer) (defBody s_is_integer) (defScope s_is_integer) .none kV_is_integer dc_is_integer pm_is_integer an_is_integer cd_is_integer ct_is_integer), sl_is_integer⟩)
    (c_is_integer : PySem.W.codeIn K cd_is_integer "is_integer" = true)
    (k_is_integer : PySem.W.keepIn K (.ref f_is_integer_) = true)
    (a_checked_octet : PySem.W.nsIn K mainGlobals "checked_octet" = some (some (.ref f_checked_octet_)))
    (l_checked_octet : K.lookup f_checked_octet_ = some ⟨oc_checked_octet, od_checked_octet, .func (PySem.W.fnOf "checked_octet" "checked_octet" (defArgs s_checked_octet) (defBody s_checked_octet) (defScope s_checked_octet) .none kV_checked_octet dc_checked_octet pm_checked_octet an_checked_octet cd_checked_octet ct_checked_octet), sl_checked_octet⟩)
    (c_checked_octet : PySem.W.codeIn K cd_checked_octet "checked_octet" = true)
    (k_checked_octet : PySem.W.keepIn K (.ref f_checked_octet_) = true)
    (a_octets_ofN : PySem.W.nsIn K mainGlobals "octets_of" = some (some (.ref f_octets_ofN_)))
    (l_octets_ofN : K.lookup f_octets_ofN_ = some ⟨oc_octets_ofN, od_octets_ofN, .func (PySem.W.fnOf "octets_of" "octets_of" (defArgs s_octets_ofN) (defBody s_octets_ofN) (defScope s_octets_ofN) .none kV_octets_ofN dc_octets_ofN pm_octets_ofN an_octets_ofN cd_octets_ofN ct_octets_ofN), sl_octets_ofN⟩)
    (c_octets_ofN : PySem.W.codeIn K cd_octets_ofN "octets_of" = true)
    (k_octets_ofN : PySem.W.keepIn K (.ref f_octets_ofN_) = true)
    (a_Memory_init : PySem.W.findIn K (.ref C_Memory) "__init__" = some (some (.ref f_Memory_init_)))
    (i_Memory_init : PySem.W.isFn K (.ref f_Memory_init_) = true)
    (mk_Memory : PySem.W.makesIn K C_Memory = true)
    (kc_Memory : PySem.W.keepIn K (.ref C_Memory) = true)
    (l_Memory_init : K.lookup f_Memory_init_ = some ⟨oc_Memory_init, od_Memory_init, .func (PySem.W.fnOf "__init__" "Memory.__init__" (defArgs s_Memory_init) (defBody s_Memory_init) (defScope s_Memory_init) .none kV_Memory_init dc_Memory_init pm_Memory_init an_Memory_init cd_Memory_init ct_Memory_init), sl_Memory_init⟩)
    (c_Memory_init : PySem.W.codeIn K cd_Memory_init "Memory.__init__" = true)
    (k_Memory_init : PySem.W.keepIn K (.ref f_Memory_init_) = true)
    (a_wis_very : PySem.W.nsIn K mainGlobals "_law_is_very" = some (some (.ref f_wis_very_)))
    (l_wis_very : K.lookup f_wis_very_ = some ⟨oc_wis_very, od_wis_very, .func (PySem.W.fnOf "_law_is_very" "_law_is_very" (defArgs s_wis_very) (defBody s_wis_very) (defScope s_wis_very) .none kV_wis_very dc_wis_very pm_wis_very an_wis_very cd_wis_very ct_wis_very), sl_wis_very⟩)
    (c_wis_very : PySem.W.codeIn K cd_wis_very "_law_is_very" = true)
    (k_wis_very : PySem.W.keepIn K (.ref f_wis_very_) = true)
    (a_wsome_octets : PySem.W.nsIn K mainGlobals "_law_some_octets" = some (some (.ref f_wsome_octets_)))
    (l_wsome_octets : K.lookup f_wsome_octets_ = some ⟨oc_wsome_octets, od_wsome_octets, .func (PySem.W.fnOf "_law_some_octets" "_law_some_octets" (defArgs s_wsome_octets) (defBody s_wsome_octets) (defScope s_wsome_octets) .none kV_wsome_octets dc_wsome_octets pm_wsome_octets an_wsome_octets cd_wsome_octets ct_wsome_octets), sl_wsome_octets⟩)
    (c_wsome_octets : PySem.W.codeIn K cd_wsome_octets "_law_some_octets" = true)
    (k_wsome_octets : PySem.W.keepIn K (.ref f_wsome_octets_) = true)
    (a_Memory_octets : PySem.W.findIn K (.ref C_Memory) "octets" = some (some (.ref f_Memory_octets_)))
    (i_Memory_octets : PySem.W.isFn K (.ref f_Memory_octets_) = true)
    (l_Memory_octets : K.lookup f_Memory_octets_ = some ⟨oc_Memory_octets, od_Memory_octets, .func (PySem.W.fnOf "octets" "Memory.octets" (defArgs s_Memory_octets) (defBody s_Memory_octets) (defScope s_Memory_octets) .none kV_Memory_octets dc_Memory_octets pm_Memory_octets an_Memory_octets cd_Memory_octets ct_Memory_octets), sl_Memory_octets⟩)
    (c_Memory_octets : PySem.W.codeIn K cd_Memory_octets "Memory.octets" = true)
    (k_Memory_octets : PySem.W.keepIn K (.ref f_Memory_octets_) = true)
    (a_wsame : PySem.W.nsIn K mainGlobals "_law_same" = some (some (.ref f_wsame_)))
    (l_wsame : K.lookup f_wsame_ = some ⟨oc_wsame, od_wsame, .func (PySem.W.fnOf "_law_same" "_law_same" (defArgs s_wsame) (defBody s_wsame) (defScope s_wsame) .none kV_wsame dc_wsame pm_wsame an_wsame cd_wsame ct_wsame), sl_wsame⟩)
    (c_wsame : PySem.W.codeIn K cd_wsame "_law_same" = true)
    (k_wsame : PySem.W.keepIn K (.ref f_wsame_) = true)
    (a_wis_refused : PySem.W.nsIn K mainGlobals "_law_is_refused" = some (some (.ref f_wis_refused_)))
    (l_wis_refused : K.lookup f_wis_refused_ = some ⟨oc_wis_refused, od_wis_refused, .func (PySem.W.fnOf "_law_is_refused" "_law_is_refused" (defArgs s_wis_refused) (defBody s_wis_refused) (defScope s_wis_refused) .none kV_wis_refused dc_wis_refused pm_wis_refused an_wis_refused cd_wis_refused ct_wis_refused), sl_wis_refused⟩)
    (c_wis_refused : PySem.W.codeIn K cd_wis_refused "_law_is_refused" = true)
    (k_wis_refused : PySem.W.keepIn K (.ref f_wis_refused_) = true)
    (a_Memory_len : PySem.W.findIn K (.ref C_Memory) "__len__" = some (some (.ref f_Memory_len_)))
    (i_Memory_len : PySem.W.isFn K (.ref f_Memory_len_) = true)
    (l_Memory_len : K.lookup f_Memory_len_ = some ⟨oc_Memory_len, od_Memory_len, .func (PySem.W.fnOf "__len__" "Memory.__len__" (defArgs s_Memory_len) (defBody s_Memory_len) (defScope s_Memory_len) .none kV_Memory_len dc_Memory_len pm_Memory_len an_Memory_len cd_Memory_len ct_Memory_len), sl_Memory_len⟩)
    (c_Memory_len : PySem.W.codeIn K cd_Memory_len "Memory.__len__" = true)
    (k_Memory_len : PySem.W.keepIn K (.ref f_Memory_len_) = true)
    (a_Memory_checked_place : PySem.W.findIn K (.ref C_Memory) "checked_place" = some (some (.ref f_Memory_checked_place_)))
    (i_Memory_checked_place : PySem.W.isFn K (.ref f_Memory_checked_place_) = true)
    (l_Memory_checked_place : K.lookup f_Memory_checked_place_ = some ⟨oc_Memory_checked_place, od_Memory_checked_place, .func (PySem.W.fnOf "checked_place" "Memory.checked_place" (defArgs s_Memory_checked_place) (defBody s_Memory_checked_place) (defScope s_Memory_checked_place) .none kV_Memory_checked_place dc_Memory_checked_place pm_Memory_checked_place an_Memory_checked_place cd_Memory_checked_place ct_Memory_checked_place), sl_Memory_checked_place⟩)
    (c_Memory_checked_place : PySem.W.codeIn K cd_Memory_checked_place "Memory.checked_place" = true)
    (k_Memory_checked_place : PySem.W.keepIn K (.ref f_Memory_checked_place_) = true)
    (a_Memory_getitem : PySem.W.findIn K (.ref C_Memory) "__getitem__" = some (some (.ref f_Memory_getitem_)))
    (i_Memory_getitem : PySem.W.isFn K (.ref f_Memory_getitem_) = true)
    (l_Memory_getitem : K.lookup f_Memory_getitem_ = some ⟨oc_Memory_getitem, od_Memory_getitem, .func (PySem.W.fnOf "__getitem__" "Memory.__getitem__" (defArgs s_Memory_getitem) (defBody s_Memory_getitem) (defScope s_Memory_getitem) .none kV_Memory_getitem dc_Memory_getitem pm_Memory_getitem an_Memory_getitem cd_Memory_getitem ct_Memory_getitem), sl_Memory_getitem⟩)
    (c_Memory_getitem : PySem.W.codeIn K cd_Memory_getitem "Memory.__getitem__" = true)
    (k_Memory_getitem : PySem.W.keepIn K (.ref f_Memory_getitem_) = true)
    (nq_Memory : PySem.W.noSeq K C_Memory = true)
    (a_law : PySem.W.nsIn K mainGlobals "law" = some (some (.ref f_law_)))
    (l_law : K.lookup f_law_ = some ⟨oc_law, od_law, .func (PySem.W.fnOf "law" "law" (defArgs s_law) (defBody s_law) (defScope s_law) .none kV_law dc_law pm_law an_law cd_law ct_law), sl_law⟩)
    (c_law : PySem.W.codeIn K cd_law "law" = true)
    (k_law : PySem.W.keepIn K (.ref f_law_) = true)
    (z__law_four_right : PySem.W.nsIn K mainGlobals "_law_four_right" = some none)
    (z__law_told : PySem.W.nsIn K mainGlobals "_law_told" = some none)
    (z__law_twice : PySem.W.nsIn K mainGlobals "_law_twice" = some none)
    (z__law_refused_right : PySem.W.nsIn K mainGlobals "_law_refused_right" = some none)
    (z__law_views : PySem.W.nsIn K mainGlobals "_law_views" = some none)
    (z__law_any_path : PySem.W.nsIn K mainGlobals "_law_any_path" = some none)
    (hlaw : ∀ ns : List Int, ns.length ≤ 63 → ∃ S', finM m_law (S0 ns) = .ok (.bl true) S') :
    ∃ fd : FuncData, (∀ (s : Shared) (v : Value), BindsTo s fd ⟨[v], []⟩ [("_law_script", v)]) ∧ ∀ base : Heap, K.In base → base.Ns mainGlobals mg → FnG P w K mg base (L2.CX P w) 10 fa fd ["_law_script"] (spL K) := by
  have e := hfa.symm.trans (PySem.W.mg_of X G a_law)
  cases e
  refine ⟨PySem.W.fnOf "law" "law" (defArgs s_law) (defBody s_law) (defScope s_law) .none kV_law dc_law pm_law an_law cd_law ct_law, fun s v => .of_eq rfl, fun base _ _ => ?_⟩
  have hz : tabX K mg = [] := tabX_nil (PySem.W.mg_none_of X G z__law_four_right) (PySem.W.mg_none_of X G z__law_told) (PySem.W.mg_none_of X G z__law_twice) (PySem.W.mg_none_of X G z__law_refused_right) (PySem.W.mg_none_of X G z__law_views) (PySem.W.mg_none_of X G z__law_any_path)
  have ox_BadAddress : OexC K C_BadAddress := ⟨⟨_, _, _, _, _, _, _, _, _, _, _, _, _, _, _, xL_BadAddress, xb_BadAddress⟩, sa_BadAddress, eC_BadAddress, tC_BadAddress, kC_BadAddress⟩
  have F_I_BadAddress := fun_mk (st := s_exc_BadAddress) lI_BadAddress cI_BadAddress kI_BadAddress
  have b_I_BadAddress := F_I_BadAddress.binds (ps := ["self", "octet"]) fun _ _ _ _ _ _ us hl => match us, hl with | [_, _], _ => rfl
  have E_BadAddress : EI P w K mg base "BadAddress" "octet" := ⟨_, _, _, PySem.W.mg_of X G aC_BadAddress, ox_BadAddress, nf_BadAddress, iI_BadAddress, tI_BadAddress, ok_exc F_I_BadAddress sc_exc_BadAddress rfl ox_BadAddress nf_BadAddress, b_I_BadAddress⟩
  have ox_BadOctet : OexC K C_BadOctet := ⟨⟨_, _, _, _, _, _, _, _, _, _, _, _, _, _, _, xL_BadOctet, xb_BadOctet⟩, sa_BadOctet, eC_BadOctet, tC_BadOctet, kC_BadOctet⟩
  have F_I_BadOctet := fun_mk (st := s_exc_BadOctet) lI_BadOctet cI_BadOctet kI_BadOctet
  have b_I_BadOctet := F_I_BadOctet.binds (ps := ["self", "value"]) fun _ _ _ _ _ _ us hl => match us, hl with | [_, _], _ => rfl
  have E_BadOctet : EI P w K mg base "BadOctet" "value" := ⟨_, _, _, PySem.W.mg_of X G aC_BadOctet, ox_BadOctet, nf_BadOctet, iI_BadOctet, tI_BadOctet, ok_exc F_I_BadOctet sc_exc_BadOctet rfl ox_BadOctet nf_BadOctet, b_I_BadOctet⟩
  have X_BadOctet : EX K mg "BadOctet" "value" := ⟨_, PySem.W.mg_of X G aC_BadOctet, exm_self eC_BadOctet hd_BadOctet tC_BadOctet ex_BadOctet, ⟨ga_BadOctet, gg_BadOctet, eC_BadOctet, hd_BadOctet⟩, nf_BadOctet⟩
  have ci_Memory : CI K mg "Memory" C_Memory := ⟨PySem.W.mg_of X G aC_Memory, ⟨pg_Memory, hd_Memory, po_Memory, sa_Memory⟩⟩
  have na_Memory_octet_rows : NA K mg "Memory" "octet_rows" := ⟨_, ci_Memory, nna_Memory_octet_rows⟩
  have EQ_Memory : EqF K mg "Memory" := ⟨_, PySem.W.mg_of X G aC_Memory, qe_Memory, qn_Memory, qs_Memory⟩
  have XI_BadOctet_BerthError : XIs K mg "BadOctet" "BerthError" := ⟨_, _, PySem.W.mg_of X G aC_BadOctet, PySem.W.mg_of X G aC_BerthError, ⟨ga_BadOctet, gg_BadOctet, eC_BadOctet, hd_BadOctet, cl_BadOctet, cg_class, ct_class, mo_BadOctet⟩, kit_sub ic_BerthError ty_BerthError ki_BadOctet_BerthError⟩
  have TF : TabF K mg tgtC tabC := (tab_cons (insF_mk ci_Memory kf_Memory ks_Memory kt_Memory kr_Memory kbool_Memory kint_Memory kstr_Memory klist_Memory ktuple_Memory kdict_Memory tgt_nil) tab_nil)
  have B : Bi mg := ⟨PySem.W.mg_none_of X G z_all, PySem.W.mg_none_of X G z_bool, PySem.W.mg_none_of X G z_dict, PySem.W.mg_none_of X G z_int, PySem.W.mg_none_of X G z_isinstance, PySem.W.mg_none_of X G z_len, PySem.W.mg_none_of X G z_list, PySem.W.mg_none_of X G z_range, PySem.W.mg_none_of X G z_repr, PySem.W.mg_none_of X G z_tuple, PySem.W.mg_none_of X G z_zip⟩
  have F_draw := fun_mk (st := s_draw) l_draw c_draw k_draw
  have b_draw := F_draw.binds (ps := ["_law_stream", "_law_many"]) fun _ _ _ _ _ _ us hl => match us, hl with | [_, _], _ => rfl
  have I_draw : FI P w K mg base "_law_draw" ["_law_stream", "_law_many"] 1 (ar2 drawD) := ⟨_, _, PySem.W.mg_of X G a_draw, k_draw, b_draw, ok_draw F_draw B.b_int⟩
  have F_pick := fun_mk (st := s_pick) l_pick c_pick k_pick
  have b_pick := F_pick.binds (ps := ["_law_stream", "_law_some"]) fun _ _ _ _ _ _ us hl => match us, hl with | [_, _], _ => rfl
  have I_pick := wk_pick (P := P) (w := w) (base := base) F_pick (PySem.W.mg_of X G a_pick) k_pick b_pick B I_draw
  have F_is_integer := fun_mk (st := s_is_integer) l_is_integer c_is_integer k_is_integer
  have b_is_integer := F_is_integer.binds (ps := ["thing"]) fun _ _ _ _ _ _ us hl => match us, hl with | [_], _ => rfl
  have I_is_integer := wk_is_integer (P := P) (w := w) (base := base) F_is_integer (PySem.W.mg_of X G a_is_integer) k_is_integer b_is_integer TF B
  have F_checked_octet := fun_mk (st := s_checked_octet) l_checked_octet c_checked_octet k_checked_octet
  have b_checked_octet := F_checked_octet.binds (ps := ["thing"]) fun _ _ _ _ _ _ us hl => match us, hl with | [_], _ => rfl
  have I_checked_octet := wk_checked_octet (P := P) (w := w) (base := base) F_checked_octet (PySem.W.mg_of X G a_checked_octet) k_checked_octet b_checked_octet I_is_integer E_BadOctet
  have F_octets_ofN := fun_mk (st := s_octets_ofN) l_octets_ofN c_octets_ofN k_octets_ofN
  have b_octets_ofN := F_octets_ofN.binds (ps := ["things"]) fun _ _ _ _ _ _ us hl => match us, hl with | [_], _ => rfl
  have I_octets_ofN := wk_octets_ofN (P := P) (w := w) (base := base) F_octets_ofN (PySem.W.mg_of X G a_octets_ofN) k_octets_ofN b_octets_ofN I_checked_octet
  have F_Memory_init := fun_mk (st := s_Memory_init) l_Memory_init c_Memory_init k_Memory_init
  have b_Memory_init := F_Memory_init.binds (ps := ["self", "octets"]) fun _ _ _ _ _ _ us hl => match us, hl with | [_, _], _ => rfl
  have I_Memory_init := wk_Memory_init (P := P) (w := w) (base := base) F_Memory_init ci_Memory ⟨mk_Memory, a_Memory_init, i_Memory_init, kc_Memory⟩ b_Memory_init I_octets_ofN I_is_integer na_Memory_octet_rows
  have F_wis_very := fun_mk (st := s_wis_very) l_wis_very c_wis_very k_wis_very
  have b_wis_very := F_wis_very.binds (ps := ["_law_thing"]) fun _ _ _ _ _ _ us hl => match us, hl with | [_], _ => rfl
  have I_wis_very := wk_wis_very (P := P) (w := w) (base := base) F_wis_very (PySem.W.mg_of X G a_wis_very) k_wis_very b_wis_very I_Memory_init X_BadOctet
  have F_wsome_octets := fun_mk (st := s_wsome_octets) l_wsome_octets c_wsome_octets k_wsome_octets
  have b_wsome_octets := F_wsome_octets.binds (ps := ["_law_stream", "_law_many"]) fun _ _ _ _ _ _ us hl => match us, hl with | [_, _], _ => rfl
  have I_wsome_octets := wk_wsome_octets (P := P) (w := w) (base := base) F_wsome_octets (PySem.W.mg_of X G a_wsome_octets) k_wsome_octets b_wsome_octets B I_draw I_pick
  have F_Memory_octets := fun_mk (st := s_Memory_octets) l_Memory_octets c_Memory_octets k_Memory_octets
  have b_Memory_octets := F_Memory_octets.binds (ps := ["self"]) fun _ _ _ _ _ _ us hl => match us, hl with | [_], _ => rfl
  have I_Memory_octets := wk_Memory_octets (P := P) (w := w) (base := base) F_Memory_octets ci_Memory ⟨a_Memory_octets, i_Memory_octets, k_Memory_octets⟩ b_Memory_octets na_Memory_octet_rows B
  have F_wsame := fun_mk (st := s_wsame) l_wsame c_wsame k_wsame
  have b_wsame := F_wsame.binds (ps := ["_law_found", "_law_due"]) fun _ _ _ _ _ _ us hl => match us, hl with | [_, _], _ => rfl
  have I_wsame := wk_wsame (P := P) (w := w) (base := base) F_wsame (PySem.W.mg_of X G a_wsame) k_wsame b_wsame TF B
  have F_wis_refused := fun_mk (st := s_wis_refused) l_wis_refused c_wis_refused k_wis_refused
  have b_wis_refused := F_wis_refused.binds (ps := ["_law_stream"]) fun _ _ _ _ _ _ us hl => match us, hl with | [_], _ => rfl
  have I_wis_refused := wk_wis_refused (P := P) (w := w) (base := base) F_wis_refused (PySem.W.mg_of X G a_wis_refused) k_wis_refused b_wis_refused I_draw I_wsome_octets B I_pick I_Memory_init XI_BadOctet_BerthError X_BadOctet
  have F_Memory_len := fun_mk (st := s_Memory_len) l_Memory_len c_Memory_len k_Memory_len
  have b_Memory_len := F_Memory_len.binds (ps := ["self"]) fun _ _ _ _ _ _ us hl => match us, hl with | [_], _ => rfl
  have I_Memory_len := wk_Memory_len (P := P) (w := w) (base := base) F_Memory_len ci_Memory ⟨a_Memory_len, i_Memory_len, k_Memory_len⟩ b_Memory_len na_Memory_octet_rows B
  have F_Memory_checked_place := fun_mk (st := s_Memory_checked_place) l_Memory_checked_place c_Memory_checked_place k_Memory_checked_place
  have b_Memory_checked_place := F_Memory_checked_place.binds (ps := ["self", "k"]) fun _ _ _ _ _ _ us hl => match us, hl with | [_, _], _ => rfl
  have I_Memory_checked_place := wk_Memory_checked_place (P := P) (w := w) (base := base) F_Memory_checked_place ci_Memory ⟨a_Memory_checked_place, i_Memory_checked_place, k_Memory_checked_place⟩ b_Memory_checked_place I_is_integer na_Memory_octet_rows B E_BadAddress
  have F_Memory_getitem := fun_mk (st := s_Memory_getitem) l_Memory_getitem c_Memory_getitem k_Memory_getitem
  have b_Memory_getitem := F_Memory_getitem.binds (ps := ["self", "k"]) fun _ _ _ _ _ _ us hl => match us, hl with | [_, _], _ => rfl
  have I_Memory_getitem := wk_Memory_getitem (P := P) (w := w) (base := base) F_Memory_getitem ci_Memory ⟨a_Memory_getitem, i_Memory_getitem, k_Memory_getitem⟩ b_Memory_getitem nq_Memory na_Memory_octet_rows I_Memory_checked_place
  have F_law := fun_mk (st := s_law) l_law c_law k_law
  exact ok_law F_law hz B I_draw I_pick I_wsome_octets I_Memory_init I_Memory_octets I_wsame I_Memory_len I_Memory_getitem I_wis_refused EQ_Memory I_wis_very hlaw
theorem walk {l : PySem.W.OpenLaw} {q : Program} {loose : List Str} {XP : (Str → Option Value) → Heap → Prop} {YP : World → Heap → Prop} {d : DefRec} {K : Params → PySem.W.Frag} (hn : l.most = some 63) (hdf : d.params.defaults = [])
    (hY : ∀ (w : World) (h : Heap), YP w h → (K w.params).In h)
    (F : ∀ (w : World) (mg : Str → Option Value) (fa : Addr) (h : Heap), (K w.params).In h → h.Ns mainGlobals mg → mg d.name = some (.ref fa) →
      ∃ fd : FuncData, (∀ (s : Shared) (u : Value), BindsTo s fd ⟨[u], []⟩ [("_law_script", u)]) ∧ ∀ base : Heap, (K w.params).In base → base.Ns mainGlobals mg → FnG l.prog w (K w.params) mg base (L2.CX l.prog w) 10 fa fd ["_law_script"] (spL (K w.params))) :
    PySem.W.WalkO q loose XP YP l.row.toRowW d [] (fun f vs => PySem.call f vs) :=
  walk_at (n := 63) (k := 10) (x := "_law_script") (CX := fun w => L2.CX l.prog w) (sp := fun w => spL (K w.params)) hn (by decide) hdf ⟨rfl, by decide, by decide⟩ hY F (fun _ _ a ns hl _ hS => ⟨a, ns, rfl, hS, hl, fun _ => rfl⟩) fun _ _ _ _ _ z => by
    obtain ⟨_, _, _, _, _, _, _, _, _, _, _, _, z⟩ := z
    exact z
end Lw
/-! plain laws without layouts: draws, turns, what is the same, loops over what stands at a pointer -/
namespace Xl
open PySem L2 Dl
/-- m draws at most n numbers and gives what Q says -/
def Drw (n : Nat) (m : M D) (Q : D → Prop) : Prop := ∀ (cs : List Cell) (s : Strm) (r : Nat), Bud s (n + r) → ∃ d s', m ⟨cs, s⟩ = .ok d ⟨cs, s'⟩ ∧ Q d ∧ Bud s' r
theorem drw_draw {k : Int} (h0 : 0 < k) (h1 : k < 18446744073709551616) : Drw 1 (drawD .strm (.int k)) fun d => ∃ i, d = .int i ∧ 0 ≤ i ∧ i < k := fun cs s r b => by
  obtain ⟨g, t0, t1, b'⟩ := bud_next (n := r) (by rw [Nat.add_comm] at b; exact b) h0
  refine ⟨.int (s.take k), s.next k, ?_, ⟨_, rfl, t0, t1⟩, b'⟩
  show drawD _ _ _ = _
  unfold drawD
  simp only [g, h0, h1, decide_true, Bool.and_true, if_true]
def Pick (fp : D → D → M D) : Prop := fp = fun a_s a_some => finM (retM (bin dItem (M.pure a_some) (callM (ar2 drawD) [(M.pure a_s), (callM (ar1 dLen) [(M.pure a_some)])])))
theorem drw_pick {fp : D → D → M D} (hf : Pick fp) {ds : List D} (h0 : 0 < ds.length) (h1 : ds.length < 1048576) : Drw 1 (fp .strm (.lst ds)) fun d => d ∈ ds := fun cs s r b => by
  obtain ⟨d, s', e, ⟨i, rfl, i0, i1⟩, b'⟩ := drw_draw (k := ds.length) (by omega) (by omega) cs s r b
  obtain ⟨a, ea, m, _⟩ := atI_nat i0 i1
  refine ⟨a, s', ?_, m, b'⟩
  rw [show fp = _ from hf]
  generalize drawD = fd at e ⊢
  simp [e, ea]
theorem drw_c {k : Int} {cs : List Cell} {s s1 : Strm} {d : D} (e : drawD .strm (.int k) ⟨cs, s⟩ = .ok d ⟨cs, s1⟩) : (callM (ar2 drawD) [(M.pure D.strm), (M.pure (D.int k))]) ⟨cs, s⟩ = .ok d ⟨cs, s1⟩ := by
  generalize drawD = fd at e ⊢
  rw [ev_call, ev_args1, ev_pure, at_ok, ev_args1, ev_pure, at_ok, ev_args0, at_ok, at_ok, at_ok, ev_ar2, e]
theorem drw_e {k : Int} {cs : List Cell} {s s1 : Strm} {d : D} {me : M D} (hm : me ⟨cs, s⟩ = .ok (.int k) ⟨cs, s⟩) (e : drawD .strm (.int k) ⟨cs, s⟩ = .ok d ⟨cs, s1⟩) : (callM (ar2 drawD) [(M.pure D.strm), me]) ⟨cs, s⟩ = .ok d ⟨cs, s1⟩ := by
  generalize drawD = fd at e ⊢
  rw [ev_call, ev_args1, ev_pure, at_ok, ev_args1, hm, at_ok, ev_args0, at_ok, at_ok, at_ok, ev_ar2, e]
theorem ok_rng1 {j : Int} (h0 : 0 ≤ j) (h1 : j ≤ 1048576) : rng1 (.int j) = M.pure ((List.range j.toNat).map fun (i : Nat) => D.int i) := by
  have e62 : (2 : Int) ^ 62 = 4611686018427387904 := by decide
  show rng1i j = _
  unfold rng1i
  rw [if_pos (by simp only [Bool.and_eq_true, decide_eq_true_eq]; omega)]
theorem szOk_le {n : Nat} (h : n ≤ 16777216) : szOk n = true := by unfold szOk; simp [h]
theorem zip_self {α : Type} : ∀ l : List α, l.zip l = l.map fun x => (x, x)
  | [] => rfl
  | x :: l => by rw [List.zip_cons_cons, List.map_cons, zip_self l]
theorem zipD_self {ds : List D} : zipD ds ds = ds.map fun d => .tup [d, d] := by
  unfold zipD
  rw [zip_self, List.map_map]; rfl
theorem same_map {g : D → D → M D} {ds : List D} {S : MS} (h : ∀ d ∈ ds, g d d = M.pure (.bl true)) : mapXC (unT (.tp [(.nm 2), (.nm 3)]) (on2 fun v_one1 v_two2 => (callM (ar2 g) [(M.pure v_one1), (M.pure v_two2)]))) (zipD ds ds) S = .ok (List.replicate ds.length (.bl true)) S := by
  rw [zipD_self, show List.replicate ds.length (D.bl true) = ds.map fun _ => D.bl true from (List.map_const' ..).symm]
  refine map_enc (fun d => .tup [d, d]) _ _ fun d hd => ?_
  simp [h d hd]
theorem all_rep {n : Nat} {S : MS} : dAll (.lst (List.replicate n (.bl true))) S = .ok (.bl true) S := by
  simp only [dAll, bools_rep]
  rw [List.all_replicate]
  split <;> rfl
/-- over what stands at a pointer, by a computation that leaves it there -/
theorem mapRC_same {c : MS → Prop} {f : D → M D} {g : D → D} {S : MS} (hc : c S) : ∀ ds : List D, (∀ d ∈ ds, f d S = .ok (g d) S) → mapRC c f ds S = .ok (ds.map g) S
  | [], _ => rfl
  | d :: ds, h => by
    unfold mapRC
    rw [ev_bind, h d List.mem_cons_self, at_ok, ev_bind, chk_ok hc, at_ok, ev_bind, mapRC_same hc ds fun x hx => h x (List.mem_cons_of_mem _ hx), at_ok]
    rfl
/-- the first one that is refused -/
theorem mapRC_err {c : MS → Prop} {f : D → M D} {g : D → D} {S : MS} {e : Err} (hc : c S) {x : D} {post : List D} (hx : f x S = .err e S) : ∀ ds : List D, (∀ d ∈ ds, f d S = .ok (g d) S) → mapRC c f (ds ++ x :: post) S = .err e S
  | [], _ => by
    rw [List.nil_append]
    unfold mapRC
    rw [ev_bind, hx, at_err]
  | d :: ds, h => by
    rw [List.cons_append]
    unfold mapRC
    rw [ev_bind, h d List.mem_cons_self, at_ok, ev_bind, chk_ok hc, at_ok, ev_bind, mapRC_err hc hx ds fun x hx => h x (List.mem_cons_of_mem _ hx), at_err]
theorem items_ptr {k : Nat} {S : MS} {ds : List D} (h : S.cells[k]? = some (.lst ds)) : itemsR (.ptr k) S = .ok (ds, fun S' => S'.cells[k]? = some (.lst ds)) S := by
  unfold itemsR
  simp only [h]
theorem mapR_ptr {k : Nat} {S : MS} {ds : List D} {f : D → M D} {g : D → D} (h : S.cells[k]? = some (.lst ds)) (hl : ds.length ≤ 16777216) (hf : ∀ d ∈ ds, f d S = .ok (g d) S) : mapR (M.bind (M.pure (.ptr k)) itemsR) f S = .ok (ds.map g) S := by
  unfold mapR
  rw [ev_bind, ev_bind, ev_pure, at_ok, items_ptr h, at_ok, ev_gd, if_pos (szOk_le hl)]
  exact mapRC_same h ds hf
theorem c_setI {cs : List Cell} {s : Strm} {p : Nat} {ds : List D} {j : Int} {w : D} (h : cs[p]? = some (.lst ds)) (h0 : 0 ≤ j) (h1 : j.toNat < ds.length) : setI (.ptr p) (.int j) w ⟨cs, s⟩ = .ok () ⟨cs.set p (.lst (ds.set j.toNat w)), s⟩ := by
  have e : ixN ds.length j = some j.toNat := by unfold ixN; rw [if_pos h0, if_pos (by omega)]
  unfold setI
  simp only [h]
  rw [e]
  rfl
theorem c_app {cs cs' : List Cell} {s s' : Strm} {k : Nat} {v : D} {mo me : M D} {ds ds' : List D} (ho : mo ⟨cs, s⟩ = .ok (.ptr k) ⟨cs, s⟩) (h : cs[k]? = some (.lst ds')) (hm : me ⟨cs, s⟩ = .ok v ⟨cs', s'⟩) (h' : cs'[k]? = some (.lst ds)) (hl : ds.length < 16777216) : appM mo me ⟨cs, s⟩ = .ok .non ⟨cs'.set k (.lst (ds ++ [v])), s'⟩ := by
  have il : isLstP (.ptr k) ⟨cs, s⟩ = .ok () ⟨cs, s⟩ := by
    unfold isLstP
    rw [ev_bind]
    unfold asLst
    simp only [h]
    rfl
  unfold appM
  rw [ev_bind, ho, at_ok, ev_bind, il, at_ok, ev_bind, hm, at_ok]
  unfold appP
  simp only [h']
  rw [if_pos (by unfold szLt; simp [hl])]
  rfl
theorem set_more {c f : Str} {S : MS} {v : D} {fs : List (Str × D)} {ds : List Cell} (h : fs.length < 900) : setF c f (.ptr S.cells.length) v { S with cells := S.cells ++ .ins c fs :: ds } = .ok () { S with cells := S.cells ++ .ins c (putFD f v fs) :: ds } := by
  have g : (S.cells ++ Cell.ins c fs :: ds)[S.cells.length]? = some (.ins c fs) := by
    rw [List.getElem?_append_right (Nat.le_refl _), Nat.sub_self]; rfl
  unfold setF
  simp only [g, if_true, h]
  unfold MS.put
  dsimp only
  rw [List.set_append_right _ _ (Nat.le_refl _), Nat.sub_self]
  rfl
theorem at_get {ts : List D} {i : Int} (h0 : 0 ≤ i) (h1 : i.toNat < ts.length) : atI ts i = some ts[i.toNat] := by
  unfold atI ixN
  rw [if_pos h0, if_pos (by omega)]
  exact List.getElem?_eq_getElem h1
section
variable {tab : List (Str × List Str)} {ts : List Ty} {cs : List Str}
@[simp] theorem isX_non : dIsX tab ts cs .non = M.pure (.bl (ts.any Ty.non.sub)) := rfl
@[simp] theorem isX_bl {b : Bool} : dIsX tab ts cs (.bl b) = M.pure (.bl (ts.any Ty.bool.sub)) := rfl
@[simp] theorem isX_int {i : Int} : dIsX tab ts cs (.int i) = M.pure (.bl (ts.any Ty.int.sub)) := rfl
@[simp] theorem isX_str {x : Str} : dIsX tab ts cs (.str x) = M.pure (.bl (ts.any Ty.str.sub)) := rfl
@[simp] theorem isX_lst {ds : List D} : dIsX tab ts cs (.lst ds) = M.pure (.bl (ts.any Ty.list.sub)) := rfl
@[simp] theorem isX_tup {ds : List D} : dIsX tab ts cs (.tup ds) = M.pure (.bl (ts.any Ty.tuple.sub)) := rfl
@[simp] theorem isX_dic {ks : List Key} {ds : List D} : dIsX tab ts cs (.dic ks ds) = M.pure (.bl (ts.any Ty.dict.sub)) := rfl
end
end Xl
/-! memories made -/
namespace Lw
open PySem L2 Dl Xl
theorem pk : Pick f_pick := rfl
theorem pick_c {ds : List D} {d : D} {cs : List Cell} {s s1 : Strm} (e : f_pick .strm (.lst ds) ⟨cs, s⟩ = .ok d ⟨cs, s1⟩) : (callM (ar2 f_pick) [(M.pure .strm), (M.pure (.lst ds))]) ⟨cs, s⟩ = .ok d ⟨cs, s1⟩ := by
  generalize f_pick = fp at e ⊢
  rw [ev_call, ev_args1, ev_pure, at_ok, ev_args1, ev_pure, at_ok, ev_args0, at_ok, at_ok, at_ok, ev_ar2, e]
theorem pickL_c {ds : List D} {d : D} {ms : List (M D)} {cs : List Cell} {s s0 s1 : Strm} (hl : (frz (lstM ms)) ⟨cs, s⟩ = .ok (.lst ds) ⟨cs, s0⟩) (e : f_pick .strm (.lst ds) ⟨cs, s0⟩ = .ok d ⟨cs, s1⟩) : (callM (ar2 f_pick) [(M.pure .strm), (frz (lstM ms))]) ⟨cs, s⟩ = .ok d ⟨cs, s1⟩ := by
  generalize f_pick = fp at e ⊢
  rw [ev_call, ev_args1, ev_pure, at_ok, ev_args1, hl, at_ok, ev_args0, at_ok, at_ok, at_ok, ev_ar2, e]
theorem wsame_refl : ∀ (n : Nat) {d : D}, Good n d → f_wsame n d d = M.pure (.bl true)
  | 0, d, h => by cases h
  | n + 1, d, h => by
    funext S
    rw [f_wsame]
    have ih := fun d => @wsame_refl n d
    generalize f_wsame n = g at ih ⊢
    have zl : ∀ ds : List D, ds.length ≤ 16777216 → szOk (zipD ds ds).length = true := fun ds h => szOk_of (by unfold zipD; rw [List.length_map, List.length_zip, Nat.min_self]; exact h)
    have seq : ∀ ds : List D, ds.length ≤ 16777216 → (∀ d ∈ ds, Good n d) → ∀ d : D, (∀ S, (M.bind (argsM [(M.pure d), (M.pure d)]) zipM) S = .ok (zipD ds ds) S) → ∀ S, (callM (ar1 dAll) [(frz (mapX (M.bind (argsM [(M.pure d), (M.pure d)]) zipM) (unT (.tp [(.nm 2), (.nm 3)]) (on2 fun v_one1 v_two2 => (callM (ar2 g) [(M.pure v_one1), (M.pure v_two2)])))))]) S = .ok (.bl true) S := fun ds hl hg d hz S => by
      rw [ev_call, ev_args1, ev_frz, ev_mapX, hz, at_ok, if_pos (zl ds hl), same_map (fun d hd => ih d (hg d hd)), at_ok, at_ok, ev_args0, at_ok, at_ok, ev_ar1, all_rep]
    cases h with
    | lst ds h t =>
      have := seq ds h t (.lst ds) (fun S => rfl)
      have t0 : (tst (una (dIsX tabC [.dict] []) (M.pure (.lst ds))) : M Bool) S = .ok false S := by simp [Ty.sub]
      rw [ev_fin, ev_ifM, t0, at_ok, if_neg (by decide), ev_ifM]
      have t1 : (tst (una (dIsX tabC [.list, .tuple] []) (M.pure (.lst ds))) : M Bool) S = .ok true S := by simp [Ty.sub]
      have t2 : (orT (tst (bin dNe (una (dIsX tabC [.list] []) (M.pure (.lst ds))) (una (dIsX tabC [.list] []) (M.pure (.lst ds))))) (tst (bin dNe (una (dIsX tabC [.tuple] []) (M.pure (.lst ds))) (una (dIsX tabC [.tuple] []) (M.pure (.lst ds))))) : M Bool) S = .ok false S := by simp [Ty.sub]
      have t3 : (bin dEq (callM (ar1 dLen) [(M.pure (.lst ds))]) (callM (ar1 dLen) [(M.pure (.lst ds))])) S = .ok (.bl true) S := by simp
      rw [t1, at_ok, if_pos rfl, ev_out, ev_ifM, t2, at_ok, if_neg (by decide), ev_ret, ev_andV, t3, at_ok, asB_bl, ev_pure, at_ok, if_pos rfl, this]
      rfl
    | tup ds h t =>
      have := seq ds h t (.tup ds) (fun S => rfl)
      have t0 : (tst (una (dIsX tabC [.dict] []) (M.pure (.tup ds))) : M Bool) S = .ok false S := by simp [Ty.sub]
      rw [ev_fin, ev_ifM, t0, at_ok, if_neg (by decide), ev_ifM]
      have t1 : (tst (una (dIsX tabC [.list, .tuple] []) (M.pure (.tup ds))) : M Bool) S = .ok true S := by simp [Ty.sub]
      have t2 : (orT (tst (bin dNe (una (dIsX tabC [.list] []) (M.pure (.tup ds))) (una (dIsX tabC [.list] []) (M.pure (.tup ds))))) (tst (bin dNe (una (dIsX tabC [.tuple] []) (M.pure (.tup ds))) (una (dIsX tabC [.tuple] []) (M.pure (.tup ds))))) : M Bool) S = .ok false S := by simp [Ty.sub]
      have t3 : (bin dEq (callM (ar1 dLen) [(M.pure (.tup ds))]) (callM (ar1 dLen) [(M.pure (.tup ds))])) S = .ok (.bl true) S := by simp
      rw [t1, at_ok, if_pos rfl, ev_out, ev_ifM, t2, at_ok, if_neg (by decide), ev_ret, ev_andV, t3, at_ok, asB_bl, ev_pure, at_ok, if_pos rfl, this]
      rfl
    | str x h => simp [Ty.sub, h, dIsB]
    | _ => simp [Ty.sub, dIsB]
theorem reprE_flat {d : D} {t : Str} {S : MS} (hv : viewD S 64 d = d) (h1 : (d.flat && d.toPy.showable && !d.toPy.hasDict && decide (d.toPy.depth ≤ 60) && decide (d.toPy.shown.length ≤ 16777216)) = true) (ht : d.toPy.shown = t) : dReprE d S = .ok (.str t) S := by
  simp only [Bool.and_eq_true, Bool.not_eq_true', decide_eq_true_eq] at h1
  obtain ⟨⟨⟨⟨a1, a2⟩, a3⟩, a4⟩, a5⟩ := h1
  have a6 : d.toPy.shown.length ≤ sizeLine := by rw [sizeLine_eq]; exact a5
  have e : dRepr d S = .ok (.str t) S := by
    unfold dRepr rprOk
    rw [hv, a1, a2, a3, decide_eq_true a4, decide_eq_true a6, ht]
    rfl
  unfold dReprE
  rw [hv]
  cases d with
  | dic _ _ => cases a1
  | _ => exact e
structure OddT (x : D) (t : Str) : Prop where
  rp : ∀ S, dReprE x S = .ok (.str t) S
  pl : (D.str t).plain = true
def rpB (d : D) : Bool := (d.flat && d.toPy.showable && !d.toPy.hasDict && decide (d.toPy.depth ≤ 60) && decide (d.toPy.shown.length ≤ 16777216)) && (D.str d.toPy.shown).plain
theorem oddT_flat {x : D} (hv : ∀ S, viewD S 64 x = x) (h : rpB x = true) : ∃ t, OddT x t := by
  unfold rpB at h
  rw [Bool.and_eq_true] at h
  exact ⟨_, fun S => reprE_flat (hv S) h.1 rfl, h.2⟩
structure MM (cs : List Cell) (m l : Nat) (os : List Int) : Prop where
  hm : cs[m]? = some (.ins "Memory" [("octet_rows", .ptr l)])
  hl : cs[l]? = some (.lst (os.map D.int))
section
variable {cs : List Cell} {s : Strm} {m l : Nat} {os : List Int}
theorem m_rows (h : MM cs m l os) : dFld "Memory" "octet_rows" (.ptr m) ⟨cs, s⟩ = .ok (.ptr l) ⟨cs, s⟩ := by
  unfold dFld insOf; simp only [h.hm]; rfl
theorem m_isA1 (h : MM cs m l os) : isA "Memory" "checked_place" (.ptr m) ⟨cs, s⟩ = .ok () ⟨cs, s⟩ := by
  unfold isA insOf; simp only [h.hm]; rfl
theorem m_isA2 (h : MM cs m l os) : isA "Memory" "octets" (.ptr m) ⟨cs, s⟩ = .ok () ⟨cs, s⟩ := by
  unfold isA insOf; simp only [h.hm]; rfl
theorem m_isI (h : MM cs m l os) : isIns "Memory" (.ptr m) ⟨cs, s⟩ = .ok () ⟨cs, s⟩ := by
  unfold isIns insOf; simp only [h.hm]; rfl
theorem m_seq {p : Nat} {ds : List D} (h : cs[p]? = some (.lst ds)) : asSeq (.ptr p) ⟨cs, s⟩ = .ok ds ⟨cs, s⟩ := by
  unfold asSeq; simp only [h]
theorem m_len {p : Nat} {ds : List D} (h : cs[p]? = some (.lst ds)) : dLen (.ptr p) ⟨cs, s⟩ = .ok (.int ds.length) ⟨cs, s⟩ := by
  show ((asSeq (.ptr p)).bind fun ds => M.pure (D.int ds.length)) _ = _
  rw [ev_bind, m_seq h, at_ok, ev_pure]
theorem is_int {i : Int} {S : MS} : f_is_integer (.int i) S = .ok (.bl true) S := rfl
theorem place_ok (h : MM cs m l os) {i : Int} (i0 : 0 ≤ i) (i1 : i < os.length) : f_Memory_checked_place (.ptr m) (.int i) ⟨cs, s⟩ = .ok (.int i) ⟨cs, s⟩ := by
  have ln := m_len (s := s) h.hl
  have r := m_rows (s := s) h
  have a : ¬ i < 0 := by omega
  have c : ¬ i ≥ os.length := by omega
  unfold f_Memory_checked_place
  simp [is_int, r, ln, a, c]
theorem octet_ok {i : Int} {S : MS} (i0 : 0 ≤ i) (i1 : i ≤ 255) : f_checked_octet (.int i) S = .ok (.int i) S := by
  have a : ¬ i < 0 := by omega
  have c : ¬ i > 255 := by omega
  unfold f_checked_octet
  simp [is_int, a, c]
theorem octet_bad {x : D} {S : MS} (hx : (∃ i, x = .int i ∧ (i < 0 ∨ (256 : Int) ≤ i)) ∨ f_is_integer x S = .ok (.bl false) S) : f_checked_octet x S = .err ⟨"BadOctet", "value", x⟩ S := by
  unfold f_checked_octet
  rcases hx with ⟨i, rfl, hi⟩ | hx
  · by_cases a : i < 0
    · simp [is_int, a]
    · have c : i > 255 := by omega
      simp [is_int, a, c]
  · generalize f_is_integer = fi at hx ⊢
    simp [hx]
theorem item_at {p : Nat} (h : cs[p]? = some (.lst (os.map D.int))) {i : Int} (i0 : 0 ≤ i) (i1 : i.toNat < os.length) : dItem (.ptr p) (.int i) ⟨cs, s⟩ = .ok (.int os[i.toNat]) ⟨cs, s⟩ := by
  show ((asSeq (.ptr p)).bind fun ds => ofOpt (atI ds i)) _ = _
  rw [ev_bind, m_seq h, at_ok, at_get i0 (by rw [List.length_map]; exact i1), List.getElem_map]
  rfl
theorem get_ok (h : MM cs m l os) {i : Int} (i0 : 0 ≤ i) (i1 : i < os.length) : (getOM "Memory" (ar2 f_Memory_getitem) (M.pure (.ptr m)) (M.pure (.int i))) ⟨cs, s⟩ = .ok (.int (os[i.toNat]'(by omega))) ⟨cs, s⟩ := by
  have pl := place_ok (s := s) h i0 i1
  have r := m_rows (s := s) h
  have it := item_at (s := s) h.hl i0 (by omega)
  unfold getOM
  rw [ev_bind, ev_pure, at_ok, ev_bind, ev_pure, at_ok, ev_bind, m_isI h, at_ok, ev_ar2]
  unfold f_Memory_getitem
  generalize f_Memory_checked_place = fp at pl ⊢
  rw [ev_fin, ev_ret, ev_bin, ev_una, ev_pure, at_ok, r, at_ok, ev_meth, ev_pure, at_ok, m_isA1 h, at_ok, ev_args1, ev_pure, at_ok, ev_args0, at_ok, at_ok, ev_ar2, pl, at_ok, it]
  rfl
end
theorem view_nums {S : MS} {k : Nat} : ∀ os : List Int, (os.map D.int).map (viewD S (k + 1)) = os.map D.int
  | [] => rfl
  | x :: os => by rw [List.map_cons, List.map_cons, view_nums os]; rfl
theorem good_nums {k : Nat} {rows : List Int} (h : rows.length ≤ 16777216) : Good (k + 2) (.lst (rows.map D.int)) := .lst _ (by rw [List.length_map]; exact h) fun d hd => by
  obtain ⟨x, _, e⟩ := List.mem_map.mp hd
  subst e
  exact .int x
abbrev memC (l : Nat) : Cell := .ins "Memory" [("octet_rows", .ptr l)]
noncomputable abbrev srcM (x : D) : M (List D) := ifM (tst (callM (ar1 f_is_integer) [(M.pure x)])) (repM (lstM [(M.pure (D.int 0))]) (M.pure x)) ((argsM [(M.pure x)]).bind (ar1N f_octets_ofN))
theorem new_mem {cs : List Cell} {s : Strm} {x : D} {ds : List D} (h : srcM x ⟨cs ++ [.ins "Memory" []], s⟩ = .ok ds ⟨cs ++ [.ins "Memory" []], s⟩) : (newM "Memory" (ar2 f_Memory_init) [(M.pure x)]) ⟨cs, s⟩ = .ok (.ptr cs.length) ⟨cs ++ [memC (cs.length + 1), .lst ds], s⟩ := by
  have e : f_Memory_init (.ptr cs.length) x ⟨cs ++ [.ins "Memory" []], s⟩ = .ok .non ⟨cs ++ [memC (cs.length + 1), .lst ds], s⟩ := by
    have bx : (boxM (srcM x)) ⟨cs ++ [.ins "Memory" []], s⟩ = .ok (.ptr (cs.length + 1)) ⟨cs ++ [.ins "Memory" [], .lst ds], s⟩ := by
      unfold boxM
      rw [ev_bind, h, at_ok]
      show Res.ok (D.ptr (cs ++ [Cell.ins "Memory" []]).length) (MS.mk ((cs ++ [Cell.ins "Memory" []]) ++ [Cell.lst ds]) s) = _
      rw [List.length_append, List.append_assoc]
      rfl
    have st := set_more (c := "Memory") (f := "octet_rows") (S := ⟨cs, s⟩) (v := .ptr (cs.length + 1)) (fs := []) (ds := [.lst ds]) (by decide)
    unfold f_Memory_init
    unfold srcM at bx
    generalize f_octets_ofN = fo at bx ⊢
    rw [ev_fin, ev_bind, bx, at_ok, ev_bind, ev_pure, at_ok, ev_bind]
    have st : setF "Memory" "octet_rows" (.ptr cs.length) (.ptr (cs.length + 1)) ⟨cs ++ [.ins "Memory" [], .lst ds], s⟩ = _ := st
    rw [st]
    rfl
  unfold newM
  rw [ev_bind, ev_args1, ev_pure, at_ok, ev_args0, at_ok, at_ok]
  show (match f_Memory_init (.ptr cs.length) x ⟨cs ++ [.ins "Memory" []], s⟩ with
    | .ok .non S' => Res.ok (D.ptr cs.length) S'
    | .ok _ _ => .bad
    | .err e S' => .err e S'
    | .bad => .bad) = _
  rw [e]
theorem finN_frz {m : M (List D)} {ds : List D} {S S1 : MS} (h : m S = .ok ds S1) : finN (retM (frz m)) S = .ok ds S1 := by
  unfold finN
  rw [ev_bind, ev_ret, ev_frz, h]
  rfl
theorem octs_ptr {S : MS} {p : Nat} {os : List Int} (hp : S.cells[p]? = some (.lst (os.map D.int))) (ho : ∀ o ∈ os, 0 ≤ o ∧ o ≤ 255) (hl : os.length ≤ 1000) : f_octets_ofN (.ptr p) S = .ok (os.map D.int) S := by
  unfold f_octets_ofN
  refine finN_frz ?_
  have e := mapR_ptr (f := unT (.nm 1) (on1 fun v_thing1 => (callM (ar1 f_checked_octet) [(M.pure v_thing1)]))) (g := id) hp (by rw [List.length_map]; omega) fun d hd => by
    obtain ⟨i, hi, rfl⟩ := List.mem_map.mp hd
    have oc := octet_ok (S := S) (ho i hi).1 (ho i hi).2
    generalize f_checked_octet = fo at oc ⊢
    rw [ev_unN, ev_on1, ev_call, ev_args1, ev_pure, at_ok, ev_args0, at_ok, at_ok, ev_ar1, oc]
    rfl
  rw [List.map_id] at e
  exact e
theorem int_ptr {q : Nat} {ds : List D} {S : MS} (hq : S.cells[q]? = some (.lst ds)) : f_is_integer (.ptr q) S = .ok (.bl false) S := by
  unfold f_is_integer
  simp [hq, dIsX, insOf, dIsi, D.ty?, Ty.sub]
theorem src_ptr {S : MS} {p : Nat} {os : List Int} (hp : S.cells[p]? = some (.lst (os.map D.int))) (ho : ∀ o ∈ os, 0 ≤ o ∧ o ≤ 255) (hl : os.length ≤ 1000) : srcM (.ptr p) S = .ok (os.map D.int) S := by
  have ii := int_ptr hp
  have oc := octs_ptr hp ho hl
  unfold srcM
  generalize f_is_integer = fi at ii ⊢
  generalize f_octets_ofN = fo at oc ⊢
  rw [ev_ifM, ev_tst, ev_call, ev_args1, ev_pure, at_ok, ev_args0, at_ok, at_ok, ev_ar1, ii, at_ok, asB_bl, ev_pure, at_ok, if_neg (by decide), ev_bind, ev_args1, ev_pure, at_ok, ev_args0, at_ok, at_ok]
  exact oc
abbrev woctF : D → M D := (unT (.nm 2) (on1 fun v_k1 => (callM (ar2 f_pick) [(M.pure D.strm), (frz (lstM [(M.pure (D.int 0)), (M.pure (D.int 1)), (M.pure (D.int 127)), (M.pure (D.int 128)), (M.pure (D.int 255)), (callM (ar2 f_draw) [(M.pure D.strm), (M.pure (D.int 256))])]))])))
theorem woct_one (v : D) : Drw 2 (woctF v) fun d => ∃ i, d = .int i ∧ 0 ≤ i ∧ i ≤ 255 := fun cs s r b => by
  obtain ⟨d1, s1, e1, ⟨i, rfl, i0, i1⟩, b1⟩ := drw_draw (k := 256) (by decide) (by decide) cs s (1 + r) (b.le (by omega))
  obtain ⟨d3, s3, e3, q3, b3⟩ := drw_pick pk (ds := [.int 0, .int 1, .int 127, .int 128, .int 255, .int i]) (by show (0 : Nat) < 6; decide) (by show (6 : Nat) < 1048576; decide) cs s1 r b1
  refine ⟨d3, s3, ?_, ?_, b3⟩
  · have z6 : szOk 6 = true := by decide
    have dr := drw_c e1
    have fl : (frz (lstM [(M.pure (D.int 0)), (M.pure (D.int 1)), (M.pure (D.int 127)), (M.pure (D.int 128)), (M.pure (D.int 255)), (callM (ar2 f_draw) [(M.pure D.strm), (M.pure (D.int 256))])])) ⟨cs, s⟩ = .ok (.lst [.int 0, .int 1, .int 127, .int 128, .int 255, .int i]) ⟨cs, s1⟩ := by
      rw [ev_frz, ev_lst, ev_args1, ev_pure, at_ok, ev_args1, ev_pure, at_ok, ev_args1, ev_pure, at_ok, ev_args1, ev_pure, at_ok, ev_args1, ev_pure, at_ok, ev_args1, dr, at_ok, ev_args0, at_ok, at_ok, at_ok, at_ok, at_ok, at_ok, at_ok, if_pos (by exact z6), at_ok]
    unfold woctF
    rw [ev_unN, ev_on1, pickL_c fl e3]
  · simp only [List.mem_cons, List.not_mem_nil, or_false] at q3
    rcases q3 with q | q | q | q | q | q <;> exact ⟨_, q, by omega, by omega⟩
theorem woct_loop : ∀ (ds : List D) (cs : List Cell) (s : Strm) (r : Nat), Bud s (2 * ds.length + r) → ∃ (os : List Int) (s' : Strm), mapXC woctF ds ⟨cs, s⟩ = .ok (os.map D.int) ⟨cs, s'⟩ ∧ os.length = ds.length ∧ (∀ o ∈ os, 0 ≤ o ∧ o ≤ 255) ∧ Bud s' r
  | [], cs, s, r, b => ⟨[], s, rfl, rfl, fun o h => (nomatch h), by simpa using b⟩
  | d :: ds, cs, s, r, b => by
    rw [List.length_cons] at b
    obtain ⟨x, s1, e1, ⟨i, rfl, i0, i1⟩, b1⟩ := woct_one d cs s (2 * ds.length + r) (b.le (by omega))
    obtain ⟨os, s2, e2, l2, o2, b2⟩ := woct_loop ds cs s1 r b1
    refine ⟨i :: os, s2, ?_, by rw [List.length_cons, l2, List.length_cons], fun o h => ?_, b2⟩
    · rw [ev_map1, e1, at_ok, e2]
      rfl
    · rcases List.mem_cons.mp h with rfl | h
      · exact ⟨i0, i1⟩
      · exact o2 o h
theorem ok_wsome_octets {size : Int} (h0 : 0 ≤ size) (h1 : size ≤ 65536) (cs : List Cell) (s : Strm) (r : Nat) (b : Bud s (2 * size.toNat + r)) : ∃ (os : List Int) (s' : Strm), f_wsome_octets .strm (.int size) ⟨cs, s⟩ = .ok (os.map D.int) ⟨cs, s'⟩ ∧ (os.length : Int) = size ∧ (∀ o ∈ os, 0 ≤ o ∧ o ≤ 255) ∧ Bud s' r := by
  have rg : rng1 (.int size) = M.pure ((List.range size.toNat).map fun (i : Nat) => D.int i) := ok_rng1 h0 (by omega)
  obtain ⟨os, s', e, l, o, b'⟩ := woct_loop ((List.range size.toNat).map fun (i : Nat) => D.int i) cs s r (by rw [List.length_map, List.length_range]; exact b)
  rw [List.length_map, List.length_range] at l
  refine ⟨os, s', ?_, by omega, o, b'⟩
  unfold f_wsome_octets
  have e : mapXC woctF _ ⟨cs, s⟩ = _ := e
  refine finN_frz ?_
  rw [ev_mapX, ev_bind, ev_pure, at_ok, rg, ev_pure, at_ok, if_pos (szOk_le (by rw [List.length_map, List.length_range]; omega)), e]
/-! ### from tuples, lists, numbers -/
theorem oct_f {S : MS} {os : List Int} (ho : ∀ o ∈ os, 0 ≤ o ∧ o ≤ 255) : ∀ d ∈ os.map D.int, (unT (.nm 1) (on1 fun v_thing1 => (callM (ar1 f_checked_octet) [(M.pure v_thing1)])) : D → M D) d S = .ok (id d) S := fun d hd => by
  obtain ⟨i, hi, rfl⟩ := List.mem_map.mp hd
  have oc := octet_ok (S := S) (ho i hi).1 (ho i hi).2
  generalize f_checked_octet = fo at oc ⊢
  rw [ev_unN, ev_on1, ev_call, ev_args1, ev_pure, at_ok, ev_args0, at_ok, at_ok, ev_ar1, oc]
  rfl
theorem octs_seq {S : MS} {x : D} {os : List Int} (hx : x = .lst (os.map D.int) ∨ x = .tup (os.map D.int)) (ho : ∀ o ∈ os, 0 ≤ o ∧ o ≤ 255) (hl : os.length ≤ 1000) : f_octets_ofN x S = .ok (os.map D.int) S := by
  unfold f_octets_ofN
  refine finN_frz ?_
  have hs := mapRC_same (c := fun _ => True) (f := unT (.nm 1) (on1 fun v_thing1 => (callM (ar1 f_checked_octet) [(M.pure v_thing1)]))) (g := id) (S := S) trivial (os.map D.int) (oct_f ho)
  rw [List.map_id] at hs
  rcases hx with rfl | rfl
  · unfold mapR
    rw [ev_bind, ev_bind, ev_pure, at_ok, show itemsR (.lst (os.map D.int)) = M.pure (os.map D.int, fun _ => True) from rfl, ev_pure, at_ok, ev_gd, if_pos (szOk_le (by rw [List.length_map]; omega))]
    exact hs
  · unfold mapR
    rw [ev_bind, ev_bind, ev_pure, at_ok, show itemsR (.tup (os.map D.int)) = M.pure (os.map D.int, fun _ => True) from rfl, ev_pure, at_ok, ev_gd, if_pos (szOk_le (by rw [List.length_map]; omega))]
    exact hs
theorem int_seq {x : D} {ds : List D} (hx : x = .lst ds ∨ x = .tup ds) (S : MS) : f_is_integer x S = .ok (.bl false) S := by
  rcases hx with rfl | rfl <;> rfl
theorem src_seq {S : MS} {x : D} {os : List Int} (hx : x = .lst (os.map D.int) ∨ x = .tup (os.map D.int)) (ho : ∀ o ∈ os, 0 ≤ o ∧ o ≤ 255) (hl : os.length ≤ 1000) : srcM x S = .ok (os.map D.int) S := by
  have ii := int_seq hx S
  have oc := octs_seq (S := S) hx ho hl
  unfold srcM
  generalize f_is_integer = fi at ii ⊢
  generalize f_octets_ofN = fo at oc ⊢
  rw [ev_ifM, ev_tst, ev_call, ev_args1, ev_pure, at_ok, ev_args0, at_ok, at_ok, ev_ar1, ii, at_ok, asB_bl, ev_pure, at_ok, if_neg (by decide), ev_bind, ev_args1, ev_pure, at_ok, ev_args0, at_ok, at_ok]
  exact oc
theorem rep_zero (n : Nat) : (List.replicate n [D.int 0]).flatten = (List.replicate n (0 : Int)).map D.int := by
  induction n with
  | zero => rfl
  | succ n ih => rw [List.replicate_succ, List.flatten_cons, ih, List.replicate_succ, List.map_cons]; rfl
theorem src_num {S : MS} {n : Int} (n0 : 0 ≤ n) (n1 : n ≤ 1000) : srcM (.int n) S = .ok ((List.replicate n.toNat (0 : Int)).map D.int) S := by
  have ii := is_int (i := n) (S := S)
  have l0 : (lstM [(M.pure (D.int 0))]) S = .ok [D.int 0] S := rfl
  unfold srcM
  generalize f_is_integer = fi at ii ⊢
  rw [ev_ifM, ev_tst, ev_call, ev_args1, ev_pure, at_ok, ev_args0, at_ok, at_ok, ev_ar1, ii, at_ok, asB_bl, ev_pure, at_ok, if_pos rfl, ← rep_zero]
  unfold repM
  rw [ev_bind, l0, at_ok, ev_bind, ev_pure, at_ok]
  show gd (decide (-(2 ^ 63) ≤ n) && decide (n < 2 ^ 63) && szOk (1 * n.toNat)) (M.pure (List.replicate n.toNat [D.int 0]).flatten) S = _
  rw [decide_eq_true (by omega), decide_eq_true (by omega), szOk_le (by omega)]
  rfl
section
variable {cs : List Cell} {s : Strm} {m l : Nat} {os : List Int}
/-- the octets, in a new list -/
theorem octs_n (h : MM cs m l os) : (methN "Memory" "octets" (ar1N f_Memory_octets) (M.pure (.ptr m)) []) ⟨cs, s⟩ = .ok (os.map D.int) ⟨cs, s⟩ := by
  have tl : (toList (una (dFld "Memory" "octet_rows") (M.pure (.ptr m)))) ⟨cs, s⟩ = .ok (os.map D.int) ⟨cs, s⟩ := by
    unfold toList
    rw [ev_bind, ev_una, ev_pure, at_ok, m_rows h, at_ok, ev_bind, m_seq h.hl, at_ok, ev_pure]
  have mo : f_Memory_octets (.ptr m) ⟨cs, s⟩ = .ok (os.map D.int) ⟨cs, s⟩ := by
    unfold f_Memory_octets
    exact finN_frz tl
  generalize f_Memory_octets = fm at mo ⊢
  rw [ev_methN0, ev_pure, at_ok, m_isA2 h, at_ok]
  exact mo
theorem octs_d (h : MM cs m l os) : (frz (methN "Memory" "octets" (ar1N f_Memory_octets) (M.pure (.ptr m)) [])) ⟨cs, s⟩ = .ok (.lst (os.map D.int)) ⟨cs, s⟩ := by
  rw [ev_frz, octs_n h, at_ok]
theorem octs_b (h : MM cs m l os) : (boxM (methN "Memory" "octets" (ar1N f_Memory_octets) (M.pure (.ptr m)) [])) ⟨cs, s⟩ = .ok (.ptr cs.length) ⟨cs ++ [.lst (os.map D.int)], s⟩ := by
  unfold boxM
  rw [ev_bind, octs_n h, at_ok]
theorem len_m (h : MM cs m l os) (hl : os.length ≤ 1000) : (lenOM "Memory" (ar1 f_Memory_len) [(M.pure (.ptr m))]) ⟨cs, s⟩ = .ok (.int os.length) ⟨cs, s⟩ := by
  have ln := m_len (s := s) h.hl
  rw [List.length_map] at ln
  have e : f_Memory_len (.ptr m) ⟨cs, s⟩ = .ok (.int os.length) ⟨cs, s⟩ := by
    unfold f_Memory_len
    rw [ev_fin, ev_ret, ev_call, ev_args1, ev_una, ev_pure, at_ok, m_rows h, at_ok, ev_args0, at_ok, at_ok, ev_ar1, ln, at_ok]
    rfl
  generalize f_Memory_len = fl at e ⊢
  unfold lenOM
  rw [ev_bind, ev_args1, ev_pure, at_ok, ev_args0, at_ok, at_ok]
  show ((isIns "Memory" (.ptr m)).bind fun _ => (calmM (fl (.ptr m))).bind lenV) ⟨cs, s⟩ = _
  rw [ev_bind, m_isI h, at_ok, ev_bind, ev_calm e, at_ok]
  show Dl.guard (decide (0 ≤ (os.length : Int)) && decide ((os.length : Int) < 2 ^ 63)) (M.pure (.int os.length)) _ = _
  rw [decide_eq_true (by omega), decide_eq_true (by omega)]
  rfl
theorem wsame_ints (hl : os.length ≤ 1000) : f_wsame 8 (.lst (os.map D.int)) (.lst (os.map D.int)) = M.pure (.bl true) := wsame_refl 8 (good_nums (k := 6) (by omega))
/-- what is told first is changed -/
theorem same_b {q : Nat} (hq : cs[q]? = some (.lst (os.map D.int))) (hl : os.length ≤ 1000) : (notT (tst (borrowM (ar2 (f_wsame 8)) [(M.pure (.ptr q)), (M.pure (.lst (os.map D.int)))])) : M Bool) ⟨cs, s⟩ = .ok false ⟨cs, s⟩ := by
  have ws := wsame_ints hl
  have v1 : viewD ⟨cs, s⟩ 64 (.lst (os.map D.int)) = .lst (os.map D.int) := by
    show D.lst ((os.map D.int).map (viewD ⟨cs, s⟩ 63)) = _
    rw [view_nums (k := 62)]
  have v2 : viewD ⟨cs, s⟩ 64 (.ptr q) = .lst (os.map D.int) := by
    show (match cs[q]? with | some (.lst ds) => D.lst (ds.map (viewD ⟨cs, s⟩ 63)) | some (.dic kvs) => _ | some (.ins c fs) => _ | _ => _) = _
    rw [hq]
    show D.lst ((os.map D.int).map (viewD ⟨cs, s⟩ 63)) = _
    rw [view_nums (k := 62)]
  have b : (borrowM (ar2 (f_wsame 8)) [(M.pure (.ptr q)), (M.pure (.lst (os.map D.int)))]) ⟨cs, s⟩ = .ok (.bl true) ⟨cs, s⟩ := by
    unfold borrowM
    generalize f_wsame 8 = fs at ws ⊢
    rw [ev_bind, ev_args1, ev_pure, at_ok, ev_args1, ev_pure, at_ok, ev_args0, at_ok, at_ok, at_ok]
    show (match ar2 fs [viewD ⟨cs, s⟩ 64 (.ptr q), viewD ⟨cs, s⟩ 64 (.lst (os.map D.int))] (MS.outs ⟨cs, s⟩) with | .ok d S2 => if d.thin = true then _ else _ | _ => _) = _
    rw [v1, v2, ev_ar2, ws, ev_pure]
    rfl
  rw [ev_notT, ev_tst, b]
  rfl
theorem same_d {ma mb : M D} (h1 : ma ⟨cs, s⟩ = .ok (.lst (os.map D.int)) ⟨cs, s⟩) (h2 : mb ⟨cs, s⟩ = .ok (.lst (os.map D.int)) ⟨cs, s⟩) (hl : os.length ≤ 1000) : (notT (tst (callM (ar2 (f_wsame 8)) [ma, mb])) : M Bool) ⟨cs, s⟩ = .ok false ⟨cs, s⟩ := by
  have ws := wsame_ints hl
  generalize f_wsame 8 = fs at ws ⊢
  rw [ev_notT, ev_tst, ev_call, ev_args1, h1, at_ok, ev_args1, h2, at_ok, ev_args0, at_ok, at_ok, at_ok, ev_ar2, ws]
  rfl
end
/-! ### what is refused -/
abbrev oddL : List D := [.int 256, .int (-1), .int (64 * 2 ^ 64), .int (-64 * 2 ^ 64), .bl true, .bl false, .non, .str "1", .str "", .lst [.int 1], .tup [], .dic [] [], .int 300]
theorem odd_ok {x : D} (h : x ∈ oddL) : (∃ t, OddT x t) ∧ ∀ S, f_checked_octet x S = .err ⟨"BadOctet", "value", x⟩ S := by
  simp only [oddL, List.mem_cons, List.not_mem_nil, or_false] at h
  rcases h with h | h | h | h | h | h | h | h | h | h | h | h | h <;> subst h
  · exact ⟨oddT_flat (fun S => rfl) (by decide +kernel), fun S => octet_bad (.inl ⟨_, rfl, .inr (by decide)⟩)⟩
  · exact ⟨oddT_flat (fun S => rfl) (by decide +kernel), fun S => octet_bad (.inl ⟨_, rfl, .inl (by decide)⟩)⟩
  · exact ⟨oddT_flat (fun S => rfl) (by decide +kernel), fun S => octet_bad (.inl ⟨_, rfl, .inr (by decide)⟩)⟩
  · exact ⟨oddT_flat (fun S => rfl) (by decide +kernel), fun S => octet_bad (.inl ⟨_, rfl, .inl (by decide)⟩)⟩
  · exact ⟨oddT_flat (fun S => rfl) (by decide +kernel), fun S => octet_bad (.inr rfl)⟩
  · exact ⟨oddT_flat (fun S => rfl) (by decide +kernel), fun S => octet_bad (.inr rfl)⟩
  · exact ⟨oddT_flat (fun S => rfl) (by decide +kernel), fun S => octet_bad (.inr rfl)⟩
  · exact ⟨oddT_flat (fun S => rfl) (by decide +kernel), fun S => octet_bad (.inr rfl)⟩
  · exact ⟨oddT_flat (fun S => rfl) (by decide +kernel), fun S => octet_bad (.inr rfl)⟩
  · exact ⟨oddT_flat (fun S => rfl) (by decide +kernel), fun S => octet_bad (.inr rfl)⟩
  · exact ⟨oddT_flat (fun S => rfl) (by decide +kernel), fun S => octet_bad (.inr rfl)⟩
  · exact ⟨⟨"{}", fun S => rfl, by decide +kernel⟩, fun S => octet_bad (.inr rfl)⟩
  · exact ⟨oddT_flat (fun S => rfl) (by decide +kernel), fun S => octet_bad (.inl ⟨_, rfl, .inr (by decide)⟩)⟩
theorem octs_err {S : MS} {os : List Int} {x : D} {post : List D} (ho : ∀ o ∈ os, 0 ≤ o ∧ o ≤ 255) (hl : os.length + post.length ≤ 1000) (hx : f_checked_octet x S = .err ⟨"BadOctet", "value", x⟩ S) : f_octets_ofN (.lst (os.map D.int ++ x :: post)) S = .err ⟨"BadOctet", "value", x⟩ S := by
  have xe : (unT (.nm 1) (on1 fun v_thing1 => (callM (ar1 f_checked_octet) [(M.pure v_thing1)])) : D → M D) x S = .err ⟨"BadOctet", "value", x⟩ S := by
    generalize f_checked_octet = fo at hx ⊢
    rw [ev_unN, ev_on1, ev_call, ev_args1, ev_pure, at_ok, ev_args0, at_ok, at_ok, ev_ar1, hx]
  have hs := mapRC_err (c := fun _ => True) (f := unT (.nm 1) (on1 fun v_thing1 => (callM (ar1 f_checked_octet) [(M.pure v_thing1)]))) (g := id) (S := S) (post := post) trivial xe (os.map D.int) (oct_f ho)
  unfold f_octets_ofN finN
  rw [ev_bind, ev_ret, ev_frz]
  unfold mapR
  rw [ev_bind, ev_bind, ev_pure, at_ok, show itemsR (.lst (os.map D.int ++ x :: post)) = M.pure (os.map D.int ++ x :: post, fun _ => True) from rfl, ev_pure, at_ok, ev_gd, if_pos (szOk_le (by rw [List.length_append, List.length_map, List.length_cons]; omega)), hs]
  rfl
theorem mem_err {cs : List Cell} {s : Strm} {os : List Int} {x : D} {post : List D} (ho : ∀ o ∈ os, 0 ≤ o ∧ o ≤ 255) (hl : os.length + post.length ≤ 1000) (hx : f_checked_octet x ⟨cs ++ [.ins "Memory" []], s⟩ = .err ⟨"BadOctet", "value", x⟩ ⟨cs ++ [.ins "Memory" []], s⟩) : (newM "Memory" (ar2 f_Memory_init) [(M.pure (.lst (os.map D.int ++ x :: post)))]) ⟨cs, s⟩ = .err ⟨"BadOctet", "value", x⟩ ⟨cs ++ [.ins "Memory" []], s⟩ := by
  have ii : f_is_integer (.lst (os.map D.int ++ x :: post)) ⟨cs ++ [.ins "Memory" []], s⟩ = .ok (.bl false) ⟨cs ++ [.ins "Memory" []], s⟩ := int_seq (.inl rfl) _
  have oe := octs_err (os := os) (x := x) (post := post) ho hl hx
  have e : f_Memory_init (.ptr cs.length) (.lst (os.map D.int ++ x :: post)) ⟨cs ++ [.ins "Memory" []], s⟩ = .err ⟨"BadOctet", "value", x⟩ ⟨cs ++ [.ins "Memory" []], s⟩ := by
    unfold f_Memory_init boxM
    generalize f_is_integer = fi at ii ⊢
    generalize f_octets_ofN = fo at oe ⊢
    rw [ev_fin, ev_bind, ev_bind, ev_ifM, ev_tst, ev_call, ev_args1, ev_pure, at_ok, ev_args0, at_ok, at_ok, ev_ar1, ii, at_ok, asB_bl, ev_pure, at_ok, if_neg (by decide), ev_bind, ev_args1, ev_pure, at_ok, ev_args0, at_ok, at_ok]
    show ((((fo (.lst (os.map D.int ++ x :: post))) ⟨cs ++ [.ins "Memory" []], s⟩).andThen _).andThen _).andThen _ = _
    rw [oe]
    rfl
  unfold newM
  rw [ev_bind, ev_args1, ev_pure, at_ok, ev_args0, at_ok, at_ok]
  show (match f_Memory_init (.ptr cs.length) (.lst (os.map D.int ++ x :: post)) ⟨cs ++ [.ins "Memory" []], s⟩ with
    | .ok .non S' => Res.ok (D.ptr cs.length) S'
    | .ok _ _ => .bad
    | .err e S' => .err e S'
    | .bad => .bad) = _
  rw [e]
end Lw
/-! the law of memories made -/
namespace Lw
open PySem L2 Dl Xl
theorem flats_of : ∀ ds : List D, (∀ d ∈ ds, d.flat = true) → D.flats ds = true
  | [], _ => rfl
  | d :: ds, h => by
    rw [D.flats, h d List.mem_cons_self, flats_of ds fun x hx => h x (List.mem_cons_of_mem _ hx)]
    rfl
theorem lays_of : ∀ ds : List D, (∀ d ∈ ds, d.toPy.canLay0 = true) → PyData.canLayAll0 (D.toPys ds) = true
  | [], _ => by rw [D.toPys, PyData.canLayAll0]
  | d :: ds, h => by
    rw [D.toPys, PyData.canLayAll0, h d List.mem_cons_self, lays_of ds fun x hx => h x (List.mem_cons_of_mem _ hx)]
    rfl
theorem deps_of {n : Nat} : ∀ ds : List D, (∀ d ∈ ds, d.toPy.depth ≤ n) → PyData.depthAll (D.toPys ds) ≤ n
  | [], _ => by rw [D.toPys, PyData.depthAll]; exact Nat.zero_le _
  | d :: ds, h => by
    rw [D.toPys, PyData.depthAll]
    have h1 := h d List.mem_cons_self
    have h2 := deps_of ds fun x hx => h x (List.mem_cons_of_mem _ hx)
    omega
theorem eqvs_of : ∀ ds : List D, (∀ d ∈ ds, PyData.eqv d.toPy d.toPy = true) → PyData.eqvAll (D.toPys ds) (D.toPys ds) = true
  | [], _ => by rw [D.toPys, PyData.eqvAll]
  | d :: ds, h => by
    rw [D.toPys, PyData.eqvAll, h d List.mem_cons_self, eqvs_of ds fun x hx => h x (List.mem_cons_of_mem _ hx)]
    rfl
theorem good_all : ∀ (n : Nat) {d : D}, Good (n + 1) d → d.flat = true ∧ d.toPy.canLay0 = true ∧ d.toPy.depth ≤ n + 1 ∧ PyData.eqv d.toPy d.toPy = true := by
  intro n
  induction n with
  | zero =>
    intro d h
    cases h with
    | non => exact ⟨rfl, by rw [D.toPy, PyData.canLay0], by rw [D.toPy, PyData.depth]; exact Nat.zero_le _, by rw [D.toPy, PyData.eqv]⟩
    | bl b => exact ⟨rfl, by rw [D.toPy, PyData.canLay0], by rw [D.toPy, PyData.depth]; exact Nat.zero_le _, by rw [D.toPy, PyData.eqv]; simp⟩
    | int i => exact ⟨rfl, by rw [D.toPy, PyData.canLay0], by rw [D.toPy, PyData.depth]; exact Nat.zero_le _, by rw [D.toPy, PyData.eqv]; simp⟩
    | str x h =>
      have := (plain_of h).2
      unfold SeqAt.shaped at this
      exact ⟨rfl, (Bool.and_eq_true_iff.mp this).1, by rw [D.toPy, PyData.depth]; exact Nat.zero_le _, by rw [D.toPy, PyData.eqv]; simp⟩
    | lst ds h t =>
      have e : ds = [] := by
        cases ds with
        | nil => rfl
        | cons d ds => exact absurd (t d List.mem_cons_self) (fun z => by cases z)
      subst e
      exact ⟨rfl, by rw [D.toPy, D.toPys, PyData.canLay0, PyData.canLayAll0], by rw [D.toPy, D.toPys, PyData.depth, PyData.depthAll]; exact Nat.le_refl _, by rw [D.toPy, D.toPys, PyData.eqv, PyData.eqvAll]⟩
    | tup ds h t =>
      have e : ds = [] := by
        cases ds with
        | nil => rfl
        | cons d ds => exact absurd (t d List.mem_cons_self) (fun z => by cases z)
      subst e
      exact ⟨rfl, by rw [D.toPy, D.toPys, PyData.canLay0, PyData.canLayAll0], by rw [D.toPy, D.toPys, PyData.depth, PyData.depthAll]; exact Nat.le_refl _, by rw [D.toPy, D.toPys, PyData.eqv, PyData.eqvAll]⟩
  | succ n ih =>
    intro d h
    cases h with
    | non => exact ⟨rfl, by rw [D.toPy, PyData.canLay0], by rw [D.toPy, PyData.depth]; exact Nat.zero_le _, by rw [D.toPy, PyData.eqv]⟩
    | bl b => exact ⟨rfl, by rw [D.toPy, PyData.canLay0], by rw [D.toPy, PyData.depth]; exact Nat.zero_le _, by rw [D.toPy, PyData.eqv]; simp⟩
    | int i => exact ⟨rfl, by rw [D.toPy, PyData.canLay0], by rw [D.toPy, PyData.depth]; exact Nat.zero_le _, by rw [D.toPy, PyData.eqv]; simp⟩
    | str x h =>
      have := (plain_of h).2
      unfold SeqAt.shaped at this
      exact ⟨rfl, (Bool.and_eq_true_iff.mp this).1, by rw [D.toPy, PyData.depth]; exact Nat.zero_le _, by rw [D.toPy, PyData.eqv]; simp⟩
    | lst ds h t =>
      refine ⟨?_, ?_, ?_, ?_⟩
      · rw [D.flat]; exact flats_of ds fun d hd => (ih (t d hd)).1
      · rw [D.toPy, PyData.canLay0]; exact lays_of ds fun d hd => (ih (t d hd)).2.1
      · rw [D.toPy, PyData.depth]; have := deps_of (n := n + 1) ds fun d hd => (ih (t d hd)).2.2.1; omega
      · rw [D.toPy, PyData.eqv]; exact eqvs_of ds fun d hd => (ih (t d hd)).2.2.2
    | tup ds h t =>
      refine ⟨?_, ?_, ?_, ?_⟩
      · rw [D.flat]; exact flats_of ds fun d hd => (ih (t d hd)).1
      · rw [D.toPy, PyData.canLay0]; exact lays_of ds fun d hd => (ih (t d hd)).2.1
      · rw [D.toPy, PyData.depth]; have := deps_of (n := n + 1) ds fun d hd => (ih (t d hd)).2.2.1; omega
      · rw [D.toPy, PyData.eqv]; exact eqvs_of ds fun d hd => (ih (t d hd)).2.2.2
theorem good_up : ∀ {n : Nat} {d : D}, Good n d → Good (n + 1) d := by
  intro n d h
  induction h with
  | non => exact .non
  | bl b => exact .bl b
  | int i => exact .int i
  | str x h => exact .str x h
  | lst ds h t ih => exact .lst ds h ih
  | tup ds h t ih => exact .tup ds h ih
theorem good_le {n m : Nat} {d : D} (h : Good n d) (l : n ≤ m) : Good m d := by
  induction l with
  | refl => exact h
  | step _ ih => exact good_up ih
theorem good_plain {n : Nat} {d : D} (h : Good n d) (hn : n ≤ 60) : d.plain = true ∧ PyData.eqv d.toPy d.toPy = true := by
  have g := good_all 60 (good_le h (by omega))
  refine ⟨?_, g.2.2.2⟩
  unfold D.plain SeqAt.shaped
  rw [g.1, g.2.1, decide_eq_true (by omega)]
  rfl
structure Kp (n : Nat) (cs cs' : List Cell) : Prop where
  len : cs.length ≤ cs'.length
  kept : ∀ i, i < n → cs'[i]? = cs[i]?
theorem Kp.refl {n : Nat} {cs : List Cell} : Kp n cs cs := ⟨Nat.le_refl _, fun _ _ => rfl⟩
theorem Kp.trans {n : Nat} {a b c : List Cell} (h : Kp n a b) (g : Kp n b c) : Kp n a c := ⟨Nat.le_trans h.len g.len, fun i hi => (g.kept i hi).trans (h.kept i hi)⟩
theorem Kp.le {n m : Nat} {a b : List Cell} (h : Kp n a b) (l : m ≤ n) : Kp m a b := ⟨h.len, fun i hi => h.kept i (by omega)⟩
theorem Kp.put {n t : Nat} {cs : List Cell} {c : Cell} (h : n ≤ t) : Kp n cs (cs.set t c) := ⟨by rw [List.length_set]; exact Nat.le_refl _, fun i hi => List.getElem?_set_ne (by omega)⟩
theorem Kp.app {n : Nat} {cs ds : List Cell} (h : n ≤ cs.length) : Kp n cs (cs ++ ds) := ⟨by rw [List.length_append]; omega, fun i hi => List.getElem?_append_left (by omega)⟩
theorem MM.kept {n : Nat} {cs cs' : List Cell} {m l : Nat} {os : List Int} (h : MM cs m l os) (kp : Kp n cs cs') (hm : m < n) (hl : l < n) : MM cs' m l os := ⟨(kp.kept _ hm).trans h.hm, (kp.kept _ hl).trans h.hl⟩
theorem app_at {cs : List Cell} {x : Cell} {xs : List Cell} : (cs ++ x :: xs)[cs.length]? = some x := by
  rw [List.getElem?_append_right (Nat.le_refl _), Nat.sub_self]
  rfl
theorem app_at1 {cs : List Cell} {x y : Cell} : (cs ++ [x, y])[cs.length + 1]? = some y := by
  rw [List.getElem?_append_right (by omega), Nat.add_sub_cancel_left]
  rfl
theorem new_mm {cs : List Cell} {os : List Int} : MM (cs ++ [memC (cs.length + 1), .lst (os.map D.int)]) cs.length (cs.length + 1) os := ⟨app_at, app_at1⟩
/-- the memory of what an expression gives -/
theorem new_arg {c : Str} {g : List D → M D} {ma : M D} {x : D} {S S1 : MS} (h : ma S = .ok x S1) : newM c g [ma] S = newM c g [M.pure x] S1 := by
  unfold newM
  rw [ev_bind, ev_bind, ev_args1, h, at_ok, ev_args0, at_ok, at_ok, ev_args1, ev_pure, at_ok, ev_args0, at_ok, at_ok]
/-! ### what is refused -/
theorem bad_loop : ∀ (ds : List D) (cs : List Cell) (s : Strm) (r : Nat), Bud s (ds.length + r) → ∃ (bs : List D) (s' : Strm), mapXC (unT (.nm 7) (on1 fun v_k4 => (callM (ar2 f_pick) [(M.pure .strm), (M.pure (.lst oddL))]))) ds ⟨cs, s⟩ = .ok bs ⟨cs, s'⟩ ∧ bs.length = ds.length ∧ (∀ x ∈ bs, x ∈ oddL) ∧ Bud s' r
  | [], cs, s, r, b => ⟨[], s, rfl, rfl, fun x h => (nomatch h), by simpa using b⟩
  | d :: ds, cs, s, r, b => by
    rw [List.length_cons] at b
    obtain ⟨x, s1, e1, q1, b1⟩ := drw_pick pk (ds := oddL) (by show (0 : Nat) < 13; decide) (by show (13 : Nat) < 1048576; decide) cs s (ds.length + r) (b.le (by omega))
    obtain ⟨bs, s2, e2, l2, o2, b2⟩ := bad_loop ds cs s1 r b1
    refine ⟨x :: bs, s2, ?_, by rw [List.length_cons, l2, List.length_cons], fun y h => ?_, b2⟩
    · rw [ev_map1, ev_unN, ev_on1, pick_c e1, at_ok, e2]
      rfl
    · rcases List.mem_cons.mp h with rfl | h
      · exact q1
      · exact o2 y h
theorem ok_isref {cs : List Cell} {s : Strm} {r : Nat} (bu : Bud s (20 + r)) : ∃ cs' s', f_wis_refused .strm ⟨cs, s⟩ = .ok (.bl true) ⟨cs', s'⟩ ∧ Kp cs.length cs cs' ∧ Bud s' r := by
  obtain ⟨d1, s1, e1, ⟨w, rfl, w0, w1⟩, b1⟩ := drw_draw (k := 6) (by decide) (by decide) cs s (19 + r) (bu.le (by omega))
  obtain ⟨os, s2, e2, l2, o2, b2⟩ := ok_wsome_octets (size := w) w0 (by omega) cs s1 (8 + r) (b1.le (by omega))
  obtain ⟨d3, s3, e3, ⟨c, rfl, c0, c1⟩, b3⟩ := drw_draw (k := 3) (by decide) (by decide) cs s2 (7 + r) (b2.le (by omega))
  have kl : ((List.range (1 + c).toNat).map fun (i : Nat) => D.int i).length = (1 + c).toNat := by rw [List.length_map, List.length_range]
  obtain ⟨bs, s4, e4, l4, o4, b4⟩ := bad_loop ((List.range (1 + c).toNat).map fun (i : Nat) => D.int i) cs s3 (4 + r) (b3.le (by rw [kl]; omega))
  rw [kl] at l4
  obtain ⟨b0, bt, rfl⟩ : ∃ b0 bt, bs = b0 :: bt := by
    cases bs with
    | nil => rw [List.length_nil] at l4; omega
    | cons b0 bt => exact ⟨b0, bt, rfl⟩
  obtain ⟨d5, s5, e5, ⟨a, rfl, a0, a1⟩, b5⟩ := drw_draw (k := (os.length : Int) + 1) (by omega) (by omega) cs s4 (3 + r) (b4.le (by omega))
  obtain ⟨⟨t, ot⟩, ob⟩ := odd_ok (o4 b0 List.mem_cons_self)
  refine ⟨cs ++ [.ins "Memory" []], s5, ?_, Kp.app (Nat.le_refl _), b5.le (by omega)⟩
  have z1 : szOk 1 = true := by decide
  have z2 : szOk 2 = true := by decide
  have od : ∀ S : MS, (frz (lstM [(M.pure (D.int 256)), (una dNeg (M.pure (D.int 1))), (bin dMul (M.pure (D.int 64)) (bin dPow (M.pure (D.int 2)) (M.pure (D.int 64)))), (bin dMul (una dNeg (M.pure (D.int 64))) (bin dPow (M.pure (D.int 2)) (M.pure (D.int 64)))), (M.pure (D.bl true)), (M.pure (D.bl false)), (M.pure D.non), (M.pure (D.str "1")), (M.pure (D.str "")), (frz (lstM [(M.pure (D.int 1))])), (tupM []), (frzD (M.pure [])), (M.pure (D.int 300))])) S = .ok (.lst oddL) S := fun S => rfl
  have p2 : (frz ((argsM [(M.pure .strm), (callM (ar2 f_draw) [(M.pure .strm), (M.pure (D.int 6))])]).bind (ar2N f_wsome_octets))) ⟨cs, s⟩ = .ok (.lst (os.map D.int)) ⟨cs, s2⟩ := by
    have dr := drw_c e1
    generalize f_wsome_octets = fo at e2 ⊢
    rw [ev_frz, ev_bind, ev_args1, ev_pure, at_ok, ev_args1, dr, at_ok, ev_args0, at_ok, at_ok, at_ok]
    have e2 : (ar2N fo [D.strm, .int w]) ⟨cs, s1⟩ = _ := e2
    rw [e2, at_ok]
  have p3 : (mapX (M.bind (bin dAdd (M.pure (D.int 1)) (callM (ar2 f_draw) [(M.pure .strm), (M.pure (D.int 3))])) rng1) (unT (.nm 7) (on1 fun v_k4 => (callM (ar2 f_pick) [(M.pure .strm), (M.pure (.lst oddL))])))) ⟨cs, s2⟩ = .ok (b0 :: bt) ⟨cs, s4⟩ := by
    have ad : dAdd (.int 1) (.int c) = M.pure (.int (1 + c)) := rfl
    rw [ev_mapX, ev_bind, ev_bin, ev_pure, at_ok, drw_c e3, at_ok, ad, ev_pure, at_ok, ok_rng1 (by omega) (by omega), ev_pure, at_ok, if_pos (szOk_le (by rw [kl]; omega)), e4]
  have p5 : (argsM [(callM (ar2 f_draw) [(M.pure .strm), (bin dAdd (callM (ar1 dLen) [(M.pure (.lst (os.map D.int)))]) (M.pure (D.int 1)))]), (M.pure D.non)]) ⟨cs, s4⟩ = .ok [.int a, .non] ⟨cs, s5⟩ := by
    have ln : dLen (.lst (os.map D.int)) = M.pure (.int (os.length : Nat)) := by
      show M.pure (D.int ((os.map D.int).length : Nat)) = _
      rw [List.length_map]
    have ar : (bin dAdd (callM (ar1 dLen) [(M.pure (.lst (os.map D.int)))]) (M.pure (D.int 1))) ⟨cs, s4⟩ = .ok (.int ((os.length : Int) + 1)) ⟨cs, s4⟩ := by
      rw [ev_bin, ev_call, ev_args1, ev_pure, at_ok, ev_args0, at_ok, at_ok, ev_ar1, ln, ev_pure, at_ok]
      rfl
    rw [ev_args1, drw_e ar e5, at_ok, ev_args1, ev_pure, at_ok, ev_args0, at_ok, at_ok]
  -- the list that is passed
  have c1' : dCut (.lst (os.map D.int)) none (some a) = M.pure (.lst ((os.take a.toNat).map D.int)) := by
    show M.pure (D.lst (cutD (os.map D.int) none (some a))) = _
    rw [cut_to a0 (by rw [List.length_map]; omega), List.map_take]
  have c2' : dCut (.lst (os.map D.int)) (some a) none = M.pure (.lst ((os.drop a.toNat).map D.int)) := by
    show M.pure (D.lst (cutD (os.map D.int) (some a) none)) = _
    rw [cut_from a0 (by rw [List.length_map]; omega), List.map_drop]
  have tl : (os.take a.toNat).length ≤ 6 := by rw [List.length_take]; omega
  have dl : (os.drop a.toNat).length ≤ 6 := by rw [List.length_drop]; omega
  have bl : bt.length ≤ 3 := by rw [List.length_cons] at l4; omega
  have a1' : dAdd (.lst ((os.take a.toNat).map D.int)) (.lst (b0 :: bt)) = M.pure (.lst ((os.take a.toNat).map D.int ++ b0 :: bt)) := by
    show Dl.guard (szOk _) _ = _
    rw [szOk_le (by rw [List.length_map, List.length_cons]; omega)]
    rfl
  have a2' : dAdd (.lst ((os.take a.toNat).map D.int ++ b0 :: bt)) (.lst ((os.drop a.toNat).map D.int)) = M.pure (.lst ((os.take a.toNat).map D.int ++ b0 :: (bt ++ (os.drop a.toNat).map D.int))) := by
    show Dl.guard (szOk _) _ = _
    rw [szOk_le (by rw [List.length_append, List.length_map, List.length_cons, List.length_map]; omega), List.append_assoc]
    rfl
  have pl : (bin dAdd (bin dAdd (sliceM (M.pure (.lst (os.map D.int))) (partM none) (partM (some (M.pure (.int a))))) (M.pure (D.lst (b0 :: bt)))) (sliceM (M.pure (.lst (os.map D.int))) (partM (some (M.pure (.int a)))) (partM none))) ⟨cs, s5⟩ = .ok (.lst ((os.take a.toNat).map D.int ++ b0 :: (bt ++ (os.drop a.toNat).map D.int))) ⟨cs, s5⟩ := by
    rw [ev_bin, ev_bin, ev_slice, ev_pure, at_ok, ev_part0, at_ok, ev_part1, ev_pure, at_ok, partI_int, ev_pure, at_ok, c1', ev_pure, at_ok, ev_pure, at_ok, a1', ev_pure, at_ok, ev_slice, ev_pure, at_ok, ev_part1, ev_pure, at_ok, partI_int, ev_pure, at_ok, ev_part0, at_ok, c2', ev_pure, at_ok, a2', ev_pure]
  have me := mem_err (cs := cs) (s := s5) (os := os.take a.toNat) (x := b0) (post := bt ++ (os.drop a.toNat).map D.int) (fun o ho => o2 o (List.mem_of_mem_take ho)) (by rw [List.length_append, List.length_map]; omega) (ob _)
  have tb : (M.bind (newM "Memory" (ar2 f_Memory_init) [(bin dAdd (bin dAdd (sliceM (M.pure (.lst (os.map D.int))) (partM none) (partM (some (M.pure (.int a))))) (M.pure (D.lst (b0 :: bt)))) (sliceM (M.pure (.lst (os.map D.int))) (partM (some (M.pure (.int a)))) (partM none)))]) fun _ => (M.pure (.nx D.non)) : M (Fl D Empty)) ⟨cs, s5⟩ = .err ⟨"BadOctet", "value", b0⟩ ⟨cs ++ [.ins "Memory" []], s5⟩ := by
    rw [ev_bind, new_arg pl, me, at_err]
  have th : calmM (M.bind (tupM [(callM (ar1 dReprE) [(M.pure b0)]), (M.pure (D.bl true))]) fun v_found9 => (M.pure (.nx v_found9)) : M (Fl D Empty)) ⟨cs ++ [.ins "Memory" []], s5⟩ = .ok (.nx (.tup [.str t, .bl true])) ⟨cs ++ [.ins "Memory" []], s5⟩ := ev_calm (by
    rw [ev_bind, ev_tup, ev_args1, ev_call, ev_args1, ev_pure, at_ok, ev_args0, at_ok, at_ok, ev_ar1, ot.rp, at_ok, ev_args1, ev_pure, at_ok, ev_args0, at_ok, at_ok, at_ok, if_pos (by exact z2), at_ok, ev_pure])
  have tr : (tryM "BadOctet" "value" [] (M.bind (newM "Memory" (ar2 f_Memory_init) [(bin dAdd (bin dAdd (sliceM (M.pure (.lst (os.map D.int))) (partM none) (partM (some (M.pure (.int a))))) (M.pure (D.lst (b0 :: bt)))) (sliceM (M.pure (.lst (os.map D.int))) (partM (some (M.pure (.int a)))) (partM none)))]) fun _ => (M.pure (.nx D.non))) (fun v_e8 => (M.bind (tupM [(callM (ar1 dReprE) [(M.pure v_e8)]), (M.pure (D.bl true))]) fun v_found9 => (M.pure (.nx v_found9)))) : M (Fl D Empty)) ⟨cs, s5⟩ = .ok (.nx (.tup [.str t, .bl true])) ⟨cs ++ [.ins "Memory" []], s5⟩ := by
    unfold tryM
    simp only [tb]
    rw [if_pos trivial, if_pos trivial, th]
  have g : Good 2 (.tup [.str t, .bl true]) := .tup _ (by simp) fun d hd => by
    simp only [List.mem_cons, List.not_mem_nil, or_false] at hd
    rcases hd with q | q <;> subst q
    · exact .str t ot.pl
    · exact .bl _
  have gp := good_plain g (by decide)
  have dq : dEq (.tup [.str t, .bl true]) (.tup [.str t, .bl true]) = M.pure (.bl true) := by
    unfold dEq
    rw [gp.1]
    have : (D.tup [.str t, .bl true]).eqv (.tup [.str t, .bl true]) = true := gp.2
    rw [this]
    rfl
  have i0 : ∀ S : MS, (bin dItem (M.pure (D.lst (b0 :: bt))) (M.pure (D.int 0))) S = .ok b0 S := fun S => by
    have : atI (b0 :: bt) 0 = some b0 := at_get (by decide) (by simp)
    show ((asSeq (.lst (b0 :: bt))).bind fun ds => ofOpt (atI ds 0)) S = _
    rw [show asSeq (.lst (b0 :: bt)) = M.pure (b0 :: bt) from rfl, ev_bind, ev_pure, at_ok, this]
    rfl
  have du : (tupM [(callM (ar1 dReprE) [(bin dItem (M.pure (D.lst (b0 :: bt))) (M.pure (D.int 0)))]), (M.pure (D.bl true))]) ⟨cs ++ [.ins "Memory" []], s5⟩ = .ok (.tup [.str t, .bl true]) ⟨cs ++ [.ins "Memory" []], s5⟩ := by
    rw [ev_tup, ev_args1, ev_call, ev_args1, i0, at_ok, ev_args0, at_ok, at_ok, ev_ar1, ot.rp, at_ok, ev_args1, ev_pure, at_ok, ev_args0, at_ok, at_ok, at_ok, if_pos (by exact z2)]
  unfold f_wis_refused
  rw [ev_fin, ev_bind, od, at_ok, ev_bind, p2, at_ok, ev_bind, p3, at_ok, ev_bind, p5, at_ok, ev_on2, ev_then, tr, at_ok, thR_nx, ev_ret, ev_bin, ev_pure, at_ok, du, at_ok, dq]
  rfl
/-! ### the very object -/
theorem very_eq {cs : List Cell} {s : Strm} {q : Nat} (hq : cs[q]? = some (.lst [.int 1, .int 5])) : dEqV (.ptr q) (.ptr q) ⟨cs, s⟩ = .ok (.bl true) ⟨cs, s⟩ := by
  have va : viewD ⟨cs, s⟩ 64 (.ptr q) = .lst [.int 1, .int 5] := by
    show (match cs[q]? with | some (.lst ds) => D.lst (ds.map (viewD ⟨cs, s⟩ 63)) | some (.dic kvs) => _ | some (.ins c fs) => _ | _ => _) = _
    rw [hq]
    rfl
  have p1 : (D.lst [.int 1, .int 5]).plain = true := by decide +kernel
  have p2 : (D.lst [.int 1, .int 5]).eqv (.lst [.int 1, .int 5]) = true := by decide +kernel
  unfold dEqV
  rw [va, p1, p2]
  rfl
theorem is_very {cs : List Cell} {s : Strm} {q : Nat} (hq : cs[q]? = some (.lst [.int 1])) : ∃ cs', f_wis_very (.ptr q) ⟨cs, s⟩ = .ok (.bl true) ⟨cs', s⟩ ∧ (∀ i, i < cs.length → i ≠ q → cs'[i]? = cs[i]?) := by
  have ql : q < cs.length := (List.getElem?_eq_some_iff.mp hq).1
  have hq1 : (cs ++ [Cell.ins "Memory" []])[q]? = some (.lst [.int 1]) := by rw [List.getElem?_append_left ql]; exact hq
  have me := mem_err (cs := cs) (s := s) (os := [0]) (x := .ptr q) (post := []) (fun o ho => by rw [List.mem_singleton.mp ho]; decide) (by simp) (octet_bad (.inr (int_ptr hq1)))
  have z2 : szOk 2 = true := by decide
  have pl : (frz (lstM [(M.pure (D.int 0)), (M.pure (.ptr q))])) (⟨cs, s⟩ : MS) = .ok (.lst (([0] : List Int).map D.int ++ .ptr q :: [])) ⟨cs, s⟩ := rfl
  have tb : (M.bind (newM "Memory" (ar2 f_Memory_init) [(frz (lstM [(M.pure (D.int 0)), (M.pure (.ptr q))]))]) fun _ => (M.pure (.nx D.non)) : M (Fl D Empty)) ⟨cs, s⟩ = .err ⟨"BadOctet", "value", .ptr q⟩ ⟨cs ++ [.ins "Memory" []], s⟩ := by
    rw [ev_bind, new_arg pl, me, at_err]
  generalize hc : cs ++ [Cell.ins "Memory" []] = c1 at hq1 tb
  have th : calmM (M.bind (M.pure (.ptr q)) fun v_found4 => (M.pure (.nx v_found4)) : M (Fl D Empty)) ⟨c1, s⟩ = .ok (.nx (.ptr q)) ⟨c1, s⟩ := ev_calm rfl
  have tr : (tryM "BadOctet" "value" [] (M.bind (newM "Memory" (ar2 f_Memory_init) [(frz (lstM [(M.pure (D.int 0)), (M.pure (.ptr q))]))]) fun _ => (M.pure (.nx D.non))) (fun v_e3 => (M.bind (M.pure v_e3) fun v_found4 => (M.pure (.nx v_found4)))) : M (Fl D Empty)) ⟨cs, s⟩ = .ok (.nx (.ptr q)) ⟨c1, s⟩ := by
    unfold tryM
    simp only [tb]
    rw [if_pos trivial, if_pos trivial, th]
  have ap : appM (M.pure (.ptr q)) (M.pure (D.int 5)) ⟨c1, s⟩ = .ok .non ⟨c1.set q (.lst [.int 1, .int 5]), s⟩ := c_app (ds := [.int 1]) rfl hq1 rfl hq1 (by decide)
  have hq2 : (c1.set q (.lst [.int 1, .int 5]))[q]? = some (.lst [.int 1, .int 5]) := List.getElem?_set_self (List.getElem?_eq_some_iff.mp hq1).1
  have ve := very_eq (s := s) hq2
  refine ⟨c1.set q (.lst [.int 1, .int 5]), ?_, fun i hi hne => ?_⟩
  · unfold f_wis_very
    rw [ev_fin, ev_bind, ev_pure, at_ok, ev_then, tr, at_ok, thR_nx, ev_bind, ap, at_ok, ev_ret, ev_bin, ev_pure, at_ok, ev_pure, at_ok, ve]
    rfl
  · rw [List.getElem?_set_ne (Ne.symm hne), ← hc, List.getElem?_append_left hi]
/-! ### a turn -/
abbrev lB (m : Nat) (os : List Int) (n : Int) : Unit → D → M (Fl Unit Unit) := (fun (_ : Unit) v_again16 => (M.bind (boxM (methN "Memory" "octets" (ar1N f_Memory_octets) (M.pure (.ptr m)) [])) fun v_found17 => (ifM (orT (notT (tst (borrowM (ar2 (f_wsame 8)) [(M.pure v_found17), (M.pure (.lst (os.map D.int)))]))) (notT (tst (callM (ar2 (f_wsame 8)) [(lenOM "Memory" (ar1 f_Memory_len) [(M.pure (.ptr m))]), (M.pure (.int n))])))) (outM (retM (M.pure (D.bl false)))) (M.bind (appM (M.pure v_found17) (M.pure (D.int 1))) fun _ => (M.bind (M.pure (D.int 77)) fun v_v18 => M.bind (M.pure v_found17) fun v_o19 => M.bind (M.pure (D.int 0)) fun v_i20 => M.bind (setI v_o19 v_i20 v_v18) fun _ => (M.pure (.nx ())))))))
theorem one_again {cs : List Cell} {s : Strm} {m l : Nat} {os : List Int} {x : D} (h : MM cs m l os) (hl : os.length ≤ 1000) : ∃ cs', lB m os os.length () x ⟨cs, s⟩ = .ok (.nx ()) ⟨cs', s⟩ ∧ Kp cs.length cs cs' := by
  have kp1 : Kp cs.length cs (cs ++ [.lst (os.map D.int)]) := Kp.app (Nat.le_refl _)
  have b := octs_b (s := s) h
  have hq : (cs ++ [Cell.lst (os.map D.int)])[cs.length]? = some (.lst (os.map D.int)) := app_at
  have h1 := h.kept kp1 (List.getElem?_eq_some_iff.mp h.hm).1 (List.getElem?_eq_some_iff.mp h.hl).1
  generalize cs ++ [Cell.lst (os.map D.int)] = c1 at *
  generalize hqq : cs.length = q at *
  have sb := same_b (s := s) hq hl
  have ln := len_m (s := s) h1 hl
  have sn : (notT (tst (callM (ar2 (f_wsame 8)) [(lenOM "Memory" (ar1 f_Memory_len) [(M.pure (.ptr m))]), (M.pure (.int os.length))])) : M Bool) ⟨c1, s⟩ = .ok false ⟨c1, s⟩ := by
    have ws := wsame_refl 8 (d := .int os.length) (.int _)
    generalize f_wsame 8 = fs at ws ⊢
    rw [ev_notT, ev_tst, ev_call, ev_args1, ln, at_ok, ev_args1, ev_pure, at_ok, ev_args0, at_ok, at_ok, at_ok, ev_ar2, ws]
    rfl
  have ap : appM (M.pure (.ptr q)) (M.pure (D.int 1)) ⟨c1, s⟩ = .ok .non ⟨c1.set q (.lst (os.map D.int ++ [.int 1])), s⟩ := c_app (ds := os.map D.int) rfl hq rfl hq (by rw [List.length_map]; omega)
  have hq2 : (c1.set q (.lst (os.map D.int ++ [.int 1])))[q]? = some (.lst (os.map D.int ++ [.int 1])) := List.getElem?_set_self (List.getElem?_eq_some_iff.mp hq).1
  have st := c_setI (s := s) (j := 0) (w := .int 77) hq2 (by decide) (by simp)
  refine ⟨(c1.set q (.lst (os.map D.int ++ [D.int 1]))).set q (.lst ((os.map D.int ++ [D.int 1]).set (0 : Int).toNat (D.int 77))), ?_, (kp1.trans (Kp.put (Nat.le_refl _))).trans (Kp.put (Nat.le_refl _))⟩
  unfold lB
  rw [ev_bind, b, at_ok, ev_ifM, ev_orT, sb, at_ok, if_neg (by decide), sn, at_ok, if_neg (by decide), ev_bind, ap, at_ok, ev_bind, ev_pure, at_ok, ev_bind, ev_pure, at_ok, ev_bind, ev_pure, at_ok, ev_bind, st, at_ok, ev_pure]
structure KI (cs : List Cell) (z : Nat × Nat × List Int) : Prop where
  mm : MM cs z.1 z.2.1 z.2.2
  ln : z.2.2.length ≤ 1000
theorem KI.kept {cs cs' : List Cell} {z : Nat × Nat × List Int} (h : KI cs z) (kp : Kp cs.length cs cs') : KI cs' z :=
  ⟨h.mm.kept kp (List.getElem?_eq_some_iff.mp h.mm.hm).1 (List.getElem?_eq_some_iff.mp h.mm.hl).1, h.ln⟩
abbrev kD (z : Nat × Nat × List Int) : D := .tup [.ptr z.1, .lst (z.2.2.map D.int)]
noncomputable abbrev tB : List D → D → M (Fl (List D) (List D)) := (fun (v_c2 : List D) v_turn3 => (M.bind (callM (ar2 f_pick) [(M.pure D.strm), (frz (lstM [(M.pure (D.int 0)), (M.pure (D.int 1)), (M.pure (D.int 2)), (M.pure (D.int 3)), (M.pure (D.int 9)), (M.pure (D.int 200)), (callM (ar2 f_draw) [(M.pure D.strm), (M.pure (D.int 200))])]))]) fun v_many4 => (M.bind (argsM [(frz ((argsM [(M.pure D.strm), (M.pure v_many4)]).bind (ar2N f_wsome_octets))), (callM (ar2 f_draw) [(M.pure D.strm), (M.pure (D.int 3))])]) (on2 fun v_rows5 v_way6 => (M.bind (newM "Memory" (ar2 f_Memory_init) [(bin dItem (frz (lstM [(callM (ar1 dTuple) [(M.pure v_rows5)]), (M.pure v_many4), (frz (toList (M.pure v_rows5)))])) (M.pure v_way6))]) fun v_memory7 => (thenM (ifM (tst (bin dEq (M.pure v_way6) (M.pure (D.int 2)))) (M.bind (boxM (toList (M.pure v_rows5))) fun v_passed9 => (M.bind (newM "Memory" (ar2 f_Memory_init) [(M.pure v_passed9)]) fun v_memory10 => (M.bind (appM (M.pure v_passed9) (M.pure (D.int 7))) fun _ => (M.bind (M.pure (D.int 99)) fun v_v11 => M.bind (M.pure v_passed9) fun v_o12 => M.bind (M.pure (D.int 0)) fun v_i13 => M.bind (setI v_o12 v_i13 v_v11) fun _ => (M.pure (.nx v_memory10)))))) (M.pure (.nx v_memory7))) (fun (v_c8 : D) => (M.bind (ifM (tst (bin dEq (M.pure v_way6) (M.pure (D.int 1)))) (bin dMul (frz (lstM [(M.pure (D.int 0))])) (M.pure v_many4)) (M.pure v_rows5)) fun v_due14 => (M.bind (M.bind (M.pure (D.int 2)) rng1) fun v_ds24 => thenM (forM (fun (_ : Unit) v_again16 => (M.bind (boxM (methN "Memory" "octets" (ar1N f_Memory_octets) (M.pure v_c8) [])) fun v_found17 => (ifM (orT (notT (tst (borrowM (ar2 (f_wsame 8)) [(M.pure v_found17), (M.pure v_due14)]))) (notT (tst (callM (ar2 (f_wsame 8)) [(lenOM "Memory" (ar1 f_Memory_len) [(M.pure v_c8)]), (M.pure v_many4)])))) (outM (retM (M.pure (D.bl false)))) (M.bind (appM (M.pure v_found17) (M.pure (D.int 1))) fun _ => (M.bind (M.pure (D.int 77)) fun v_v18 => M.bind (M.pure v_found17) fun v_o19 => M.bind (M.pure (D.int 0)) fun v_i20 => M.bind (setI v_o19 v_i20 v_v18) fun _ => (M.pure (.nx ()))))))) v_ds24 ()) (fun (_ : Unit) => (ifM (orT (notT (tst (callM (ar2 (f_wsame 8)) [(frz (mapX (M.bind (M.pure v_many4) rng1) (unT (.nm 13) (on1 fun v_k21 => (getOM "Memory" (ar2 f_Memory_getitem) (M.pure v_c8) (M.pure v_k21)))))), (M.pure v_due14)]))) (notT (tst (callM (ar1 f_wis_refused) [(M.pure D.strm)])))) (outM (retM (M.pure (D.bl false)))) (M.bind (newM "Memory" (ar2 f_Memory_init) [(frz (methN "Memory" "octets" (ar1N f_Memory_octets) (M.pure v_c8) []))]) fun v_twin22 => (ifM (tst (bin dNe (idxM "Memory" (boxM (lstM [(M.pure v_twin22), (M.pure v_c8)])) (M.pure v_c8)) (M.pure (D.int 1)))) (outM (retM (M.pure (D.bl false)))) (M.bind (tupM [(M.pure v_c8), (M.pure v_due14)]) fun v_d23 => gd (szLt (List.length v_c2)) (M.pure (.nx (v_c2 ++ [v_d23])))))))))))))))))
section
variable {cs : List Cell} {s : Strm} {m l r : Nat} {os due : List Int}
/-- all items -/
theorem items_m (h : MM cs m l due) (hl : due.length ≤ 1000) : (frz (mapX (M.bind (M.pure (.int due.length)) rng1) (unT (.nm 13) (on1 fun v_k21 => (getOM "Memory" (ar2 f_Memory_getitem) (M.pure (.ptr m)) (M.pure v_k21)))))) ⟨cs, s⟩ = .ok (.lst (due.map D.int)) ⟨cs, s⟩ := by
  have key : ∀ (k : Nat) (p : Nat), p + k = due.length → mapXC (unT (.nm 13) (on1 fun v_k21 => (getOM "Memory" (ar2 f_Memory_getitem) (M.pure (.ptr m)) (M.pure v_k21)))) ((List.range' p k).map fun (i : Nat) => D.int i) ⟨cs, s⟩ = .ok ((due.drop p).map D.int) ⟨cs, s⟩ := by
    intro k
    induction k with
    | zero =>
      intro p hp
      rw [List.drop_eq_nil_of_le (by omega)]
      rfl
    | succ k ih =>
      intro p hp
      have g := get_ok (s := s) h (i := (p : Nat)) (by omega) (by omega)
      have i2 := ih (p + 1) (by omega)
      generalize f_Memory_getitem = fg at g i2 ⊢
      rw [List.range'_succ, List.map_cons, ev_map1, ev_unN, ev_on1, g, at_ok, i2, at_ok]
      rw [List.drop_eq_getElem_cons (show p < due.length by omega), List.map_cons]
      rfl
  have kk := key due.length 0 (by omega)
  rw [← List.range_eq_range', List.drop_zero] at kk
  rw [ev_frz, ev_mapX, ev_bind, ev_pure, at_ok, ok_rng1 (by omega) (by omega), ev_pure, at_ok, Int.toNat_natCast, if_pos (szOk_le (by rw [List.length_map, List.length_range]; omega)), kk, at_ok]
theorem idx_one {t : Nat} {l2 : Nat} (h : MM cs m l due) (ht : cs[t]? = some (memC l2)) (ne : t ≠ m) : (tst (bin dNe (idxM "Memory" (boxM (lstM [(M.pure (.ptr t)), (M.pure (.ptr m))])) (M.pure (.ptr m))) (M.pure (D.int 1))) : M Bool) ⟨cs, s⟩ = .ok false ⟨cs ++ [.lst [.ptr t, .ptr m]], s⟩ := by
  have bx : (boxM (lstM [(M.pure (.ptr t)), (M.pure (.ptr m))])) (⟨cs, s⟩ : MS) = .ok (.ptr cs.length) ⟨cs ++ [.lst [.ptr t, .ptr m]], s⟩ := rfl
  have kp : Kp cs.length cs (cs ++ [.lst [.ptr t, .ptr m]]) := Kp.app (Nat.le_refl _)
  have hq : (cs ++ [Cell.lst [.ptr t, .ptr m]])[cs.length]? = some (.lst [.ptr t, .ptr m]) := app_at
  have hm := (kp.kept _ (List.getElem?_eq_some_iff.mp h.hm).1).trans h.hm
  have ht := (kp.kept _ (List.getElem?_eq_some_iff.mp ht).1).trans ht
  generalize cs ++ [Cell.lst [.ptr t, .ptr m]] = c1 at *
  have il : isLstP (.ptr cs.length) ⟨c1, s⟩ = .ok () ⟨c1, s⟩ := by
    unfold isLstP
    rw [ev_bind]
    unfold asLst
    simp only [hq]
    rfl
  have ix : idxI "Memory" (.ptr cs.length) (.ptr m) ⟨c1, s⟩ = .ok (.int 1) ⟨c1, s⟩ := by
    have b1 : insB ⟨c1, s⟩ "Memory" (.ptr t) = true := by
      show (match c1[t]? with | some (.ins c' _) => c' == "Memory" | _ => false) = true
      rw [ht]
      exact beq_self_eq_true ("Memory" : Str)
    have b2 : insB ⟨c1, s⟩ "Memory" (.ptr m) = true := by
      show (match c1[m]? with | some (.ins c' _) => c' == "Memory" | _ => false) = true
      rw [hm]
      exact beq_self_eq_true ("Memory" : Str)
    have e : idxP [.ptr t, .ptr m] m = some 1 := by
      simp only [idxP]
      rw [if_neg ne]
      simp
    unfold idxI
    simp only [hq]
    rw [List.all_cons, List.all_cons, List.all_nil, b1, b2, e]
    rfl
  unfold idxM
  rw [ev_tst, ev_bin, ev_bind, bx, at_ok, ev_bind, il, at_ok, ev_bind, ev_pure, at_ok, ix, at_ok, ev_pure, at_ok]
  rfl
theorem one_turn {x : D} {acc : List (Nat × Nat × List Int)} (hl : acc.length ≤ 100) (bu : Bud s (430 + r)) : ∃ z cs' s', tB (acc.map kD) x ⟨cs, s⟩ = .ok (.nx ((acc ++ [z]).map kD)) ⟨cs', s'⟩ ∧ Kp cs.length cs cs' ∧ KI cs' z ∧ Bud s' r := by
  obtain ⟨d1, s1, e1, ⟨v, rfl, v0, v1⟩, b1⟩ := drw_draw (k := 200) (by decide) (by decide) cs s (429 + r) (bu.le (by omega))
  obtain ⟨d2, s2, e2, q2, b2⟩ := drw_pick pk (ds := [.int 0, .int 1, .int 2, .int 3, .int 9, .int 200, .int v]) (by show (0 : Nat) < 7; decide) (by show (7 : Nat) < 1048576; decide) cs s1 (428 + r) (b1.le (by omega))
  obtain ⟨n, rfl, n0, n1⟩ : ∃ n, d2 = .int n ∧ 0 ≤ n ∧ n ≤ 200 := by
    simp only [List.mem_cons, List.not_mem_nil, or_false] at q2
    rcases q2 with q | q | q | q | q | q | q <;> exact ⟨_, q, by omega, by omega⟩
  obtain ⟨os, s3, e3, l3, o3, b3⟩ := ok_wsome_octets (size := n) n0 (by omega) cs s2 (25 + r) (b2.le (by omega))
  obtain ⟨d4, s4, e4, ⟨way, rfl, way0, way1⟩, b4⟩ := drw_draw (k := 3) (by decide) (by decide) cs s3 (24 + r) (b3.le (by omega))
  have z7 : szOk 7 = true := by decide
  have z3 : szOk 3 = true := by decide
  have z2 : szOk 2 = true := by decide
  have p1 : (callM (ar2 f_pick) [(M.pure D.strm), (frz (lstM [(M.pure (D.int 0)), (M.pure (D.int 1)), (M.pure (D.int 2)), (M.pure (D.int 3)), (M.pure (D.int 9)), (M.pure (D.int 200)), (callM (ar2 f_draw) [(M.pure D.strm), (M.pure (D.int 200))])]))]) ⟨cs, s⟩ = .ok (.int n) ⟨cs, s2⟩ := by
    refine pickL_c (s0 := s1) ?_ e2
    rw [ev_frz, ev_lst, ev_args1, ev_pure, at_ok, ev_args1, ev_pure, at_ok, ev_args1, ev_pure, at_ok, ev_args1, ev_pure, at_ok, ev_args1, ev_pure, at_ok, ev_args1, ev_pure, at_ok, ev_args1, drw_c e1, at_ok, ev_args0, at_ok, at_ok, at_ok, at_ok, at_ok, at_ok, at_ok, at_ok, if_pos (by exact z7), at_ok]
  have p2 : (argsM [(frz ((argsM [(M.pure D.strm), (M.pure (.int n))]).bind (ar2N f_wsome_octets))), (callM (ar2 f_draw) [(M.pure D.strm), (M.pure (D.int 3))])]) ⟨cs, s2⟩ = .ok [.lst (os.map D.int), .int way] ⟨cs, s4⟩ := by
    have dr := drw_c e4
    generalize f_wsome_octets = fo at e3 ⊢
    rw [ev_args1, ev_frz, ev_bind, ev_args1, ev_pure, at_ok, ev_args1, ev_pure, at_ok, ev_args0, at_ok, at_ok, at_ok]
    have e3 : (ar2N fo [D.strm, .int n]) ⟨cs, s2⟩ = _ := e3
    rw [e3, at_ok, at_ok, ev_args1, dr, at_ok, ev_args0, at_ok, at_ok]
  -- what it is made of
  obtain ⟨xw, due, a3, sr, du, dl, do_, do8⟩ : ∃ (xw : D) (due : List Int), (bin dItem (frz (lstM [(callM (ar1 dTuple) [(M.pure (.lst (os.map D.int)))]), (M.pure (.int n)), (frz (toList (M.pure (.lst (os.map D.int)))))])) (M.pure (.int way))) ⟨cs, s4⟩ = .ok xw ⟨cs, s4⟩ ∧ (∀ S, srcM xw S = .ok (due.map D.int) S) ∧ (∀ S, (ifM (tst (bin dEq (M.pure (.int way)) (M.pure (D.int 1)))) (bin dMul (frz (lstM [(M.pure (D.int 0))])) (M.pure (.int n))) (M.pure (.lst (os.map D.int)))) S = .ok (.lst (due.map D.int)) S) ∧ (due.length : Int) = n ∧ (way = 2 → due = os) ∧ (∀ o ∈ due, 0 ≤ o ∧ o ≤ 255) := by
    have tl : ∀ S : MS, (toList (M.pure (.lst (os.map D.int)))) S = .ok (os.map D.int) S := fun S => rfl
    have tt : ∀ S : MS, (callM (ar1 dTuple) [(M.pure (.lst (os.map D.int)))]) S = .ok (.tup (os.map D.int)) S := fun S => rfl
    have li : (frz (lstM [(callM (ar1 dTuple) [(M.pure (.lst (os.map D.int)))]), (M.pure (.int n)), (frz (toList (M.pure (.lst (os.map D.int)))))])) ⟨cs, s4⟩ = .ok (.lst [.tup (os.map D.int), .int n, .lst (os.map D.int)]) ⟨cs, s4⟩ := by
      rw [ev_frz, ev_lst, ev_args1, tt, at_ok, ev_args1, ev_pure, at_ok, ev_args1, ev_frz, tl, at_ok, at_ok, ev_args0, at_ok, at_ok, at_ok, at_ok, if_pos (by exact z3), at_ok]
    have wc : way = 0 ∨ way = 1 ∨ way = 2 := by omega
    rcases wc with q | q | q <;> subst q
    · exact ⟨.tup (os.map D.int), os, by rw [ev_bin, li, at_ok, ev_pure, at_ok]; rfl, fun S => src_seq (.inr rfl) o3 (by omega), fun S => rfl, l3, fun h => rfl, o3⟩
    · refine ⟨.int n, List.replicate n.toNat 0, by rw [ev_bin, li, at_ok, ev_pure, at_ok]; rfl, fun S => src_num n0 (by omega), fun S => ?_, by rw [List.length_replicate]; omega, fun h => by omega, fun o ho => by rw [List.eq_of_mem_replicate ho]; decide⟩
      have t1 : (tst (bin dEq (M.pure (.int 1)) (M.pure (D.int 1))) : M Bool) S = .ok true S := rfl
      have l0 : (frz (lstM [(M.pure (D.int 0))])) S = .ok (.lst [.int 0]) S := rfl
      rw [ev_ifM, t1, at_ok, if_pos rfl, ev_bin, l0, at_ok, ev_pure, at_ok, ← rep_zero]
      show Dl.guard (decide (-(2 ^ 63) ≤ n) && decide (n < 2 ^ 63) && szOk (1 * n.toNat)) (M.pure (D.lst (List.replicate n.toNat [D.int 0]).flatten)) S = _
      rw [decide_eq_true (by omega), decide_eq_true (by omega), szOk_le (by omega)]
      rfl
    · exact ⟨.lst (os.map D.int), os, by rw [ev_bin, li, at_ok, ev_pure, at_ok]; rfl, fun S => src_seq (.inl rfl) o3 (by omega), fun S => rfl, l3, fun h => rfl, o3⟩
  have dlen : due.length ≤ 200 := by omega
  have dn : n = (due.length : Nat) := by omega
  have nm := new_mem (cs := cs) (s := s4) (sr ⟨cs ++ [.ins "Memory" []], s4⟩)
  have m1 : MM (cs ++ [memC (cs.length + 1), .lst (due.map D.int)]) cs.length (cs.length + 1) due := new_mm
  have k1 : Kp cs.length cs (cs ++ [memC (cs.length + 1), .lst (due.map D.int)]) := Kp.app (Nat.le_refl _)
  generalize cs ++ [memC (cs.length + 1), Cell.lst (due.map D.int)] = c1 at nm m1 k1
  -- changed behind the making
  obtain ⟨c5, m, l, e5, m5, k5⟩ : ∃ c5 m l, (ifM (tst (bin dEq (M.pure (.int way)) (M.pure (D.int 2)))) (M.bind (boxM (toList (M.pure (.lst (os.map D.int))))) fun v_passed9 => (M.bind (newM "Memory" (ar2 f_Memory_init) [(M.pure v_passed9)]) fun v_memory10 => (M.bind (appM (M.pure v_passed9) (M.pure (D.int 7))) fun _ => (M.bind (M.pure (D.int 99)) fun v_v11 => M.bind (M.pure v_passed9) fun v_o12 => M.bind (M.pure (D.int 0)) fun v_i13 => M.bind (setI v_o12 v_i13 v_v11) fun _ => (M.pure (.nx v_memory10)))))) (M.pure (.nx (.ptr cs.length))) : M (Fl D (List D))) ⟨c1, s4⟩ = .ok (.nx (.ptr m)) ⟨c5, s4⟩ ∧ MM c5 m l due ∧ Kp cs.length cs c5 := by
    by_cases q : way = 2
    · have de := do_ q
      subst de
      have bx : (boxM (toList (M.pure (.lst (due.map D.int))))) (⟨c1, s4⟩ : MS) = .ok (.ptr c1.length) ⟨c1 ++ [.lst (due.map D.int)], s4⟩ := rfl
      have k2 : Kp cs.length cs (c1 ++ [.lst (due.map D.int)]) := k1.trans (Kp.app k1.len)
      have h2 : (c1 ++ [Cell.lst (due.map D.int)])[c1.length]? = some (.lst (due.map D.int)) := app_at
      have n2 : (c1 ++ [Cell.lst (due.map D.int)]).length = c1.length + 1 := by rw [List.length_append]; rfl
      generalize c1 ++ [Cell.lst (due.map D.int)] = c2 at bx k2 h2 n2
      have h2' : (c2 ++ [Cell.ins "Memory" []])[c1.length]? = some (.lst (due.map D.int)) := by rw [List.getElem?_append_left (by omega)]; exact h2
      have nm2 := new_mem (cs := c2) (s := s4) (src_ptr (S := ⟨c2 ++ [.ins "Memory" []], s4⟩) h2' o3 (by omega))
      have m3 : MM (c2 ++ [memC (c2.length + 1), .lst (due.map D.int)]) c2.length (c2.length + 1) due := new_mm
      have k3 : Kp cs.length cs (c2 ++ [memC (c2.length + 1), .lst (due.map D.int)]) := k2.trans (Kp.app k2.len)
      have h3 : (c2 ++ [memC (c2.length + 1), Cell.lst (due.map D.int)])[c1.length]? = some (.lst (due.map D.int)) := by rw [List.getElem?_append_left (by omega)]; exact h2
      generalize c2 ++ [memC (c2.length + 1), Cell.lst (due.map D.int)] = c3 at nm2 m3 k3 h3
      have ap : appM (M.pure (.ptr c1.length)) (M.pure (D.int 7)) ⟨c3, s4⟩ = .ok .non ⟨c3.set c1.length (.lst (due.map D.int ++ [.int 7])), s4⟩ := c_app (ds := due.map D.int) rfl h3 rfl h3 (by rw [List.length_map]; omega)
      have h4 : (c3.set c1.length (.lst (due.map D.int ++ [.int 7])))[c1.length]? = some (.lst (due.map D.int ++ [.int 7])) := List.getElem?_set_self (List.getElem?_eq_some_iff.mp h3).1
      have st := c_setI (s := s4) (j := 0) (w := .int 99) h4 (by decide) (by simp)
      refine ⟨(c3.set c1.length (.lst (due.map D.int ++ [D.int 7]))).set c1.length (.lst ((due.map D.int ++ [D.int 7]).set (0 : Int).toNat (D.int 99))), c2.length, c2.length + 1, ?_, ⟨?_, ?_⟩, (k3.trans (Kp.put k1.len)).trans (Kp.put k1.len)⟩
      · have tw : (tst (bin dEq (M.pure (.int way)) (M.pure (D.int 2))) : M Bool) ⟨c1, s4⟩ = .ok true ⟨c1, s4⟩ := by
          rw [q]; rfl
        generalize f_Memory_init = fi at nm2 ⊢
        rw [ev_ifM, tw, at_ok, if_pos rfl, ev_bind, bx, at_ok, ev_bind, nm2, at_ok, ev_bind, ap, at_ok, ev_bind, ev_pure, at_ok, ev_bind, ev_pure, at_ok, ev_bind, ev_pure, at_ok, ev_bind, st, at_ok, ev_pure]
      · rw [List.getElem?_set_ne (by omega), List.getElem?_set_ne (by omega)]
        exact m3.hm
      · rw [List.getElem?_set_ne (by omega), List.getElem?_set_ne (by omega)]
        exact m3.hl
    · refine ⟨c1, cs.length, cs.length + 1, ?_, m1, k1⟩
      have tw : (tst (bin dEq (M.pure (.int way)) (M.pure (D.int 2))) : M Bool) ⟨c1, s4⟩ = .ok (way == 2) ⟨c1, s4⟩ := rfl
      rw [ev_ifM, tw, at_ok, if_neg (by simpa using q), ev_pure]
  -- looked at twice
  obtain ⟨c6, e6, k6⟩ := one_again (s := s4) (x := .int 0) m5 (by omega)
  have m6 := m5.kept k6 (List.getElem?_eq_some_iff.mp m5.hm).1 (List.getElem?_eq_some_iff.mp m5.hl).1
  obtain ⟨c7, e7, k7⟩ := one_again (s := s4) (x := .int 1) m6 (by omega)
  have m7 := m6.kept k7 (List.getElem?_eq_some_iff.mp m6.hm).1 (List.getElem?_eq_some_iff.mp m6.hl).1
  have im := same_d (items_m (s := s4) m7 (by omega)) (show (M.pure (D.lst (due.map D.int)) : M D) ⟨c7, s4⟩ = .ok (.lst (due.map D.int)) ⟨c7, s4⟩ from rfl) (by omega)
  obtain ⟨c8, s8, e8, k8, b8⟩ := ok_isref (cs := c7) (s := s4) (r := r) (b4.le (by omega))
  have m8 := m7.kept k8 (List.getElem?_eq_some_iff.mp m7.hm).1 (List.getElem?_eq_some_iff.mp m7.hl).1
  have od := octs_d (s := s8) m8
  have nt := new_mem (cs := c8) (s := s8) (src_seq (S := ⟨c8 ++ [.ins "Memory" []], s8⟩) (x := .lst (due.map D.int)) (.inl rfl) do8 (by omega))
  have k9 : Kp c8.length c8 (c8 ++ [memC (c8.length + 1), .lst (due.map D.int)]) := Kp.app (Nat.le_refl _)
  have m9 := m8.kept k9 (List.getElem?_eq_some_iff.mp m8.hm).1 (List.getElem?_eq_some_iff.mp m8.hl).1
  have mt : MM (c8 ++ [memC (c8.length + 1), .lst (due.map D.int)]) c8.length (c8.length + 1) due := new_mm
  have ml : m < c8.length := (List.getElem?_eq_some_iff.mp m8.hm).1
  generalize c8 ++ [memC (c8.length + 1), Cell.lst (due.map D.int)] = c9 at nt k9 m9 mt
  have ix := idx_one (s := s8) m9 mt.hm (by omega)
  have k10 : Kp c9.length c9 (c9 ++ [.lst [.ptr c8.length, .ptr m]]) := Kp.app (Nat.le_refl _)
  have m10 := m9.kept k10 (List.getElem?_eq_some_iff.mp m9.hm).1 (List.getElem?_eq_some_iff.mp m9.hl).1
  refine ⟨(m, l, due), c9 ++ [.lst [.ptr c8.length, .ptr m]], s8, ?_, ((((k5.trans (k6.le k5.len)).trans (k7.le (Nat.le_trans k5.len k6.len))).trans (k8.le (Nat.le_trans k5.len (Nat.le_trans k6.len k7.len)))).trans (k9.le (Nat.le_trans k5.len (Nat.le_trans k6.len (Nat.le_trans k7.len k8.len))))).trans (k10.le (Nat.le_trans k5.len (Nat.le_trans k6.len (Nat.le_trans k7.len (Nat.le_trans k8.len k9.len))))), ⟨m10, by show due.length ≤ 1000; omega⟩, b8⟩
  generalize c9 ++ [Cell.lst [.ptr c8.length, .ptr m]] = c10 at ix
  have rf : (notT (tst (callM (ar1 f_wis_refused) [(M.pure D.strm)])) : M Bool) ⟨c7, s4⟩ = .ok false ⟨c8, s8⟩ := by
    generalize f_wis_refused = fr at e8 ⊢
    rw [ev_notT, ev_tst, ev_call, ev_args1, ev_pure, at_ok, ev_args0, at_ok, at_ok, ev_ar1, e8]
    rfl
  have rg : ∀ S : MS, (M.bind (M.pure (D.int 2)) rng1) S = .ok [.int 0, .int 1] S := fun S => rfl
  have nt' : (newM "Memory" (ar2 f_Memory_init) [(frz (methN "Memory" "octets" (ar1N f_Memory_octets) (M.pure (.ptr m)) []))]) ⟨c8, s8⟩ = .ok (.ptr c8.length) ⟨c9, s8⟩ := by
    rw [new_arg od, nt]
  have nm' : (newM "Memory" (ar2 f_Memory_init) [(bin dItem (frz (lstM [(callM (ar1 dTuple) [(M.pure (.lst (os.map D.int)))]), (M.pure (.int n)), (frz (toList (M.pure (.lst (os.map D.int)))))])) (M.pure (.int way)))]) ⟨cs, s4⟩ = .ok (.ptr cs.length) ⟨c1, s4⟩ := by
    rw [new_arg a3, nm]
  have tk : (tupM [(M.pure (.ptr m)), (M.pure (.lst (due.map D.int)))]) ⟨c10, s8⟩ = .ok (kD (m, l, due)) ⟨c10, s8⟩ := by
    rw [ev_tup, ev_args1, ev_pure, at_ok, ev_args1, ev_pure, at_ok, ev_args0, at_ok, at_ok, at_ok, if_pos (by exact z2)]
  have g1 : szLt ((acc.map kD).length) = true := by
    rw [List.length_map]
    unfold szLt
    exact decide_eq_true (by omega)
  have el : (acc ++ [(m, l, due)]).map kD = acc.map kD ++ [kD (m, l, due)] := by simp
  rw [el]
  subst dn
  unfold lB at e6 e7
  unfold tB
  rw [ev_bind, p1, at_ok, ev_bind, p2, at_ok, ev_on2, ev_bind, nm', at_ok, ev_then, e5, at_ok, thR_nx, ev_bind, du, at_ok, ev_bind, rg, at_ok, ev_then, ev_for1, e6, at_ok, foR_nx, ev_for1, e7, at_ok, foR_nx, ev_for0, at_ok, thR_nx, ev_ifM, ev_orT, im, at_ok, if_neg (by decide), rf, at_ok, if_neg (by decide), ev_bind, nt', at_ok, ev_ifM, ix, at_ok, if_neg (by decide), ev_bind, tk, at_ok, ev_gd, if_pos g1, ev_pure]
end
theorem all_turns {L : Type} : ∀ (ds : List D) (acc : List (Nat × Nat × List Int)) (cs : List Cell) (s : Strm) (r : Nat), acc.length + ds.length ≤ 100 → (∀ z ∈ acc, KI cs z) → Bud s (430 * ds.length + r) → ∃ (ws : List (Nat × Nat × List Int)) (cs' : List Cell) (s' : Strm), (Dl.forM tB ds (acc.map kD) : M (Fl (List D) L)) ⟨cs, s⟩ = .ok (.nx (ws.map kD)) ⟨cs', s'⟩ ∧ (∀ z ∈ ws, KI cs' z) ∧ ws.length = acc.length + ds.length ∧ Bud s' r
  | [], acc, cs, s, r, _, ha, bu => ⟨acc, cs, s, rfl, ha, by simp, by simpa using bu⟩
  | x :: ds, acc, cs, s, r, hl, ha, bu => by
    rw [List.length_cons] at hl bu
    obtain ⟨z, c1, s1, e1, k1, o1, b1⟩ := one_turn (cs := cs) (s := s) (x := x) (acc := acc) (r := 430 * ds.length + r) (by omega) (bu.le (by omega))
    obtain ⟨ws, c2, s2, e2, o2, l2, b2⟩ := all_turns (L := L) ds (acc ++ [z]) c1 s1 r (by rw [List.length_append]; simp; omega) (fun y hy => by
      rcases List.mem_append.mp hy with q | q
      · exact (ha y q).kept k1
      · rw [List.mem_singleton.mp q]; exact o1) b1
    exact ⟨ws, c2, s2, by rw [ev_for1, e1, at_ok, foR_nx, e2], o2, by rw [l2, List.length_append]; simp; omega, b2⟩
theorem all_same {cs : List Cell} {s : Strm} : ∀ ws : List (Nat × Nat × List Int), (∀ z ∈ ws, KI cs z) → mapXC (unT (.tp [(.nm 5), (.nm 6)]) (on2 fun v_memory25 v_due26 => (callM (ar2 (f_wsame 8)) [(frz (methN "Memory" "octets" (ar1N f_Memory_octets) (M.pure v_memory25) [])), (M.pure v_due26)]))) (ws.map kD) ⟨cs, s⟩ = .ok (List.replicate ws.length (.bl true)) ⟨cs, s⟩
  | [], _ => rfl
  | z :: ws, h => by
    have hz := h z List.mem_cons_self
    have ih := all_same (s := s) ws fun y hy => h y (List.mem_cons_of_mem _ hy)
    have od := octs_d (s := s) hz.mm
    have w := wsame_ints hz.ln
    have one : (callM (ar2 (f_wsame 8)) [(frz (methN "Memory" "octets" (ar1N f_Memory_octets) (M.pure (.ptr z.1)) [])), (M.pure (.lst (z.2.2.map D.int)))]) ⟨cs, s⟩ = .ok (.bl true) ⟨cs, s⟩ := by
      generalize f_wsame 8 = fs at w ⊢
      rw [ev_call, ev_args1, od, at_ok, ev_args1, ev_pure, at_ok, ev_args0, at_ok, at_ok, at_ok, ev_ar2, w, ev_pure]
    rw [List.map_cons, ev_map1]
    show (((callM (ar2 (f_wsame 8)) [(frz (methN "Memory" "octets" (ar1N f_Memory_octets) (M.pure (.ptr z.1)) [])), (M.pure (.lst (z.2.2.map D.int)))]) ⟨cs, s⟩).andThen _) = _
    rw [one, at_ok, ih]
    rfl
theorem hlaw : ∀ ns : List Int, ns.length ≤ 63 → ∃ S', finM m_law (S0 ns) = .ok (.bl true) S' := fun ns _ => by
  obtain ⟨ws, c1, s1, e1, o1, l1, b1⟩ := all_turns (L := Empty) ((List.range (8 : Int).toNat).map fun (i : Nat) => D.int i) [] (S0 ns).cells (S0 ns).st 0 (by simp) (fun z h => nomatch h) ((Bud.start ns).le (by simp))
  have e1 : (Dl.forM tB ((List.range (8 : Int).toNat).map fun (i : Nat) => D.int i) [] : M (Fl (List D) Empty)) (S0 ns) = .ok (.nx (ws.map kD)) ⟨c1, s1⟩ := e1
  have l1 : ws.length = 8 := by rw [l1]; rfl
  have bx : (boxM (lstM [(M.pure (D.int 1))])) (⟨c1, s1⟩ : MS) = .ok (.ptr c1.length) ⟨c1 ++ [.lst [.int 1]], s1⟩ := rfl
  have kp : Kp c1.length c1 (c1 ++ [.lst [.int 1]]) := Kp.app (Nat.le_refl _)
  have hq : (c1 ++ [Cell.lst [.int 1]])[c1.length]? = some (.lst [.int 1]) := app_at
  obtain ⟨c3, e3, k3⟩ := is_very (s := s1) hq
  have o3 : ∀ z ∈ ws, KI c3 z := fun z hz => by
    have h := (o1 z hz)
    have hm := (List.getElem?_eq_some_iff.mp h.mm.hm).1
    have hl := (List.getElem?_eq_some_iff.mp h.mm.hl).1
    have h2 := h.kept kp
    have ln := kp.len
    exact ⟨⟨(k3 _ (by omega) (by omega)).trans h2.mm.hm, (k3 _ (by omega) (by omega)).trans h2.mm.hl⟩, h.ln⟩
  have al := all_same (s := s1) ws o3
  have l0 : (lstM []) (S0 ns) = .ok [] (S0 ns) := rfl
  have rg : (M.bind (M.pure (D.int 8)) rng1) (S0 ns) = .ok ((List.range (8 : Int).toNat).map fun (i : Nat) => D.int i) (S0 ns) := rfl
  have iv : (notT (tst (callM (ar1 f_wis_very) [(boxM (lstM [(M.pure (D.int 1))]))])) : M Bool) ⟨c1, s1⟩ = .ok false ⟨c3, s1⟩ := by
    generalize f_wis_very = fv at e3 ⊢
    rw [ev_notT, ev_tst, ev_call, ev_args1, bx, at_ok, ev_args0, at_ok, at_ok, ev_ar1, e3]
    rfl
  have it : ∀ S : MS, (M.bind (M.pure (D.lst (ws.map kD))) items) S = .ok (ws.map kD) S := fun S => rfl
  refine ⟨⟨c3, s1⟩, ?_⟩
  unfold tB at e1
  unfold m_law
  rw [ev_fin, ev_bind, l0, at_ok, ev_bind, rg, at_ok, ev_then, e1, at_ok, thR_nx, ev_ifM, iv, at_ok, if_neg (by decide), ev_ret, ev_call, ev_args1, ev_frz, ev_mapX, it, at_ok, if_pos (szOk_le (by rw [List.length_map]; omega)), al, at_ok, at_ok, ev_args0, at_ok, at_ok, ev_ar1, all_rep]
  rfl
end Lw
def PySem.W.Fast.tw12370387344746712866 : Unit := ()
def PySem.W.Fast.tw4964467743872239621 : Unit := ()
def PySem.W.Fast.tw8886354852253622828 : Unit := ()
def PySem.W.Fast.tw4245950536376632270 : Unit := ()
def PySem.W.Fast.tw10894052805713085680 : Unit := ()
def PySem.W.Fast.tw17849501868488392948 : Unit := ()
def PySem.W.Fast.tw4412026657658160118 : Unit := ()
def PySem.W.Fast.tw4752011579761050168 : Unit := ()
def PySem.W.Fast.tw10249374203301837624 : Unit := ()
open PySem PySem.W PyProof.Rows in
set_option maxRecDepth 100000 in
set_option maxHeartbeats 0 in
theorem PySem.Challenge.cw_fieldberth_k35_memories_made_holds : PySem.Challenge.rw_fieldberth_k35_memories_made.Holds := by
  w_on; o_law; k_head; (case hw => w_witness2)
  k_fill
  refine Lw.walk (l := PySem.Challenge.rw_fieldberth_k35_memories_made) rfl rfl (fun w h Y => PySem.W.kIn_of Y) ?F
  case F =>
    intro w mg fa h KX G hmg
    refine' Lw.all_mk KX G hmg ?aC_BadAddress ?xL_BadAddress ?xb_BadAddress ?sa_BadAddress ?eC_BadAddress ?tC_BadAddress ?kC_BadAddress ?nf_BadAddress ?iI_BadAddress ?tI_BadAddress ?lI_BadAddress ?cI_BadAddress ?kI_BadAddress ?aC_BadOctet ?xL_BadOctet ?xb_BadOctet ?sa_BadOctet ?eC_BadOctet ?tC_BadOctet ?kC_BadOctet ?nf_BadOctet ?iI_BadOctet ?tI_BadOctet ?lI_BadOctet ?cI_BadOctet ?kI_BadOctet ?ga_BadOctet ?gg_BadOctet ?hd_BadOctet ?ex_BadOctet ?aC_Memory ?pg_Memory ?hd_Memory ?po_Memory ?sa_Memory ?nna_Memory_octet_rows ?qe_Memory ?qn_Memory ?qs_Memory ?cg_class ?ct_class ?cl_BadOctet ?mo_BadOctet ?aC_BerthError ?ic_BerthError ?ty_BerthError ?ki_BadOctet_BerthError ?kf_Memory ?ks_Memory ?kt_Memory ?kr_Memory ?kbool_Memory ?kint_Memory ?kstr_Memory ?klist_Memory ?ktuple_Memory ?kdict_Memory ?z_all ?z_bool ?z_dict ?z_int ?z_isinstance ?z_len ?z_list ?z_range ?z_repr ?z_tuple ?z_zip ?a_draw ?l_draw ?c_draw ?k_draw ?a_pick ?l_pick ?c_pick ?k_pick ?a_is_integer ?l_is_integer ?c_is_integer ?k_is_integer ?a_checked_octet ?l_checked_octet ?c_checked_octet ?k_checked_octet ?a_octets_ofN ?l_octets_ofN ?c_octets_ofN ?k_octets_ofN ?a_Memory_init ?i_Memory_init ?mk_Memory ?kc_Memory ?l_Memory_init ?c_Memory_init ?k_Memory_init ?a_wis_very ?l_wis_very ?c_wis_very ?k_wis_very ?a_wsome_octets ?l_wsome_octets ?c_wsome_octets ?k_wsome_octets ?a_Memory_octets ?i_Memory_octets ?l_Memory_octets ?c_Memory_octets ?k_Memory_octets ?a_wsame ?l_wsame ?c_wsame ?k_wsame ?a_wis_refused ?l_wis_refused ?c_wis_refused ?k_wis_refused ?a_Memory_len ?i_Memory_len ?l_Memory_len ?c_Memory_len ?k_Memory_len ?a_Memory_checked_place ?i_Memory_checked_place ?l_Memory_checked_place ?c_Memory_checked_place ?k_Memory_checked_place ?a_Memory_getitem ?i_Memory_getitem ?l_Memory_getitem ?c_Memory_getitem ?k_Memory_getitem ?nq_Memory ?a_law ?l_law ?c_law ?k_law ?z__law_four_right ?z__law_told ?z__law_twice ?z__law_refused_right ?z__law_views ?z__law_any_path Lw.hlaw
    (case aC_BadAddress => k_is)
    (case xL_BadAddress => k_is)
    (case xb_BadAddress => decide +kernel)
    (case sa_BadAddress => k_is)
    (case eC_BadAddress => k_is)
    (case tC_BadAddress => k_is)
    (case kC_BadAddress => k_is)
    (case nf_BadAddress => k_is)
    (case iI_BadAddress => k_is)
    (case tI_BadAddress => k_is)
    (case lI_BadAddress => k_is)
    (case cI_BadAddress => k_is)
    (case kI_BadAddress => k_is)
    (case aC_BadOctet => k_is)
    (case xL_BadOctet => k_is)
    (case xb_BadOctet => decide +kernel)
    (case sa_BadOctet => k_is)
    (case eC_BadOctet => k_is)
    (case tC_BadOctet => k_is)
    (case kC_BadOctet => k_is)
    (case nf_BadOctet => k_is)
    (case iI_BadOctet => k_is)
    (case tI_BadOctet => k_is)
    (case lI_BadOctet => k_is)
    (case cI_BadOctet => k_is)
    (case kI_BadOctet => k_is)
    (case ga_BadOctet => k_is)
    (case gg_BadOctet => k_is)
    (case hd_BadOctet => k_is)
    (case ex_BadOctet => k_is)
    (case aC_Memory => k_is)
    (case pg_Memory => k_is)
    (case hd_Memory => k_is)
    (case po_Memory => k_is)
    (case sa_Memory => k_is)
    (case nna_Memory_octet_rows => k_is)
    (case qe_Memory => k_is)
    (case qn_Memory => k_is)
    (case qs_Memory => k_is)
    (case cg_class => k_is)
    (case ct_class => k_is)
    (case cl_BadOctet => k_is)
    (case mo_BadOctet => k_is)
    (case aC_BerthError => k_is)
    (case ic_BerthError => k_is)
    (case ty_BerthError => k_is)
    (case ki_BadOctet_BerthError => k_is)
    (case kf_Memory => k_is)
    (case ks_Memory => k_is)
    (case kt_Memory => k_is)
    (case kr_Memory => k_is)
    (case kbool_Memory => k_is)
    (case kint_Memory => k_is)
    (case kstr_Memory => k_is)
    (case klist_Memory => k_is)
    (case ktuple_Memory => k_is)
    (case kdict_Memory => k_is)
    (case z_all => k_is)
    (case z_bool => k_is)
    (case z_dict => k_is)
    (case z_int => k_is)
    (case z_isinstance => k_is)
    (case z_len => k_is)
    (case z_list => k_is)
    (case z_range => k_is)
    (case z_repr => k_is)
    (case z_tuple => k_is)
    (case z_zip => k_is)
    (case a_draw => k_is)
    (case l_draw => k_is)
    (case c_draw => k_is)
    (case k_draw => k_is)
    (case a_pick => k_is)
    (case l_pick => k_is)
    (case c_pick => k_is)
    (case k_pick => k_is)
    (case a_is_integer => k_is)
    (case l_is_integer => k_is)
    (case c_is_integer => k_is)
    (case k_is_integer => k_is)
    (case a_checked_octet => k_is)
    (case l_checked_octet => k_is)
    (case c_checked_octet => k_is)
    (case k_checked_octet => k_is)
    (case a_octets_ofN => k_is)
    (case l_octets_ofN => k_is)
    (case c_octets_ofN => k_is)
    (case k_octets_ofN => k_is)
    (case a_Memory_init => k_is)
    (case i_Memory_init => k_is)
    (case mk_Memory => k_is)
    (case kc_Memory => k_is)
    (case l_Memory_init => k_is)
    (case c_Memory_init => k_is)
    (case k_Memory_init => k_is)
    (case a_wis_very => k_is)
    (case l_wis_very => k_is)
    (case c_wis_very => k_is)
    (case k_wis_very => k_is)
    (case a_wsome_octets => k_is)
    (case l_wsome_octets => k_is)
    (case c_wsome_octets => k_is)
    (case k_wsome_octets => k_is)
    (case a_Memory_octets => k_is)
    (case i_Memory_octets => k_is)
    (case l_Memory_octets => k_is)
    (case c_Memory_octets => k_is)
    (case k_Memory_octets => k_is)
    (case a_wsame => k_is)
    (case l_wsame => k_is)
    (case c_wsame => k_is)
    (case k_wsame => k_is)
    (case a_wis_refused => k_is)
    (case l_wis_refused => k_is)
    (case c_wis_refused => k_is)
    (case k_wis_refused => k_is)
    (case a_Memory_len => k_is)
    (case i_Memory_len => k_is)
    (case l_Memory_len => k_is)
    (case c_Memory_len => k_is)
    (case k_Memory_len => k_is)
    (case a_Memory_checked_place => k_is)
    (case i_Memory_checked_place => k_is)
    (case l_Memory_checked_place => k_is)
    (case c_Memory_checked_place => k_is)
    (case k_Memory_checked_place => k_is)
    (case a_Memory_getitem => k_is)
    (case i_Memory_getitem => k_is)
    (case l_Memory_getitem => k_is)
    (case c_Memory_getitem => k_is)
    (case k_Memory_getitem => k_is)
    (case nq_Memory => k_is)
    (case a_law => k_is)
    (case l_law => k_is)
    (case c_law => k_is)
    (case k_law => k_is)
    (case z__law_four_right => k_is)
    (case z__law_told => k_is)
    (case z__law_twice => k_is)
    (case z__law_refused_right => k_is)
    (case z__law_views => k_is)
    (case z__law_any_path => k_is)
