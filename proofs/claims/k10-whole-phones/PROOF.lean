import PyProof.Rows.All
import Wide.All
import OpenK.AllK
import Wide.FinOn
import HandS.ForMost
import HandS.Style
import HandS.SortInts
import HandS.SortRule
import HandS.Wide
import HandS.Conv
import HandS.More
import HandS.Exc
import HandS.IsInst
import HandS.ExcOwn
import HandS.ListItems
import HandS.SetFor
import HandS.Strs
import HandS.Deep
import HandS.New
import PySem.Challenge.RW_callchain_k10_whole_phones
set_option Elab.async false
set_option maxRecDepth 100000
set_option maxHeartbeats 4000000
set_option linter.all false
/-! The base of the proofs: what stands apart (cells), calls of defs, loops over enumerate. -/
namespace Cc
open PySem L2

/-! ### cells: H holds all of H0, and the cells of L, which are new to H0 and apart -/
abbrev Cell := Addr × HO
structure Lo (H0 H : Hp) (L : List Cell) : Prop where
  same : ∀ a o, H0 a = some o → H a = some o
  get : ∀ {a o}, (a, o) ∈ L → H a = some o
  new : ∀ {a o}, (a, o) ∈ L → H0 a = none
  nd : (L.map (·.1)).Nodup

theorem Lo.nil (H : Hp) : Lo H H [] := ⟨fun _ _ h => h, fun h => (by cases h), fun h => (by cases h), List.nodup_nil⟩
theorem Lo.free {H0 H : Hp} {L : List Cell} (h : Lo H0 H L) {p : Addr} (hp : H p = none) : H0 p = none := by
  cases q : H0 p with
  | none => rfl
  | some o => rw [h.same p o q] at hp; cases hp
theorem Lo.mem_ne {H0 H : Hp} {L : List Cell} (h : Lo H0 H L) {p : Addr} (hp : H p = none) : p ∉ L.map (·.1) := by
  intro hm
  obtain ⟨⟨a, o⟩, h1, h2⟩ := List.mem_map.mp hm
  have e : a = p := h2
  subst e
  rw [h.get h1] at hp
  cases hp
/-- a new object, tracked -/
theorem Lo.al {H0 H : Hp} {L : List Cell} (h : Lo H0 H L) {p : Addr} (hp : H p = none) (o : HO) : Lo H0 (upd H p o) ((p, o) :: L) where
  same := fun a u e => by rw [upd_ne (ne_of_none (h.same a u e) hp)]; exact h.same a u e
  get := fun {a u} hm => by
    rcases List.mem_cons.mp hm with e | hm
    · cases e; exact upd_same
    · rw [upd_ne (ne_of_none (h.get hm) hp)]; exact h.get hm
  new := fun {a u} hm => by
    rcases List.mem_cons.mp hm with e | hm
    · cases e; exact h.free hp
    · exact h.new hm
  nd := by
    rw [List.map_cons, List.nodup_cons]
    exact ⟨h.mem_ne hp, h.nd⟩
/-- a new object, not cared for -/
theorem Lo.ju {H0 H : Hp} {L : List Cell} (h : Lo H0 H L) {p : Addr} (hp : H p = none) (o : HO) : Lo H0 (upd H p o) L :=
  have q := h.al hp o
  ⟨q.same, fun hm => q.get (List.mem_cons_of_mem _ hm), h.new, h.nd⟩
/-- fewer cells -/
theorem Lo.sub {H0 H : Hp} {L L' : List Cell} (h : Lo H0 H L) (hs : L'.Sublist L) : Lo H0 H L' :=
  ⟨h.same, fun hm => h.get (hs.subset hm), fun hm => h.new (hs.subset hm), (hs.map _).nodup h.nd⟩
theorem Lo.perm {H0 H : Hp} {L L' : List Cell} (h : Lo H0 H L) (hs : L.Perm L') : Lo H0 H L' :=
  ⟨h.same, fun hm => h.get (hs.mem_iff.mpr hm), fun hm => h.new (hs.mem_iff.mpr hm), ((hs.map _).nodup_iff).mp h.nd⟩
/-- a cell is written -/
theorem Lo.wr {H0 H : Hp} {A B : List Cell} {a : Addr} {o : HO} (h : Lo H0 H (A ++ (a, o) :: B)) (o' : HO) : Lo H0 (upd H a o') (A ++ (a, o') :: B) := by
  have nd := h.nd
  rw [List.map_append, List.map_cons] at nd
  have hna : a ∉ A.map (·.1) := fun hm => by
    have := (List.nodup_append.mp nd).2.2 a hm a (List.mem_cons_self)
    exact this rfl
  have hnb : a ∉ B.map (·.1) := (List.nodup_cons.mp (List.nodup_append.mp nd).2.1).1
  refine ⟨fun b u e => ?_, fun {b u} hm => ?_, fun {b u} hm => ?_, ?_⟩
  · have : H0 a = none := h.new (List.mem_append_right _ (List.mem_cons_self))
    rw [upd_ne (ne_of_none e this)]
    exact h.same b u e
  · rcases List.mem_append.mp hm with hm | hm
    · have hb : b ≠ a := fun e => hna (e ▸ List.mem_map.mpr ⟨_, hm, rfl⟩)
      rw [upd_ne hb]
      exact h.get (List.mem_append_left _ hm)
    · rcases List.mem_cons.mp hm with e | hm
      · cases e; exact upd_same
      · have hb : b ≠ a := fun e => hnb (e ▸ List.mem_map.mpr ⟨_, hm, rfl⟩)
        rw [upd_ne hb]
        exact h.get (List.mem_append_right _ (List.mem_cons_of_mem _ hm))
  · rcases List.mem_append.mp hm with hm | hm
    · exact h.new (List.mem_append_left _ hm)
    · rcases List.mem_cons.mp hm with e | hm
      · cases e; exact h.new (o := o) (List.mem_append_right _ (List.mem_cons_self))
      · exact h.new (List.mem_append_right _ (List.mem_cons_of_mem _ hm))
  · rw [List.map_append, List.map_cons]
    exact nd
theorem Lo.wr0 {H0 H : Hp} {B : List Cell} {a : Addr} {o : HO} (h : Lo H0 H ((a, o) :: B)) (o' : HO) : Lo H0 (upd H a o') ((a, o') :: B) := Lo.wr (A := []) h o'
/-- behind a call that leaves all as it was and makes F -/
theorem Lo.ca {H0 H H' : Hp} {L F : List Cell} (h : Lo H0 H L) (h' : Lo H H' F) : Lo H0 H' (F ++ L) where
  same := fun a o e => h'.same a o (h.same a o e)
  get := fun {a o} hm => by
    rcases List.mem_append.mp hm with hm | hm
    · exact h'.get hm
    · exact h'.same a o (h.get hm)
  new := fun {a o} hm => by
    rcases List.mem_append.mp hm with hm | hm
    · exact h.free (h'.new hm)
    · exact h.new hm
  nd := by
    rw [List.map_append, List.nodup_append]
    refine ⟨h'.nd, h.nd, fun a ha b hb e => ?_⟩
    subst e
    obtain ⟨⟨x, o⟩, h1, h2⟩ := List.mem_map.mp ha
    have e : x = a := h2
    subst e
    exact h.mem_ne (h'.new h1) hb
/-- behind a call that makes nothing that is asked for -/
theorem Lo.cs {H0 H H' : Hp} {L : List Cell} (h : Lo H0 H L) (h' : Same H H') : Lo H0 H' L :=
  ⟨fun a o e => h' a o (h.same a o e), fun hm => h' _ _ (h.get hm), h.new, h.nd⟩
/-- cells lent out: F is worked upon, R and H0 stay -/
theorem Lo.split {H0 H : Hp} {F R : List Cell} (h : Lo H0 H (F ++ R)) :
    ∃ H1, Lo H1 H F ∧ (∀ a o, H0 a = some o → H1 a = some o) ∧ (∀ {a o}, (a, o) ∈ R → H1 a = some o) ∧ ∀ {H' F'}, Lo H1 H' F' → Lo H0 H' (F' ++ R) := by
  have nd := h.nd
  rw [List.map_append] at nd
  obtain ⟨n1, n2, n3⟩ := List.nodup_append.mp nd
  have f1 : ∀ b, b ∈ R.map (·.1) → (fun b => if b ∈ R.map (·.1) then H b else H0 b) b = H b := fun b hb => if_pos hb
  have f2 : ∀ b, b ∉ R.map (·.1) → (fun b => if b ∈ R.map (·.1) then H b else H0 b) b = H0 b := fun b hb => if_neg hb
  generalize (fun b => if b ∈ R.map (·.1) then H b else H0 b) = H1 at f1 f2
  have up : ∀ a o, H0 a = some o → H1 a = some o := fun a o e => by
    by_cases hr : a ∈ R.map (·.1)
    · rw [f1 a hr]; exact h.same a o e
    · rw [f2 a hr]; exact e
  have rr : ∀ {a o}, (a, o) ∈ R → H1 a = some o := fun {a o} hm => by
    rw [f1 a (List.mem_map.mpr ⟨_, hm, rfl⟩)]
    exact h.get (List.mem_append_right _ hm)
  have nn : ∀ a, H1 a = none → a ∉ R.map (·.1) := fun a q hr => by
    obtain ⟨⟨x, u⟩, h1, h2⟩ := List.mem_map.mp hr
    have e : x = a := h2
    subst e
    rw [rr h1] at q
    cases q
  refine ⟨H1, ⟨fun a o e => ?_, fun {a o} hm => h.get (List.mem_append_left _ hm), fun {a o} hm => ?_, n1⟩, up, rr, fun {H' F'} g => ⟨fun a o e => g.same a o (up a o e), fun {a o} hm => ?_, fun {a o} hm => ?_, ?_⟩⟩
  · by_cases hr : a ∈ R.map (·.1)
    · rw [f1 a hr] at e; exact e
    · rw [f2 a hr] at e; exact h.same a o e
  · rw [f2, h.new (List.mem_append_left _ hm)]
    exact fun hr => n3 a (List.mem_map.mpr ⟨_, hm, rfl⟩) a hr rfl
  · rcases List.mem_append.mp hm with hm | hm
    · exact g.get hm
    · exact g.same a o (rr hm)
  · rcases List.mem_append.mp hm with hm | hm
    · have q := g.new hm
      rw [f2 a (nn a q)] at q
      exact q
    · exact h.new (List.mem_append_right _ hm)
  · rw [List.map_append, List.nodup_append]
    refine ⟨g.nd, n2, fun a ha b hb e => ?_⟩
    subst e
    obtain ⟨⟨x, u⟩, h1, h2⟩ := List.mem_map.mp ha
    have e : x = a := h2
    subst e
    exact nn x (g.new h1) hb
theorem Lo.to {H0 H : Hp} {L L' : List Cell} (h : Lo H0 H L) (e : L = L') : Lo H0 H L' := e ▸ h
theorem Lo.sm {H0 H : Hp} {L : List Cell} (h : Lo H0 H L) : Same H0 H := h.same

/-! ### lists of ints -/
def intsO (ns : List Int) : HO := .lst (ns.map V.int)
def refsO (ps : List Addr) : HO := .lst (ps.map V.ref)
/-- the rows' cells -/
def rowsC : List Addr → List (List Int) → List Cell
  | p :: ps, r :: rs => (p, intsO r) :: rowsC ps rs
  | _, _ => []
theorem rowsC_map : ∀ {ps : List Addr} {rs : List (List Int)}, ps.length = rs.length → (rowsC ps rs).map (·.1) = ps
  | [], [], _ => rfl
  | p :: ps, r :: rs, h => by
    unfold rowsC
    rw [List.map_cons, rowsC_map (Nat.succ.inj h)]
theorem rowsC_get : ∀ {ps : List Addr} {rs : List (List Int)} {i : Nat} {p : Addr} {r : List Int}, ps[i]? = some p → rs[i]? = some r → (p, intsO r) ∈ rowsC ps rs
  | p :: ps, r :: rs, 0, _, _, h1, h2 => by
    simp at h1 h2; subst h1 h2
    exact List.mem_cons_self
  | p :: ps, r :: rs, i + 1, _, _, h1, h2 => by
    simp at h1 h2
    exact List.mem_cons_of_mem _ (rowsC_get h1 h2)
theorem rowsC_split : ∀ {ps : List Addr} {rs : List (List Int)} {i : Nat} {p : Addr} {r : List Int}, ps[i]? = some p → rs[i]? = some r →
    ∃ A B, rowsC ps rs = A ++ (p, intsO r) :: B ∧ ∀ r', rowsC ps (rs.set i r') = A ++ (p, intsO r') :: B
  | p :: ps, r :: rs, 0, _, _, h1, h2 => by
    simp at h1 h2; subst h1 h2
    exact ⟨[], rowsC ps rs, rfl, fun r' => rfl⟩
  | p :: ps, r :: rs, i + 1, _, _, h1, h2 => by
    simp at h1 h2
    obtain ⟨A, B, e1, e2⟩ := rowsC_split h1 h2
    refine ⟨(p, intsO r) :: A, B, ?_, fun r' => ?_⟩
    · show (p, intsO r) :: rowsC ps rs = _
      rw [e1]; rfl
    · show (p, intsO r) :: rowsC ps (rs.set i r') = _
      rw [e2]; rfl
theorem rowsC_snoc : ∀ {ps : List Addr} {rs : List (List Int)} {p : Addr} {r : List Int}, ps.length = rs.length → rowsC (ps ++ [p]) (rs ++ [r]) = rowsC ps rs ++ [(p, intsO r)]
  | [], [], _, _, _ => rfl
  | q :: ps, s :: rs, p, r, h => by
    show (q, intsO s) :: rowsC (ps ++ [p]) (rs ++ [r]) = _
    rw [rowsC_snoc (Nat.succ.inj h)]; rfl
/-- a list of lists of ints, all its own -/
def llC (p : Addr) (ps : List Addr) (rs : List (List Int)) : List Cell := (p, refsO ps) :: rowsC ps rs
/-- a list of lists of ints, to be read -/
structure Rows (H : Hp) (p : Addr) (ps : List Addr) (rs : List (List Int)) : Prop where
  top : H p = some (refsO ps)
  len : ps.length = rs.length
  row : ∀ {i : Nat} {q : Addr} {r : List Int}, ps[i]? = some q → rs[i]? = some r → H q = some (intsO r)
theorem Rows.same {H H' : Hp} {p : Addr} {ps : List Addr} {rs : List (List Int)} (h : Rows H p ps rs) (s : Same H H') : Rows H' p ps rs :=
  ⟨s _ _ h.top, h.len, fun a b => s _ _ (h.row a b)⟩
theorem Rows.at {H : Hp} {p : Addr} {ps : List Addr} {rs : List (List Int)} (h : Rows H p ps rs) {i : Nat} {r : List Int} (e : rs[i]? = some r) : ∃ q, ps[i]? = some q ∧ H q = some (intsO r) := by
  have hi : i < rs.length := (List.getElem?_eq_some_iff.mp e).1
  have hp : i < ps.length := by rw [h.len]; exact hi
  exact ⟨ps[i], List.getElem?_eq_some_iff.mpr ⟨hp, rfl⟩, h.row (List.getElem?_eq_some_iff.mpr ⟨hp, rfl⟩) e⟩
theorem Lo.rows {H0 H : Hp} {A B : List Cell} {p : Addr} {ps : List Addr} {rs : List (List Int)} (h : Lo H0 H (A ++ (llC p ps rs ++ B))) (hl : ps.length = rs.length) : Rows H p ps rs :=
  ⟨h.get (List.mem_append_right _ (List.mem_append_left _ (List.mem_cons_self))), hl, fun e1 e2 => h.get (List.mem_append_right _ (List.mem_append_left _ (List.mem_cons_of_mem _ (rowsC_get e1 e2))))⟩

/-! ### defs as they are called -/
section
variable (P : Program) (w : World) (K : PySem.W.Frag) (mg : Str → Option Value) (base : Heap)
/-- a def of the top: it keeps its promise, up to level k -/
structure Dfn (x : Str) (k : Nat) (ps : List Str) (sp : Sp) : Prop where
  ex : ∃ (f : Addr) (fd : FuncData), mg x = some (.ref f) ∧ PySem.W.keepIn K (.ref f) = true ∧ Binds K fd ps [] ∧ FnOk P w K mg base CX0 k f fd ps sp
end
section
variable {X : Cx} {x : Str} {k j : Nat} {ps : List Str} {sp : Sp} {p pos : Pos} {e : Expr} {es : List Expr} {t : TA}
theorem pe_callD (D : Dfn X.prog X.w X.K X.mg X.base x k ps sp) (hr : Room j X.A) (hj : k ≤ j) (hg : Gl X x) (ha : PA X (e :: es) t)
    (hdb : (x == ("__debug__" : Str)) = false := by decide) (he : starEach (e :: es) X.env = (false, eval e X.env) :: starEach es X.env := by rfl) (hpl : (backTo pos (starEach es X.env)).any (·.1) = false := by rfl) :
    PE X (.Call (.Name x p) (e :: es) [] pos) (tCall sp [] E0 t) := by
  obtain ⟨f, fd, h1, h2, h3, h4⟩ := D.ex
  exact pe_call h4 (hr.mono hj) hg h1 h2 h3 .nil pass0 ha hdb he hpl
theorem pe_callD0 (D : Dfn X.prog X.w X.K X.mg X.base x k ps sp) (hr : Room j X.A) (hj : k ≤ j) (hg : Gl X x)
    (hdb : (x == ("__debug__" : Str)) = false := by decide) : PE X (.Call (.Name x p) [] [] pos) (tCall sp [] E0 tNil) := by
  obtain ⟨f, fd, h1, h2, h3, h4⟩ := D.ex
  exact pe_call0 h4 (hr.mono hj) hg h1 h2 h3 .nil pass0 hdb
end

/-! ### loops over enumerate(list) -/
section
variable {K : PySem.W.Frag} {a : Addr} {xs : List V}
theorem for_enum {g : TG} {tb : TS} {D : Ends} {σ : L2.St} {H : Hp} (Pv : Nat → L2.St → Hp → Prop) (h0 : Pv 0 σ H) (hl : ∀ i σ H, i ≤ xs.length → Pv i σ H → SqL K H a xs)
    (hs : ∀ i x σ H T, xs[i]? = some x → Pv i σ H → H T = none → g (.ref T) σ (upd H T (.tup [.int (i : Nat), x])) fun σ2 H2 => tb { D with nx := Pv (i + 1), ct := Pv (i + 1), bk := D.nx } σ2 H2) (hd : ∀ σ H, Pv xs.length σ H → D.nx σ H) :
    ∃ W : Nat → Nat → L2.St → Hp → Prop, (∃ m, W 0 m σ H) ∧ ∀ i m σ H, W i m σ H →
      ((Ite K a).stop i H ∧ D.nx σ H) ∨ ((Ite K a).go i H ∧ ∃ N : L2.St → Hp → Prop, (∀ σ' H', N σ' H' → ∃ m', m' < m ∧ W (i + 1) m' σ' H') ∧ ∀ x H', (Ite K a).yld i H x H' → g x σ H' fun σ2 H2 => tb { D with nx := N, ct := N, bk := D.nx } σ2 H2) := by
  refine ⟨fun i m σ H => m = xs.length - i ∧ i ≤ xs.length ∧ Pv i σ H, ⟨xs.length, by simp, Nat.zero_le _, h0⟩, ?_⟩
  rintro i m σ H ⟨rfl, hi, p⟩
  have q := hl i σ H hi p
  by_cases hlt : i < xs.length
  · refine .inr ⟨⟨xs, xs[i], q, by simp [hlt]⟩, Pv (i + 1), fun σ' H' p' => ⟨xs.length - (i + 1), by omega, rfl, hlt, p'⟩, fun x H' y => ?_⟩
    obtain ⟨T, y, e1, e2, e3, y3⟩ := y
    subst e1 e3
    exact hs i y σ _ T (y3 xs q) p e2
  · have e : i = xs.length := by omega
    subst e
    exact .inl ⟨⟨xs, q, Nat.le_refl _⟩, hd σ H p⟩
theorem lc_enum {g : TG} {tt : TT} {te : TE} {vs : List Nat} {σ : L2.St} {H1 : Hp} {D : Addr} {Qd : Hp → Prop} (Pv : Nat → Hp → Prop) (h0 : Pv 0 (upd H1 D (.lst []))) (hl : ∀ i H, i ≤ xs.length → Pv i H → SqL K H a xs)
    (hs : ∀ i x H T, xs[i]? = some x → Pv i H → H T = none → g (.ref T) (wipe σ vs) (upd H T (.tup [.int (i : Nat), x])) fun σ2 H2 => wipe σ2 vs = wipe σ vs ∧ tt σ2 H2 fun b H3 =>
      if b = true then te σ2 H3 fun y H4 => ∃ acc, H4 D = some (.lst acc) ∧ acc.length < sizeLine ∧ Pv (i + 1) (upd H4 D (.lst (acc ++ [y]))) else Pv (i + 1) H3) (hd : ∀ H, Pv xs.length H → Qd H) :
    ∃ W : Nat → Nat → Hp → Prop, (∃ m, W 0 m (upd H1 D (.lst []))) ∧ ∀ i m H, W i m H →
      ((Ite K a).stop i H ∧ Qd H) ∨ ((Ite K a).go i H ∧ ∃ Nx : Hp → Prop, (∀ H', Nx H' → ∃ m', m' < m ∧ W (i + 1) m' H') ∧ ∀ x H', (Ite K a).yld i H x H' → g x (wipe σ vs) H' fun σ2 H2 => wipe σ2 vs = wipe σ vs ∧ tt σ2 H2 fun b H3 =>
        if b = true then te σ2 H3 fun y H4 => ∃ acc, H4 D = some (.lst acc) ∧ acc.length < sizeLine ∧ Nx (upd H4 D (.lst (acc ++ [y]))) else Nx H3) := by
  refine ⟨fun i m H => m = xs.length - i ∧ i ≤ xs.length ∧ Pv i H, ⟨xs.length, by simp, Nat.zero_le _, h0⟩, ?_⟩
  rintro i m H ⟨rfl, hi, p⟩
  have q := hl i H hi p
  by_cases hlt : i < xs.length
  · refine .inr ⟨⟨xs, xs[i], q, by simp [hlt]⟩, Pv (i + 1), fun H' p' => ⟨xs.length - (i + 1), by omega, rfl, hlt, p'⟩, fun x H' y => ?_⟩
    obtain ⟨T, y, e1, e2, e3, y3⟩ := y
    subst e1 e3
    exact hs i y _ T (y3 xs q) p e2
  · have e : i = xs.length := by omega
    subst e
    exact .inl ⟨⟨xs, q, Nat.le_refl _⟩, hd H p⟩
end

/-! ### what the top leaves of the built-in names -/
structure Blt (mg : Str → Option Value) : Prop where
  len : mg "len" = none
  range : mg "range" = none
  enumerate : mg "enumerate" = none
  sorted : mg "sorted" = none
  max : mg "max" = none
  min : mg "min" = none
  sum : mg "sum" = none
  list : mg "list" = none
  all : mg "all" = none
  any : mg "any" = none
  isinstance : mg "isinstance" = none
  zip : mg "zip" = none
  abs : mg "abs" = none
  int : mg "int" = none
  bool : mg "bool" = none
  tuple : mg "tuple" = none
  set : mg "set" = none
  str : mg "str" = none

/-! ### places of the text -/
def xRet : Stmt → Expr
  | .Return (some e) _ => e
  | _ => .Constant .none 0 ⟨0, 0, 0, 0⟩
def xExpr : Stmt → Expr
  | .Expr e _ => e
  | _ => .Constant .none 0 ⟨0, 0, 0, 0⟩
def xVal : Stmt → Expr
  | .Assign _ e _ => e
  | .AugAssign _ _ e _ => e
  | _ => .Constant .none 0 ⟨0, 0, 0, 0⟩
def xTest : Stmt → Expr
  | .If e _ _ _ => e
  | .While e _ _ _ => e
  | _ => .Constant .none 0 ⟨0, 0, 0, 0⟩
def xBody : Stmt → List Stmt
  | .If _ b _ _ => b
  | .While _ b _ _ => b
  | .For _ _ b _ _ => b
  | _ => []
def xElse : Stmt → List Stmt
  | .If _ _ b _ => b
  | _ => []
def xIter : Stmt → Expr
  | .For _ e _ _ _ => e
  | _ => .Constant .none 0 ⟨0, 0, 0, 0⟩
def xLcSc : Expr → Scope
  | .ListComp _ _ s _ => s
  | _ => { kind := .function, names := [], isGenerator := false, isCoroutine := false }
/-- the scope of a block within a block -/
def xRel (sc scope : Scope) : Scope := { scope with names := scope.names.map fun (n, k) => if (k == .free && sc.kind == .function && sc.names.lookup n == some .cell) then (n, .cell) else (n, k) }
def xLcElt : Expr → Expr
  | .ListComp e _ _ _ => e
  | e => e
def xLcIter : Expr → Expr
  | .ListComp _ (g :: _) _ _ => g.iter
  | e => e
def xLcIf : Expr → Expr
  | .ListComp _ (g :: _) _ _ => g.ifs.headD (.Constant .none 0 ⟨0, 0, 0, 0⟩)
  | e => e
def xArg : Expr → Nat → Expr
  | .Call _ as _ _, i => as.getD i (.Constant .none 0 ⟨0, 0, 0, 0⟩)
  | e, _ => e
def xCallO : Expr → Expr
  | .Call (.Attribute o _ _) _ _ _ => o
  | e => e
def xAttr : Expr → Expr
  | .Attribute o _ _ => o
  | e => e
def xBinL : Expr → Expr
  | .BinOp a _ _ _ => a
  | e => e
def xBinR : Expr → Expr
  | .BinOp _ _ a _ => a
  | e => e
def xUn : Expr → Expr
  | .UnaryOp _ a _ => a
  | e => e
def xCmpL : Expr → Expr
  | .Compare a _ _ _ => a
  | e => e
def xCmpR : Expr → Nat → Expr
  | .Compare _ _ as _, i => as.getD i (.Constant .none 0 ⟨0, 0, 0, 0⟩)
  | e, _ => e
def xBool : Expr → Nat → Expr
  | .BoolOp _ as _, i => as.getD i (.Constant .none 0 ⟨0, 0, 0, 0⟩)
  | e, _ => e
def xLst : Expr → Nat → Expr
  | .List as _, i => as.getD i (.Constant .none 0 ⟨0, 0, 0, 0⟩)
  | e, _ => e
def xTup : Expr → Nat → Expr
  | .Tuple as _ _, i => as.getD i (.Constant .none 0 ⟨0, 0, 0, 0⟩)
  | e, _ => e
def xSub : Expr → Expr
  | .Subscript a _ _ => a
  | e => e
def xIx : Expr → Expr
  | .Subscript _ a _ => a
  | e => e
def xIfT : Expr → Expr
  | .IfExp a _ _ _ => a
  | e => e
def xIfA : Expr → Expr
  | .IfExp _ a _ _ => a
  | e => e
def xIfB : Expr → Expr
  | .IfExp _ _ a _ => a
  | e => e

/-! ### sizes -/
theorem sz {n : Nat} (h : n ≤ 100000) : n ≤ sizeLine := Nat.le_trans h (by decide)
theorem szl {n : Nat} (h : n < 100000) : n < sizeLine := Nat.lt_of_lt_of_le h (by decide)
theorem atI_of {α : Type} {xs : List α} {i : Nat} {v : α} (h : xs[i]? = some v) : atI xs (i : Int) = some v := atI_nat h

/-! ### the readings by names -/
abbrev qAdd : R2 := rI0 fun i j => .int (i + j)
abbrev qSub : R2 := rI0 fun i j => .int (i - j)
abbrev qMul : R2 := rI CMul fun i j => .int (i * j)
abbrev qMulW : R2 := rI CMulW fun i j => .int (i * j)
abbrev qDiv : R2 := rI CDiv fun i j => .int (i / j)
abbrev qMod : R2 := rI (fun _ j => 0 < j) fun i j => .int (i % j)
abbrev qPow : R2 := rI CPow fun i j => .int (i ^ j.toNat)
abbrev qLt : R2 := rI0 fun i j => .bl (decide (i < j))
abbrev qLe : R2 := rI0 fun i j => .bl (decide (i ≤ j))
abbrev qGt : R2 := rI0 fun i j => .bl (decide (j < i))
abbrev qGe : R2 := rI0 fun i j => .bl (decide (j ≤ i))
abbrev qNeg : V → Hp → VK → Prop := rU fun i => .int (-i)
abbrev qIsN : R2 := fun x y H Q => y = .non ∧ Q (.bl (decide (x = .non))) H
abbrev qNotN : R2 := fun x y H Q => y = .non ∧ Q (.bl (!decide (x = .non))) H
abbrev RC := List V → Hp → VK → Prop
abbrev qLen (K : PySem.W.Frag) : RC := fun xs H Q => ∃ p ys, xs = [.ref p] ∧ (SqL K H p ys ∨ SqT K H p ys) ∧ Q (.int ys.length) H
abbrev qLenD : RC := fun xs H Q => ∃ a kvs, xs = [V.ref a] ∧ H a = some (.dK kvs) ∧ Q (.int kvs.length) H
abbrev qLenStr : RC := fun xs H Q => ∃ z, xs = [.str z] ∧ z.length ≤ sizeLine ∧ Q (.int z.length) H
abbrev qList (K : PySem.W.Frag) : RC := fun xs H Q => ∃ p ys, xs = [.ref p] ∧ (SqL K H p ys ∨ SqT K H p ys) ∧ ∀ l, H l = none → Q (.ref l) (upd H l (.lst ys))
abbrev qListD : RC := fun xs H Q => ∃ (a : Addr) (kvs : List (Key × V)), xs = [.ref a] ∧ Rd H a (.dK kvs) ∧ ∀ p, H p = none → Q (.ref p) (upd H p (.lst (kvs.map fun kv => kV kv.1)))
abbrev qTuple (K : PySem.W.Frag) : RC := fun xs H Q => ∃ p ys, xs = [.ref p] ∧ ((SqL K H p ys ∧ ∀ l, H l = none → Q (.ref l) (upd H l (.tup ys))) ∨ (SqT K H p ys ∧ Q (.ref p) H))
abbrev qMax2 : RC := fun xs H Q => ∃ i j, xs = [.int i, .int j] ∧ Q (.int (if j > i then j else i)) H
abbrev qMin2 : RC := fun xs H Q => ∃ i j, xs = [.int i, .int j] ∧ Q (.int (if j < i then j else i)) H
abbrev qAbs : RC := fun xs H Q => ∃ i, xs = [.int i] ∧ Q (.int (if i < 0 then -i else i)) H
abbrev qInsert : V → List V → Hp → VK → Prop := fun x vs H Q => ∃ (l : Addr) (xs : List V) (i : Int) (y : V), x = .ref l ∧ vs = [.int i, y] ∧ H l = some (.lst xs) ∧ xs.length < sizeLine ∧ 0 ≤ i ∧ i < 2 ^ 63 ∧ Q .non (upd H l (.lst (xs.take i.toNat ++ [y] ++ xs.drop i.toNat)))
/-- the ends of a def's body -/
abbrev fin (Q : VK) : Ends := { nx := fun _ H' => Q .non H', rt := Q }
/-- the slots ahead of a def's body -/
abbrev st0 (n : Nat) (vs : List V) : L2.St := vs.map some ++ List.replicate (n - vs.length) none

/-! ### comprehensions without a test -/
theorem yes_of {A B : Hp → Prop} {σ : L2.St} {H : Hp} (h : A H) : tYes σ H (fun b H3 => if b = true then A H3 else B H3) := by
  show (if true = true then A H else B H)
  rw [if_pos rfl]
  exact h
section
variable {g : TG} {te : TE} {vs : List Nat} {σ : L2.St} {H1 : Hp} {D : Addr} {Qd : Hp → Prop}
theorem lc_rangeY {lo : Int} {n : Nat} (Pv : Nat → Hp → Prop) (h0 : Pv 0 (upd H1 D (.lst [])))
    (hs : ∀ i H, i < n → Pv i H → g (.int (lo + i)) (wipe σ vs) H fun σ2 H2 => wipe σ2 vs = wipe σ vs ∧ te σ2 H2 fun y H4 => ∃ acc, H4 D = some (.lst acc) ∧ acc.length < sizeLine ∧ Pv (i + 1) (upd H4 D (.lst (acc ++ [y])))) (hd : ∀ H, Pv n H → Qd H)
    (mono : ∀ v σ H Q Q', (∀ σ2 H2, Q σ2 H2 → Q' σ2 H2) → g v σ H Q → g v σ H Q') :
    ∃ W : Nat → Nat → Hp → Prop, (∃ m, W 0 m (upd H1 D (.lst []))) ∧ ∀ i m H, W i m H →
      ((Itr lo n).stop i H ∧ Qd H) ∨ ((Itr lo n).go i H ∧ ∃ Nx : Hp → Prop, (∀ H', Nx H' → ∃ m', m' < m ∧ W (i + 1) m' H') ∧ ∀ x H', (Itr lo n).yld i H x H' → g x (wipe σ vs) H' fun σ2 H2 => wipe σ2 vs = wipe σ vs ∧ tYes σ2 H2 fun b H3 =>
        if b = true then te σ2 H3 fun y H4 => ∃ acc, H4 D = some (.lst acc) ∧ acc.length < sizeLine ∧ Nx (upd H4 D (.lst (acc ++ [y]))) else Nx H3) :=
  lc_range Pv h0 (fun i H hi p => mono _ _ _ _ _ (fun σ2 H2 ⟨e, q⟩ => ⟨e, yes_of q⟩) (hs i H hi p)) hd
theorem lc_listY {K : PySem.W.Frag} {a : Addr} {xs : List V} (Pv : Nat → Hp → Prop) (h0 : Pv 0 (upd H1 D (.lst []))) (hl : ∀ i H, i ≤ xs.length → Pv i H → SqL K H a xs)
    (hs : ∀ i x H, xs[i]? = some x → Pv i H → g x (wipe σ vs) H fun σ2 H2 => wipe σ2 vs = wipe σ vs ∧ te σ2 H2 fun y H4 => ∃ acc, H4 D = some (.lst acc) ∧ acc.length < sizeLine ∧ Pv (i + 1) (upd H4 D (.lst (acc ++ [y])))) (hd : ∀ H, Pv xs.length H → Qd H)
    (mono : ∀ v σ H Q Q', (∀ σ2 H2, Q σ2 H2 → Q' σ2 H2) → g v σ H Q → g v σ H Q') :
    ∃ W : Nat → Nat → Hp → Prop, (∃ m, W 0 m (upd H1 D (.lst []))) ∧ ∀ i m H, W i m H →
      ((Itl K a).stop i H ∧ Qd H) ∨ ((Itl K a).go i H ∧ ∃ Nx : Hp → Prop, (∀ H', Nx H' → ∃ m', m' < m ∧ W (i + 1) m' H') ∧ ∀ x H', (Itl K a).yld i H x H' → g x (wipe σ vs) H' fun σ2 H2 => wipe σ2 vs = wipe σ vs ∧ tYes σ2 H2 fun b H3 =>
        if b = true then te σ2 H3 fun y H4 => ∃ acc, H4 D = some (.lst acc) ∧ acc.length < sizeLine ∧ Nx (upd H4 D (.lst (acc ++ [y]))) else Nx H3) :=
  lc_list Pv h0 hl (fun i x H hi p => mono _ _ _ _ _ (fun σ2 H2 ⟨e, q⟩ => ⟨e, yes_of q⟩) (hs i x H hi p)) hd
theorem lc_enumY {K : PySem.W.Frag} {a : Addr} {xs : List V} (Pv : Nat → Hp → Prop) (h0 : Pv 0 (upd H1 D (.lst []))) (hl : ∀ i H, i ≤ xs.length → Pv i H → SqL K H a xs)
    (hs : ∀ i x H T, xs[i]? = some x → Pv i H → H T = none → g (.ref T) (wipe σ vs) (upd H T (.tup [.int (i : Nat), x])) fun σ2 H2 => wipe σ2 vs = wipe σ vs ∧ te σ2 H2 fun y H4 => ∃ acc, H4 D = some (.lst acc) ∧ acc.length < sizeLine ∧ Pv (i + 1) (upd H4 D (.lst (acc ++ [y])))) (hd : ∀ H, Pv xs.length H → Qd H)
    (mono : ∀ v σ H Q Q', (∀ σ2 H2, Q σ2 H2 → Q' σ2 H2) → g v σ H Q → g v σ H Q') :
    ∃ W : Nat → Nat → Hp → Prop, (∃ m, W 0 m (upd H1 D (.lst []))) ∧ ∀ i m H, W i m H →
      ((Ite K a).stop i H ∧ Qd H) ∨ ((Ite K a).go i H ∧ ∃ Nx : Hp → Prop, (∀ H', Nx H' → ∃ m', m' < m ∧ W (i + 1) m' H') ∧ ∀ x H', (Ite K a).yld i H x H' → g x (wipe σ vs) H' fun σ2 H2 => wipe σ2 vs = wipe σ vs ∧ tYes σ2 H2 fun b H3 =>
        if b = true then te σ2 H3 fun y H4 => ∃ acc, H4 D = some (.lst acc) ∧ acc.length < sizeLine ∧ Nx (upd H4 D (.lst (acc ++ [y]))) else Nx H3) :=
  lc_enum Pv h0 hl (fun i x H T hi p hT => mono _ _ _ _ _ (fun σ2 H2 ⟨e, q⟩ => ⟨e, yes_of q⟩) (hs i x H T hi p hT)) hd
end
theorem gN_mono (j : Nat) : ∀ v σ H Q Q', (∀ σ2 H2, Q σ2 H2 → Q' σ2 H2) → gName j v σ H Q → gName j v σ H Q' := fun _ _ _ _ _ f h => f _ _ h
theorem gT2_mono (K : PySem.W.Frag) (i j : Nat) : ∀ v σ H Q Q', (∀ σ2 H2, Q σ2 H2 → Q' σ2 H2) → gTup K 2 (gCons (gName i) (gCons (gName j) gNil)) v σ H Q → gTup K 2 (gCons (gName i) (gCons (gName j) gNil)) v σ H Q' := by
  rintro v σ H Q Q' f ⟨a, xs, e1, e2, e3, v1, r1, e4, v2, r2, e5, e6, q⟩
  exact ⟨a, xs, e1, e2, e3, v1, r1, e4, v2, r2, e5, e6, f _ _ q⟩
theorem gT3_mono (K : PySem.W.Frag) (i j l : Nat) : ∀ v σ H Q Q', (∀ σ2 H2, Q σ2 H2 → Q' σ2 H2) → gTup K 3 (gCons (gName i) (gCons (gName j) (gCons (gName l) gNil))) v σ H Q → gTup K 3 (gCons (gName i) (gCons (gName j) (gCons (gName l) gNil))) v σ H Q' := by
  rintro v σ H Q Q' f ⟨a, xs, e1, e2, e3, v1, r1, e4, v2, r2, e5, v3, r3, e6, e7, q⟩
  exact ⟨a, xs, e1, e2, e3, v1, r1, e4, v2, r2, e5, v3, r3, e6, e7, f _ _ q⟩

/-! ### rows written -/
theorem Lo.rowW {H0 H : Hp} {A B : List Cell} {p : Addr} {ps : List Addr} {rs : List (List Int)} {k : Nat} {q : Addr} {r : List Int} (h : Lo H0 H (A ++ (llC p ps rs ++ B))) (hq : ps[k]? = some q) (hr : rs[k]? = some r) (r' : List Int) :
    Lo H0 (upd H q (intsO r')) (A ++ (llC p ps (rs.set k r') ++ B)) := by
  obtain ⟨C, D, e1, e2⟩ := rowsC_split hq hr
  have e3 : A ++ (llC p ps rs ++ B) = (A ++ (p, refsO ps) :: C) ++ (q, intsO r) :: (D ++ B) := by
    unfold llC; rw [e1]; simp
  have e4 : A ++ (llC p ps (rs.set k r') ++ B) = (A ++ (p, refsO ps) :: C) ++ (q, intsO r') :: (D ++ B) := by
    unfold llC; rw [e2]; simp
  rw [e4]
  exact (h.to e3).wr _
/-- a new row at the end of a list of rows -/
theorem Lo.rowN {H0 H : Hp} {B : List Cell} {p : Addr} {ps : List Addr} {rs : List (List Int)} {q : Addr} {r : List Int} (h : Lo H0 H ((q, intsO r) :: (llC p ps rs ++ B))) (hl : ps.length = rs.length) :
    Lo H0 (upd H p (refsO (ps ++ [q]))) (llC p (ps ++ [q]) (rs ++ [r]) ++ B) := by
  have L2 : Lo H0 H (((q, intsO r) :: []) ++ (p, refsO ps) :: (rowsC ps rs ++ B)) := h
  refine (L2.wr (refsO (ps ++ [q]))).perm ?_
  unfold llC
  rw [rowsC_snoc hl]
  simp only [List.cons_append, List.nil_append, List.append_assoc]
  refine (List.Perm.swap _ _ _).trans (List.Perm.cons _ ?_)
  exact (List.perm_middle (a := (q, intsO r)) (l₁ := rowsC ps rs) (l₂ := B)).symm
theorem Lo.rowN0 {H0 H : Hp} {p : Addr} {ps : List Addr} {rs : List (List Int)} {q : Addr} {r : List Int} (h : Lo H0 H ((q, intsO r) :: llC p ps rs)) (hl : ps.length = rs.length) :
    Lo H0 (upd H p (refsO (ps ++ [q]))) (llC p (ps ++ [q]) (rs ++ [r])) := by
  have := Lo.rowN (B := []) (p := p) (ps := ps) (rs := rs) (q := q) (r := r) (h.to (by rw [List.append_nil])) hl
  rwa [List.append_nil] at this
theorem Lo.rowW0 {H0 H : Hp} {p : Addr} {ps : List Addr} {rs : List (List Int)} {k : Nat} {q : Addr} {r : List Int} (h : Lo H0 H (llC p ps rs)) (hq : ps[k]? = some q) (hr : rs[k]? = some r) (r' : List Int) :
    Lo H0 (upd H q (intsO r')) (llC p ps (rs.set k r')) := by
  have := Lo.rowW (A := []) (B := []) (h.to (by rw [List.append_nil]; rfl)) hq hr r'
  rwa [List.append_nil] at this
theorem Lo.rowW1 {H0 H : Hp} {B : List Cell} {p : Addr} {ps : List Addr} {rs : List (List Int)} {k : Nat} {q : Addr} {r : List Int} (h : Lo H0 H (llC p ps rs ++ B)) (hq : ps[k]? = some q) (hr : rs[k]? = some r) (r' : List Int) :
    Lo H0 (upd H q (intsO r')) (llC p ps (rs.set k r') ++ B) := Lo.rowW (A := []) h hq hr r'
theorem map_int_snoc (r : List Int) (x : Int) : List.map V.int r ++ [V.int x] = List.map V.int (r ++ [x]) := by simp
theorem map_ref_snoc (r : List Addr) (x : Addr) : List.map V.ref r ++ [V.ref x] = List.map V.ref (r ++ [x]) := by simp
theorem atI_ref {ps : List Addr} {i : Int} {q : Addr} (h0 : 0 ≤ i) (h : ps[i.toNat]? = some q) : atI (ps.map V.ref) i = some (.ref q) := by
  have := atI_nat (xs := ps.map V.ref) (j := i.toNat) (v := V.ref q) (by rw [List.getElem?_map, h]; rfl)
  rwa [show ((i.toNat : Nat) : Int) = i by omega] at this
theorem atI_int {ps : List Int} {i : Int} {q : Int} (h0 : 0 ≤ i) (h : ps[i.toNat]? = some q) : atI (ps.map V.int) i = some (.int q) := by
  have := atI_nat (xs := ps.map V.int) (j := i.toNat) (v := V.int q) (by rw [List.getElem?_map, h]; rfl)
  rwa [show ((i.toNat : Nat) : Int) = i by omega] at this
theorem get_some {α : Type} {xs : List α} {i : Nat} (h : i < xs.length) : xs[i]? = some (xs[i]'h) := List.getElem?_eq_some_iff.mpr ⟨h, rfl⟩
theorem mapV_get {f : Int → V} {us : List Int} {i : Nat} {x : V} (h : (us.map f)[i]? = some x) : ∃ u, us[i]? = some u ∧ x = f u := by
  rw [List.getElem?_map] at h
  cases e : us[i]? with
  | none => rw [e] at h; cases h
  | some u => rw [e] at h; exact ⟨u, rfl, (Option.some.inj h).symm⟩
theorem mapA_get {f : Addr → V} {us : List Addr} {i : Nat} {x : V} (h : (us.map f)[i]? = some x) : ∃ u, us[i]? = some u ∧ x = f u := by
  rw [List.getElem?_map] at h
  cases e : us[i]? with
  | none => rw [e] at h; cases h
  | some u => rw [e] at h; exact ⟨u, rfl, (Option.some.inj h).symm⟩
theorem lt_of_get {α : Type} {xs : List α} {i : Nat} {x : α} (h : xs[i]? = some x) : i < xs.length := (List.getElem?_eq_some_iff.mp h).1

/-! ### [list(row) for row in rows] -/
theorem wipe1 (σ : L2.St) (j : Nat) : wipe σ [j] = σ.set j none := rfl
theorem wipe1_set (σ : L2.St) (j : Nat) (x : Option V) : wipe ((wipe σ [j]).set j x) [j] = wipe σ [j] := by
  rw [wipe1, wipe1, List.set_set, List.set_set]
theorem slot_set {σ : L2.St} {j : Nat} (hj : j < σ.length) (x : Option V) : (σ.set j x)[j]? = some x := by simp [hj]
theorem slot_wset {σ : L2.St} {j : Nat} (hj : j < σ.length) (x : Option V) : ((wipe σ [j]).set j x)[j]? = some x := by rw [wipe1]; simp [hj]
theorem ev_copy {K : PySem.W.Frag} {σ : L2.St} {H : Hp} {tl : TE} {j : Nat} {Q : VK} {po : Addr} {pso : List Addr} {rows : List (List Int)} (h : ∀ Q' : VK, Q' (.ref po) H → tl σ H Q') (R : Rows H po pso rows) (hz : rows.length ≤ 10000) (hj : j < σ.length)
    (k : ∀ p ps H', Lo H H' (llC p ps rows) → ps.length = rows.length → Q (.ref p) H') : tLc (iList K tl) (gName j) tYes (tCB (qList K) (tCons (tVar j) tNil)) [j] σ H Q := by
  refine h _ ⟨po, rfl, ⟨_, SqL.of R.top⟩, fun D hD => ?_⟩
  refine lc_listY (xs := pso.map V.ref) (fun i H1 => ∃ ps, ps.length = i ∧ Lo H H1 (llC D ps (rows.take i))) ⟨[], rfl, (Lo.nil H).al hD _⟩ ?_ ?_ ?_ (gN_mono _)
  · rintro i H1 hi ⟨ps, hps, L1⟩
    exact SqL.of (L1.same _ _ R.top)
  · rintro i x H1 hx ⟨ps, hps, L1⟩
    obtain ⟨q, hq, rfl⟩ := mapA_get hx
    have hi := lt_of_get hq
    have hr := get_some (xs := rows) (i := i) (by rw [← R.len]; exact hi)
    refine ⟨wipe1_set _ _ _, _, slot_wset hj _, q, _, rfl, .inl (SqL.of (L1.same _ _ (R.row hq hr))), fun l hl => ?_⟩
    have L2 := L1.al hl (intsO (rows[i]'(by rw [← R.len]; exact hi)))
    refine ⟨ps.map V.ref, L2.get (List.mem_cons_of_mem _ List.mem_cons_self), szl (by simp; have := R.len; omega), ps ++ [l], by simp [hps], ?_⟩
    rw [map_ref_snoc, List.take_add_one, hr]
    exact L2.rowN0 (by rw [hps, List.length_take_of_le (by rw [← R.len]; omega)])
  · rintro H1 ⟨ps, hps, L1⟩
    have e : (pso.map V.ref).length = rows.length := by rw [List.length_map]; exact R.len
    rw [e] at L1 hps
    rw [List.take_length] at L1
    exact k D ps H1 L1 hps

/-! ### data that are read -/
/-- a list of ints -/
def IsI (H : Hp) (v : V) (r : List Int) : Prop := ∃ p, v = .ref p ∧ H p = some (intsO r)
theorem IsI.same {H H' : Hp} {v : V} {r : List Int} (h : IsI H v r) (s : Same H H') : IsI H' v r := by
  obtain ⟨p, e, h⟩ := h
  exact ⟨p, e, s _ _ h⟩
/-- a list of lists of ints -/
def IsLL (H : Hp) (v : V) (rs : List (List Int)) : Prop := ∃ p ps, v = .ref p ∧ Rows H p ps rs
theorem IsLL.same {H H' : Hp} {v : V} {r : List (List Int)} (h : IsLL H v r) (s : Same H H') : IsLL H' v r := by
  obtain ⟨p, ps, e, h⟩ := h
  exact ⟨p, ps, e, h.same s⟩
theorem Same.new {H : Hp} {p : Addr} (hp : H p = none) (o : HO) : Same H (upd H p o) := fun b u e => by
  rw [upd_ne (ne_of_none e hp)]; exact e
theorem Same.mut {H H' : Hp} (s : Same H H') {p : Addr} (hp : H p = none) (o : HO) : Same H (upd H' p o) := fun b u e => by
  rw [upd_ne (ne_of_none e hp)]; exact s _ _ e
/-! deep data -/
theorem dp_ints {K : PySem.W.Frag} {H : Hp} : ∀ ns : List Int, DpAll K H (ns.map V.int) (ns.map PyData.int)
  | [] => .nil
  | n :: ns => .cons (.int n) (dp_ints ns)
abbrev dI (r : List Int) : PyData := .list (r.map PyData.int)
abbrev dLL (rs : List (List Int)) : PyData := .list (rs.map dI)
theorem dp_I {K : PySem.W.Frag} {H : Hp} {p : Addr} {r : List Int} (h : H p = some (intsO r)) : Dp K H (.ref p) (dI r) := .lst (SqL.of h) (dp_ints r)
theorem dp_SqI {K : PySem.W.Frag} {H : Hp} {p : Addr} {r : List Int} (h : SqL K H p (r.map V.int)) : Dp K H (.ref p) (dI r) := .lst h (dp_ints r)
theorem dp_rows {K : PySem.W.Frag} {H : Hp} : ∀ {ps : List Addr} {rs : List (List Int)}, ps.length = rs.length → (∀ {i : Nat} {q : Addr} {r : List Int}, ps[i]? = some q → rs[i]? = some r → H q = some (intsO r)) → DpAll K H (ps.map V.ref) (rs.map dI)
  | [], [], _, _ => .nil
  | p :: ps, r :: rs, h, f => .cons (dp_I (f (i := 0) rfl rfl)) (dp_rows (Nat.succ.inj h) (fun {i q s} a b => f (i := i + 1) (by simpa using a) (by simpa using b)))
theorem Rows.dp {K : PySem.W.Frag} {H : Hp} {p : Addr} {ps : List Addr} {rs : List (List Int)} (h : Rows H p ps rs) : Dp K H (.ref p) (dLL rs) := .lst (SqL.of h.top) (dp_rows h.len h.row)
/-- a value told otherwise -/
theorem Vc {Q : VK} {v v' : V} {H : Hp} (e : v = v') (h : Q v' H) : Q v H := e ▸ h
theorem Vi {Q : VK} {i j : Int} {H : Hp} (e : i = j) (h : Q (.int j) H) : Q (.int i) H := e ▸ h
theorem Vb {Q : VK} {i j : Bool} {H : Hp} (e : i = j) (h : Q (.bl j) H) : Q (.bl i) H := e ▸ h
theorem Hc {P : Hp → Prop} {H : Hp} {p : Addr} {o o' : HO} (e : o = o') (h : P (upd H p o')) : P (upd H p o) := e ▸ h
/-! ### statements, one by one: what is reckoned is told apart from what follows -/
section
variable {te ta : TE} {tt : TT} {tz tu tw : TS} {D : Ends} {σ : L2.St} {H : Hp} {v : V} {i : Nat}
/-- te gives v and leaves the heap -/
def Va (te : TE) (σ : L2.St) (H : Hp) (v : V) : Prop := ∀ Q : VK, Q v H → te σ H Q
/-- te gives some v and heap of which R holds -/
def Vr (te : TE) (σ : L2.St) (H : Hp) (R : V → Hp → Prop) : Prop := ∀ Q : VK, (∀ v H', R v H' → Q v H') → te σ H Q
/-- a test that gives b and leaves the heap; that may add -/
def Ta (tt : TT) (σ : L2.St) (H : Hp) (b : Bool) : Prop := ∀ Q : Bool → Hp → Prop, Q b H → tt σ H Q
def Tr (tt : TT) (σ : L2.St) (H : Hp) (b : Bool) : Prop := ∀ Q : Bool → Hp → Prop, (∀ H', Same H H' → Q b H') → tt σ H Q
theorem q_set (h : Va te σ H v) (k : tz D (σ.set i (some v)) H) : tSeq (tAsg te (gName i)) tz D σ H := h _ k
theorem q_setR {R : V → Hp → Prop} (h : Vr te σ H R) (k : ∀ v H', R v H' → tz D (σ.set i (some v)) H') : tSeq (tAsg te (gName i)) tz D σ H := h _ k
theorem s_set (h : Va te σ H v) (k : D.nx (σ.set i (some v)) H) : tAsg te (gName i) D σ H := h _ k
theorem s_setR {R : V → Hp → Prop} (h : Vr te σ H R) (k : ∀ v H', R v H' → D.nx (σ.set i (some v)) H') : tAsg te (gName i) D σ H := h _ k
theorem q_drp {R : V → Hp → Prop} (h : Vr te σ H R) (k : ∀ v H', R v H' → tz D σ H') : tSeq (tDrop te) tz D σ H := h _ k
theorem s_drp {R : V → Hp → Prop} (h : Vr te σ H R) (k : ∀ v H', R v H' → D.nx σ H') : tDrop te D σ H := h _ k
theorem s_rt {R : V → Hp → Prop} (h : Vr te σ H R) (k : ∀ v H', R v H' → D.rt v H') : tRet te D σ H := h _ k
theorem s_rta (h : Va te σ H v) (k : D.rt v H) : tRet te D σ H := h _ k
theorem q_if {b : Bool} (h : Tr tt σ H b) (k1 : b = true → ∀ H', Same H H' → tu { D with nx := tz D } σ H') (k2 : b = false → ∀ H', Same H H' → tw { D with nx := tz D } σ H') : tSeq (tIfS tt tu tw) tz D σ H := h _ fun H' s => by
  cases b with
  | true => show (if true = true then _ else tw { D with nx := tz D } σ H'); rw [if_pos rfl]; exact k1 rfl H' s
  | false => show (if false = true then tu { D with nx := tz D } σ H' else _); rw [if_neg Bool.false_ne_true]; exact k2 rfl H' s
theorem s_if {b : Bool} (h : Tr tt σ H b) (k1 : b = true → ∀ H', Same H H' → tu D σ H') (k2 : b = false → ∀ H', Same H H' → tw D σ H') : tIfS tt tu tw D σ H := h _ fun H' s => by
  cases b with
  | true => show (if true = true then _ else tw D σ H'); rw [if_pos rfl]; exact k1 rfl H' s
  | false => show (if false = true then tu D σ H' else _); rw [if_neg Bool.false_ne_true]; exact k2 rfl H' s
/-- an if without else whose test is False -/
theorem q_no (h : Tr tt σ H false) (k : ∀ H', Same H H' → tz D σ H') : tSeq (tIfS tt tu tNext) tz D σ H := h _ fun H' s => by
  show (if false = true then tu { D with nx := tz D } σ H' else _); rw [if_neg Bool.false_ne_true]; exact k H' s
theorem s_no (h : Tr tt σ H false) (k : ∀ H', Same H H' → D.nx σ H') : tIfS tt tu tNext D σ H := h _ fun H' s => by
  show (if false = true then tu D σ H' else _); rw [if_neg Bool.false_ne_true]; exact k H' s
theorem q_yes (h : Tr tt σ H true) (k : ∀ H', Same H H' → tu { D with nx := tz D } σ H') : tSeq (tIfS tt tu tw) tz D σ H := h _ fun H' s => by
  show (if true = true then _ else tw { D with nx := tz D } σ H'); rw [if_pos rfl]; exact k H' s
theorem Ta.r {b : Bool} (h : Ta tt σ H b) : Tr tt σ H b := fun Q q => h Q (q H (Same.refl H))
theorem Va.r (h : Va te σ H v) : Vr te σ H (fun w H' => w = v ∧ H' = H) := fun Q q => h Q (q v H ⟨rfl, rfl⟩)
theorem Tr.eq {b c : Bool} (h : Tr tt σ H b) (e : b = c) : Tr tt σ H c := e ▸ h
theorem Va.eq {w : V} (h : Va te σ H v) (e : v = w) : Va te σ H w := e ▸ h
end
/-! ### cells set in another order, some let go: by pieces, told by their counts -/
theorem Lo.pk {H0 H : Hp} {L L' : List Cell} (h : Lo H0 H L) (as : List (List Cell)) (p q : List Nat) (r : List Nat := []) (e1 : L = p.flatMap fun i => as.getD i [] := by first | (simp; done) | (simp [intsO, refsO]; done)) (e2 : L' = q.flatMap fun i => as.getD i [] := by first | (simp; done) | (simp [intsO, refsO]; done)) (hp : p.Perm (q ++ r) := by decide) : Lo H0 H L' := by
  have h2 : L.Perm ((q ++ r).flatMap fun i => as.getD i []) := by rw [e1]; exact hp.flatMap_right _
  rw [List.flatMap_append, ← e2] at h2
  exact (h.perm h2).sub (List.sublist_append_left _ _)
/-! ### classes -/
section
variable (P : Program) (w : World) (K : PySem.W.Frag) (mg : Str → Option Value) (base : Heap)
/-- a method of the class at C -/
structure Mth (C : Addr) (m : Str) (k : Nat) (ps : List Str) (sp : Sp) : Prop where
  cl : Cls K C
  ex : ∃ (f : Addr) (fd : FuncData), Meth K C m f ∧ Binds K fd ps [] ∧ FnOk P w K mg base CX0 k f fd ps sp
/-- the class C, called by its name x; its __init__ -/
structure Ctr (x : Str) (C : Addr) (k : Nat) (ps : List Str) (sp : Sp) : Prop where
  mgC : mg x = some (.ref C)
  ex : ∃ (f : Addr) (fd : FuncData), Mk K C f ∧ Binds K fd ps [] ∧ FnOk P w K mg base CX0 k f fd ps sp
end
section
variable {X : Cx} {x m : Str} {C : Addr} {k j : Nat} {ps : List Str} {sp : Sp} {p pos apos : Pos} {e o : Expr} {es : List Expr} {t : TA} {ta : TE}
theorem pe_makeD (D : Ctr X.prog X.w X.K X.mg X.base x C k ps sp) (hr : Room j X.A) (hj : k + 1 ≤ j) (hg : Gl X x) (ha : PA X (e :: es) t)
    (hdb : (x == ("__debug__" : Str)) = false := by decide) (he : starEach (e :: es) X.env = (false, eval e X.env) :: starEach es X.env := by rfl) (hpl : (backTo pos (starEach es X.env)).any (·.1) = false := by rfl) :
    PE X (.Call (.Name x p) (e :: es) [] pos) (tMake C sp [] E0 t) := by
  obtain ⟨f, fd, h1, h2, h3⟩ := D.ex
  exact pe_make h1 h3 (hr.mono hj) hg D.mgC h2 .nil pass0 ha hdb he hpl
end
section
variable {K : PySem.W.Frag} {ta tv te : TE} {f : Str} {tz : TS} {D : Ends} {σ : L2.St} {H : Hp} {R : V → Hp → Prop}
theorem q_fld (h : Vr tv σ H R) (k : ∀ y H1, R y H1 → ta σ H1 fun x H2 => ∃ a C dx fs, x = .ref a ∧ H2 a = some (.ins C dx fs) ∧ Cls K C ∧ NoAttr K C f ∧ fs.length < 1000 ∧ tz D σ (upd H2 a (.ins C dx (putF f y fs)))) : tSeq (sFld K ta tv f) tz D σ H := h _ k
theorem s_fld (h : Vr tv σ H R) (k : ∀ y H1, R y H1 → ta σ H1 fun x H2 => ∃ a C dx fs, x = .ref a ∧ H2 a = some (.ins C dx fs) ∧ Cls K C ∧ NoAttr K C f ∧ fs.length < 1000 ∧ D.nx σ (upd H2 a (.ins C dx (putF f y fs)))) : sFld K ta tv f D σ H := h _ k
theorem vr_copy {tl : TE} {j : Nat} {po : Addr} {pso : List Addr} {rows : List (List Int)} (h : Va tl σ H (.ref po)) (R : Rows H po pso rows) (hz : rows.length ≤ 10000) (hj : j < σ.length) :
    Vr (tLc (iList K tl) (gName j) tYes (tCB (qList K) (tCons (tVar j) tNil)) [j]) σ H (fun v H' => ∃ p ps, v = .ref p ∧ Lo H H' (llC p ps rows) ∧ ps.length = rows.length) :=
  fun Q q => ev_copy h R hz hj fun p ps H' L hl => q _ _ ⟨p, ps, rfl, L, hl⟩
theorem va_var {i : Nat} {v : V} (h : σ[i]? = some (some v)) : Va (tVar i) σ H v := fun Q q => ⟨v, h, q⟩
theorem va_c {v : V} : Va (tC v) σ H v := fun Q q => q
/-- list(xs) -/
theorem vr_list {tl : TE} {a : Addr} {xs : List V} (h : Va tl σ H (.ref a)) (hx : SqL K H a xs) : Vr (tCB (qList K) (tCons tl tNil)) σ H (fun v H' => ∃ l, v = .ref l ∧ H l = none ∧ H' = upd H l (.lst xs)) :=
  fun Q q => h _ ⟨a, xs, rfl, .inl hx, fun l hl => q _ _ ⟨l, rfl, hl, rfl⟩⟩
end
/-! ### slices -/
theorem cut_to (xs : List V) (n : Nat) : cutV xs none (some (n : Int)) = xs.take n := by
  unfold cutV
  rw [HT.sIx_none, HT.sIx_nat, List.drop_zero, Nat.sub_zero]
  by_cases h : n ≤ xs.length
  · rw [show min n xs.length = n by omega]
  · rw [show min n xs.length = xs.length by omega, List.take_of_length_le (Nat.le_refl _), List.take_of_length_le (by omega)]
theorem cut_from (xs : List V) (n : Nat) : cutV xs (some (n : Int)) none = xs.drop n := by
  unfold cutV
  rw [HT.sIx_none, HT.sIx_nat]
  by_cases h : n ≤ xs.length
  · rw [show min n xs.length = n by omega, List.take_of_length_le (by simp)]
  · rw [show min n xs.length = xs.length by omega, List.drop_of_length_le (Nat.le_refl _), List.drop_of_length_le (by omega)]
    simp
theorem sIx_neg1 (n d : Nat) : HT.sIx n d (some (-1)) = n - 1 := by
  unfold HT.sIx
  dsimp only
  rw [if_pos (by decide)]
  omega
theorem cut_butlast (xs : List V) : cutV xs none (some (-1)) = xs.take (xs.length - 1) := by
  unfold cutV
  rw [HT.sIx_none, List.drop_zero, Nat.sub_zero, sIx_neg1]
theorem cut_last (xs : List V) : cutV xs (some (-1)) none = xs.drop (xs.length - 1) := by
  unfold cutV
  rw [HT.sIx_none, sIx_neg1, List.take_of_length_le (by simp)]
section
variable {te ta tb : TE} {tr : TA} {tz : TS} {g : TG} {D : Ends} {σ : L2.St} {H : Hp} {R : V → Hp → Prop} {QA : List V → Hp → Prop} {Q : VK} {r : R2}
theorem c_cons (h : Vr te σ H R) (k : ∀ v H', R v H' → tr σ H' (fun xs H2 => QA (v :: xs) H2)) : tCons te tr σ H QA := h _ k
theorem c_op (h : Vr ta σ H R) (k : ∀ v H', R v H' → tb σ H' (fun y H2 => r v y H2 Q)) : tOp r ta tb σ H Q := h _ k
theorem c_cb {rc : List V → Hp → VK → Prop} (h : Vr te σ H R) (k : ∀ v H', R v H' → rc [v] H' Q) : tCB rc (tCons te tNil) σ H Q := h _ k
theorem q_asg (h : Vr te σ H R) (k : ∀ v H', R v H' → g v σ H' (tz D)) : tSeq (tAsg te g) tz D σ H := h _ k
theorem s_asg (h : Vr te σ H R) (k : ∀ v H', R v H' → g v σ H' D.nx) : tAsg te g D σ H := h _ k
end
/-- what follows a while: its word W, a measure; the test leaves the heap or adds to it -/
theorem q_whl {tt : TT} {tb tz : TS} {D : Ends} {σ : L2.St} {H : Hp} (W : Nat → L2.St → Hp → Prop) (m0 : Nat) (h0 : W m0 σ H)
    (hs : ∀ m σ H, W m σ H → tt σ H fun b H1 => if b = true then ∃ N : L2.St → Hp → Prop, (∀ σ' H', N σ' H' → ∃ m', m' < m ∧ W m' σ' H') ∧ tb { D with nx := N, ct := N, bk := tz D } σ H1 else tz D σ H1) : tSeq (tWhile tt tb) tz D σ H :=
  ⟨W, ⟨m0, h0⟩, hs⟩
theorem q_whN {tt : TT} {tb tz : TS} {D : Ends} {σ : L2.St} {H : Hp} (W : Nat → L2.St → Hp → Prop) (m0 : Nat) (h0 : W m0 σ H)
    (hs : ∀ m σ H, W m σ H → tt σ H fun b H1 => if b = true then tb { D with nx := fun σ' H' => ∃ m', m' < m ∧ W m' σ' H', ct := fun σ' H' => ∃ m', m' < m ∧ W m' σ' H', bk := tz D } σ H1 else tz D σ H1)
    (mono : ∀ σ H Q Q', (∀ b H2, Q b H2 → Q' b H2) → tt σ H Q → tt σ H Q') : tSeq (tWhile tt tb) tz D σ H :=
  ⟨W, ⟨m0, h0⟩, fun m σ H w => mono _ _ _ _ (fun b H1 q => by
    cases b with
    | true => exact ⟨_, fun _ _ h => h, q⟩
    | false => exact q) (hs m σ H w)⟩
end Cc

namespace Cc
/-! sorting, as it can be reckoned -/
def insBy {α : Type} (le : α → α → Bool) (x : α) : List α → List α
  | [] => [x]
  | y :: l => if le x y = true then x :: y :: l else y :: insBy le x l
def sortBy {α : Type} (le : α → α → Bool) : List α → List α
  | [] => []
  | x :: l => insBy le x (sortBy le l)
theorem insBy_perm {α : Type} (le : α → α → Bool) (x : α) : ∀ l : List α, (insBy le x l).Perm (x :: l)
  | [] => List.Perm.refl _
  | y :: l => by
    unfold insBy
    split
    · exact List.Perm.refl _
    · exact ((insBy_perm le x l).cons y).trans (List.Perm.swap _ _ _)
theorem sortBy_perm {α : Type} (le : α → α → Bool) : ∀ l : List α, (sortBy le l).Perm l
  | [] => List.Perm.refl _
  | x :: l => (insBy_perm le x _).trans ((sortBy_perm le l).cons x)
theorem insBy_sorted {α : Type} {le : α → α → Bool} (tot : ∀ a b, le a b = true ∨ le b a = true) (tr : ∀ a b c, le a b = true → le b c = true → le a c = true) (x : α) : ∀ {l : List α}, l.Pairwise (fun a b => le a b = true) → (insBy le x l).Pairwise (fun a b => le a b = true)
  | [], _ => by simp [insBy]
  | y :: l, h => by
    rw [List.pairwise_cons] at h
    unfold insBy
    split
    · rename_i hxy
      rw [List.pairwise_cons, List.pairwise_cons]
      refine ⟨fun a ha => ?_, h.1, h.2⟩
      rcases List.mem_cons.mp ha with rfl | ha
      · exact hxy
      · exact tr _ _ _ hxy (h.1 a ha)
    · rename_i hxy
      rw [List.pairwise_cons]
      refine ⟨fun a ha => ?_, insBy_sorted tot tr x h.2⟩
      rcases List.mem_cons.mp ((insBy_perm le x l).mem_iff.mp ha) with rfl | ha
      · rcases tot a y with q | q
        · exact absurd q hxy
        · exact q
      · exact h.1 a ha
theorem sortBy_sorted {α : Type} {le : α → α → Bool} (tot : ∀ a b, le a b = true ∨ le b a = true) (tr : ∀ a b c, le a b = true → le b c = true → le a c = true) : ∀ l : List α, (sortBy le l).Pairwise (fun a b => le a b = true)
  | [] => List.Pairwise.nil
  | x :: l => insBy_sorted tot tr x (sortBy_sorted tot tr l)
theorem sorted_uniq {α : Type} {le : α → α → Prop} (anti : ∀ a b, le a b → le b a → a = b) : ∀ {l m : List α}, l.Perm m → l.Pairwise le → m.Pairwise le → l = m
  | [], m, h, _, _ => (List.Perm.eq_nil h.symm).symm
  | x :: l, [], h, _, _ => absurd h.length_eq (by simp)
  | x :: l, y :: m, h, hl, hm => by
    have e : x = y := by
      rcases List.mem_cons.mp (h.mem_iff.mp List.mem_cons_self) with e | hx
      · exact e
      · rcases List.mem_cons.mp (h.mem_iff.mpr List.mem_cons_self) with e | hy
        · exact e.symm
        · exact anti _ _ ((List.pairwise_cons.mp hl).1 y hy) ((List.pairwise_cons.mp hm).1 x hx)
    subst e
    rw [sorted_uniq anti h.cons_inv (List.pairwise_cons.mp hl).2 (List.pairwise_cons.mp hm).2]
/-- ints -/
def leI (a b : Int) : Bool := decide (a ≤ b)
def sortI (l : List Int) : List Int := sortBy leI l
theorem sortI_perm (l : List Int) : (sortI l).Perm l := sortBy_perm _ _
theorem sortI_sorted (l : List Int) : (sortI l).Pairwise (· ≤ ·) :=
  (sortBy_sorted (le := leI) (fun a b => by simp [leI]; omega) (fun a b c => by simp [leI]; omega) l).imp (fun h => by simpa [leI] using h)
theorem sortI_eq {l m : List Int} (h : m.Perm l) (hm : m.Pairwise (· ≤ ·)) : m = sortI l :=
  sorted_uniq (fun a b h1 h2 => by omega) (h.trans (sortI_perm l).symm) hm (sortI_sorted l)
theorem sortI_of_sorted {l : List Int} (h : l.Pairwise (· ≤ ·)) : sortI l = l := (sortI_eq (List.Perm.refl _) h).symm
theorem sortI_congr {l m : List Int} (h : l.Perm m) : sortI l = sortI m := sortI_eq ((sortI_perm l).trans h) (sortI_sorted l)
theorem sortI_len (l : List Int) : (sortI l).length = l.length := (sortI_perm l).length_eq
/-- pairs -/
def leP (a b : Int × Int) : Bool := decide (a.1 < b.1) || (decide (a.1 = b.1) && decide (a.2 ≤ b.2))
def sortP (l : List (Int × Int)) : List (Int × Int) := sortBy leP l
theorem leP_iff (a b : Int × Int) : leP a b = true ↔ a.1 < b.1 ∨ (a.1 = b.1 ∧ a.2 ≤ b.2) := by simp [leP]
theorem sortP_perm (l : List (Int × Int)) : (sortP l).Perm l := sortBy_perm _ _
theorem sortP_sorted (l : List (Int × Int)) : (sortP l).Pairwise (fun a b => leP a b = true) :=
  sortBy_sorted (le := leP) (fun a b => by rw [leP_iff, leP_iff]; omega) (fun a b c => by rw [leP_iff, leP_iff, leP_iff]; omega) l
theorem sortP_eq {l m : List (Int × Int)} (h : m.Perm l) (hm : m.Pairwise (fun a b => leP a b = true)) : m = sortP l :=
  sorted_uniq (le := fun a b => leP a b = true) (fun a b h1 h2 => by
    rw [leP_iff] at h1 h2
    exact Prod.ext (by omega) (by omega)) (h.trans (sortP_perm l).symm) hm (sortP_sorted l)
theorem sortP_len (l : List (Int × Int)) : (sortP l).length = l.length := (sortP_perm l).length_eq
/-- the greatest -/
def maxL : List Int → Int
  | [] => 0
  | [x] => x
  | x :: y :: l => max x (maxL (y :: l))
theorem maxL_mem : ∀ {l : List Int}, l ≠ [] → maxL l ∈ l
  | [], h => absurd rfl h
  | [x], _ => by simp [maxL]
  | x :: y :: l, _ => by
    have := maxL_mem (l := y :: l) (by simp)
    unfold maxL
    rcases (by omega : max x (maxL (y :: l)) = maxL (y :: l) ∨ max x (maxL (y :: l)) = x) with e | e
    · rw [e]; exact List.mem_cons_of_mem _ this
    · rw [e]; exact List.mem_cons_self
theorem maxL_ge : ∀ {l : List Int} {x : Int}, x ∈ l → x ≤ maxL l
  | [y], x, h => by simp at h; simp [maxL, h]
  | y :: z :: l, x, h => by
    unfold maxL
    rcases List.mem_cons.mp h with rfl | h
    · omega
    · have := maxL_ge (l := z :: l) h
      omega
theorem maxL_eq {l : List Int} {m : Int} (h : m ∈ l) (h' : ∀ y ∈ l, y ≤ m) : m = maxL l := by
  have h1 := maxL_ge h
  have h2 := h' _ (maxL_mem (fun e => by subst e; cases h))
  omega
def minL (l : List Int) : Int := - maxL (l.map (fun x => -x))
theorem minL_eq {l : List Int} {m : Int} (h : m ∈ l) (h' : ∀ y ∈ l, m ≤ y) : m = minL l := by
  have := maxL_eq (l := l.map (fun x => -x)) (m := -m) (List.mem_map.mpr ⟨m, h, rfl⟩) (fun y hy => by
    obtain ⟨z, hz, rfl⟩ := List.mem_map.mp hy
    have := h' z hz
    omega)
  unfold minL
  omega
end Cc

namespace Cc
open PySem L2
/-! data compared -/
theorem eqvAll_map {α : Type} [DecidableEq α] {f : α → PyData} (h : ∀ a b, PyData.eqv (f a) (f b) = decide (a = b)) : ∀ xs ys : List α, PyData.eqvAll (xs.map f) (ys.map f) = decide (xs = ys)
  | [], [] => by simp [PyData.eqvAll]
  | x :: xs, [] => by simp [PyData.eqvAll]
  | [], y :: ys => by simp [PyData.eqvAll]
  | x :: xs, y :: ys => by
    simp only [List.map_cons, PyData.eqvAll, h, eqvAll_map h xs ys, List.cons.injEq]
    by_cases e1 : x = y <;> by_cases e2 : xs = ys <;> simp [e1, e2]
theorem eqv_int (a b : Int) : PyData.eqv (.int a) (.int b) = decide (a = b) := by
  simp only [PyData.eqv]
  by_cases h : a = b
  · simp [h]
  · simp [h]
theorem eqv_lst {α : Type} [DecidableEq α] {f : α → PyData} (h : ∀ a b, PyData.eqv (f a) (f b) = decide (a = b)) (xs ys : List α) : PyData.eqv (.list (xs.map f)) (.list (ys.map f)) = decide (xs = ys) := by
  simp only [PyData.eqv]
  exact eqvAll_map h xs ys
theorem eqv_I (a b : List Int) : PyData.eqv (dI a) (dI b) = decide (a = b) := eqv_lst eqv_int a b
theorem eqv_LL (a b : List (List Int)) : PyData.eqv (dLL a) (dLL b) = decide (a = b) := eqv_lst eqv_I a b
/-! shapes: of a bounded depth -/
structure Shp (d : PyData) (n : Nat) : Prop where
  lay : d.canLay0 = true
  dep : d.depth ≤ n
theorem Shp.shaped {d : PyData} {n : Nat} (h : Shp d n) (hn : n ≤ 64) : SeqAt.shaped d = true := by
  unfold SeqAt.shaped
  rw [h.lay, Bool.true_and]
  exact decide_eq_true (Nat.le_trans h.dep hn)
theorem shp_int (i : Int) : Shp (.int i) 0 := ⟨rfl, Nat.le_refl _⟩
theorem shp_bool (i : Bool) : Shp (.bool i) 0 := ⟨rfl, Nat.le_refl _⟩
theorem shpAll {ds : List PyData} {n : Nat} (h : ∀ d ∈ ds, Shp d n) : PyData.canLayAll0 ds = true ∧ PyData.depthAll ds ≤ n := by
  induction ds with
  | nil => exact ⟨rfl, Nat.zero_le _⟩
  | cons d ds ih =>
    have h1 := h d List.mem_cons_self
    have h2 := ih fun d hd => h d (List.mem_cons_of_mem _ hd)
    refine ⟨?_, ?_⟩
    · show (d.canLay0 && PyData.canLayAll0 ds) = true
      rw [h1.lay, h2.1]; rfl
    · show max d.depth (PyData.depthAll ds) ≤ n
      exact Nat.max_le.mpr ⟨h1.dep, h2.2⟩
theorem shp_list {ds : List PyData} {n : Nat} (h : ∀ d ∈ ds, Shp d n) : Shp (.list ds) (n + 1) := ⟨(shpAll h).1, Nat.succ_le_succ (shpAll h).2⟩
theorem shp_tuple {ds : List PyData} {n : Nat} (h : ∀ d ∈ ds, Shp d n) : Shp (.tuple ds) (n + 1) := ⟨(shpAll h).1, Nat.succ_le_succ (shpAll h).2⟩
theorem shp_map {α : Type} {f : α → PyData} {n : Nat} (h : ∀ a, Shp (f a) n) (xs : List α) : Shp (.list (xs.map f)) (n + 1) := shp_list fun d hd => by
  obtain ⟨a, _, rfl⟩ := List.mem_map.mp hd
  exact h a
theorem shp_I (r : List Int) : Shp (dI r) 1 := shp_map shp_int r
theorem shp_LL (r : List (List Int)) : Shp (dLL r) 2 := shp_map shp_I r
theorem shI (r : List Int) : SeqAt.shaped (dI r) = true := (shp_I r).shaped (by decide)
theorem shLL (r : List (List Int)) : SeqAt.shaped (dLL r) = true := (shp_LL r).shaped (by decide)
/-- a list of ints against [] -/
theorem eqv_I_nil (a : List Int) : PyData.eqv (dI a) (.list []) = decide (a = []) := eqv_I a []
theorem eqv_LL_nil (a : List (List Int)) : PyData.eqv (dLL a) (.list []) = decide (a = []) := eqv_LL a []
end Cc

namespace Cc
open PySem L2
/-! comprehensions: what is walked, item by item; what each item gives -/
/-- J walks n items while what H holds stands; item i comes as Y says, with new cells -/
structure Wk (J : It) (H : Hp) (n : Nat) (Y : Nat → V → List Cell → Prop) : Prop where
  go : ∀ i H', Same H H' → i < n → J.go i H'
  yld : ∀ i H' x H'', Same H H' → i < n → J.yld i H' x H'' → ∃ C, Lo H' H'' C ∧ Y i x C
  stop : ∀ H', Same H H' → J.stop n H'
theorem Wk.same {J : It} {H H1 : Hp} {n : Nat} {Y : Nat → V → List Cell → Prop} (w : Wk J H n Y) (s : Same H H1) : Wk J H1 n Y :=
  ⟨fun i H' e => w.go i H' (s.trans e), fun i H' x H'' e => w.yld i H' x H'' (s.trans e), fun H' e => w.stop H' (s.trans e)⟩
theorem wk_list {K : PySem.W.Frag} {a : Addr} {xs : List V} {H : Hp} (h : SqL K H a xs) : Wk (Itl K a) H xs.length (fun i x C => xs[i]? = some x ∧ C = []) :=
  ⟨fun i H' s hi => ⟨xs, xs[i], s.seq h, by simp [hi]⟩, fun i H' x H'' s hi y => by
    obtain ⟨e, y⟩ := y
    subst e
    exact ⟨[], Lo.nil _, y xs (s.seq h), rfl⟩, fun H' s => ⟨xs, s.seq h, Nat.le_refl _⟩⟩
theorem wk_range {lo : Int} {n : Nat} {H : Hp} : Wk (Itr lo n) H n (fun i x C => x = .int (lo + i) ∧ C = []) :=
  ⟨fun i H' s hi => hi, fun i H' x H'' s hi y => by
    obtain ⟨e, y⟩ := y
    subst e
    exact ⟨[], Lo.nil _, y, rfl⟩, fun H' s => Nat.le_refl _⟩
theorem wk_enum {K : PySem.W.Frag} {a : Addr} {xs : List V} {H : Hp} (h : SqL K H a xs) : Wk (Ite K a) H xs.length (fun i x C => ∃ T y, x = .ref T ∧ xs[i]? = some y ∧ C = [(T, .tup [.int (i : Nat), y])]) :=
  ⟨fun i H' s hi => ⟨xs, xs[i], s.seq h, by simp [hi]⟩, fun i H' x H'' s hi y => by
    obtain ⟨T, z, e1, e2, e3, y3⟩ := y
    subst e1 e3
    exact ⟨_, (Lo.nil _).al e2 _, T, z, rfl, y3 xs (s.seq h), rfl⟩, fun H' s => ⟨xs, s.seq h, Nat.le_refl _⟩⟩
theorem wk_zip {K : PySem.W.Frag} {a b : Addr} {xs ys : List V} {H : Hp} (h : SqL K H a xs) (h' : SqL K H b ys) : Wk (Itz K a b) H (min xs.length ys.length) (fun i x C => ∃ T y z, x = .ref T ∧ xs[i]? = some y ∧ ys[i]? = some z ∧ C = [(T, .tup [y, z])]) :=
  ⟨fun i H' s hi => ⟨xs, ys, xs[i]'(by omega), ys[i]'(by omega), s.seq h, s.seq h', get_some _, get_some _⟩, fun i H' x H'' s hi y => by
    obtain ⟨T, z, u, e1, e2, e3, y3, y4⟩ := y
    subst e1 e3
    exact ⟨_, (Lo.nil _).al e2 _, T, z, u, rfl, y3 xs (s.seq h), y4 ys (s.seq h'), rfl⟩, fun H' s => ⟨xs, ys, s.seq h, s.seq h', by omega⟩⟩
theorem wk_tup {K : PySem.W.Frag} {a : Addr} {xs : List V} {H : Hp} (h : ∀ H', Same H H' → SqT K H' a xs) : Wk (Itt K a) H xs.length (fun i x C => xs[i]? = some x ∧ C = []) :=
  ⟨fun i H' s hi => ⟨xs, xs[i], h H' s, by simp [hi]⟩, fun i H' x H'' s hi y => by
    obtain ⟨e, y⟩ := y
    subst e
    exact ⟨[], Lo.nil _, y xs (h _ s), rfl⟩, fun H' s => ⟨xs, h _ s, Nat.le_refl _⟩⟩
/-- lists grow at the end: what each place is -/
theorem get_snoc {α : Type} {xs : List α} {x y : α} {i : Nat} (h : (xs ++ [x])[i]? = some y) : xs[i]? = some y ∨ (i = xs.length ∧ y = x) := by
  by_cases hi : i < xs.length
  · left; rwa [List.getElem?_append_left hi] at h
  · right
    have h2 := lt_of_get h
    rw [List.length_append] at h2
    have : i = xs.length := by simp at h2; omega
    subst this
    simp at h
    exact ⟨rfl, h.symm⟩
theorem lcC {J : It} {g : TG} {tt : TT} {te : TE} {vs : List Nat} {σ : L2.St} {H : Hp} {D : Addr} {Qd : Hp → Prop} {n : Nat} {Y : Nat → V → List Cell → Prop} (R : Nat → Option V → List Cell → Prop) (w : Wk J H n Y) (hn : n ≤ 50000) (hD : H D = none)
    (he : ∀ i x C H1, Same H H1 → Y i x C → (∀ {a o}, (a, o) ∈ C → H1 a = some o) → i < n → ∀ Nx : Option V → Hp → Prop, (∀ z C' H2, Lo H1 H2 C' → R i z C' → Nx z H2) →
      g x (wipe σ vs) H1 fun σ2 H2 => wipe σ2 vs = wipe σ vs ∧ tt σ2 H2 fun b H3 => if b = true then te σ2 H3 fun y H4 => Nx (some y) H4 else Nx none H3)
    (k : ∀ (zs : List (Option V)) (Cs : List (List Cell)) H2, Lo H H2 ((D, .lst (zs.filterMap id)) :: Cs.flatten) → zs.length = n → Cs.length = n → (∀ i z C, zs[i]? = some z → Cs[i]? = some C → R i z C) → Qd H2)
    (mono : ∀ v σ H Q Q', (∀ σ2 H2, Q σ2 H2 → Q' σ2 H2) → g v σ H Q → g v σ H Q') (monot : ∀ σ H Q Q', (∀ b H2, Q b H2 → Q' b H2) → tt σ H Q → tt σ H Q') :
    ∃ W : Nat → Nat → Hp → Prop, (∃ m, W 0 m (upd H D (.lst []))) ∧ ∀ i m H, W i m H →
      (J.stop i H ∧ Qd H) ∨ (J.go i H ∧ ∃ Nx : Hp → Prop, (∀ H', Nx H' → ∃ m', m' < m ∧ W (i + 1) m' H') ∧ ∀ x H', J.yld i H x H' → g x (wipe σ vs) H' fun σ2 H2 => wipe σ2 vs = wipe σ vs ∧ tt σ2 H2 fun b H3 =>
        if b = true then te σ2 H3 fun y H4 => ∃ acc, H4 D = some (.lst acc) ∧ acc.length < sizeLine ∧ Nx (upd H4 D (.lst (acc ++ [y]))) else Nx H3) := by
  let Pv : Nat → Hp → Prop := fun i H' => ∃ (zs : List (Option V)) (Cs : List (List Cell)), Lo H H' ((D, .lst (zs.filterMap id)) :: Cs.flatten) ∧ zs.length = i ∧ Cs.length = i ∧ ∀ j z C, zs[j]? = some z → Cs[j]? = some C → R j z C
  refine ⟨fun i m H' => m = n - i ∧ i ≤ n ∧ Pv i H', ⟨n, by simp, Nat.zero_le _, [], [], (Lo.nil H).al hD _, rfl, rfl, fun j z C e => by simp at e⟩, ?_⟩
  rintro i m H' ⟨rfl, hi, zs, Cs, L, h1, h2, h3⟩
  by_cases hlt : i < n
  · refine .inr ⟨w.go i H' L.sm hlt, Pv (i + 1), fun H'' p' => ⟨n - (i + 1), by omega, rfl, hlt, p'⟩, fun x H'' y => ?_⟩
    obtain ⟨C, LC, hY⟩ := w.yld i H' x H'' L.sm hlt y
    have L2 : Lo H H'' ((D, .lst (zs.filterMap id)) :: Cs.flatten) := L.cs LC.sm
    refine mono _ _ _ _ _ (fun σ2 H2 ⟨e, q⟩ => ⟨e, monot _ _ _ _ (fun b H3 q => q) q⟩) (he i x C H'' L2.sm hY LC.get hlt (fun z H4 => match z with
      | some y => ∃ acc, H4 D = some (.lst acc) ∧ acc.length < sizeLine ∧ Pv (i + 1) (upd H4 D (.lst (acc ++ [y])))
      | none => Pv (i + 1) H4) (fun z C' H4 LC' hR => ?_))
    have L3 := (L2.ca LC').perm List.perm_middle
    have key : ∀ j z' C, (zs ++ [z])[j]? = some z' → (Cs ++ [C'])[j]? = some C → R j z' C := fun j z' C e1 e2 => by
      rcases get_snoc e1 with e1 | ⟨e1, rfl⟩
      · rcases get_snoc e2 with e2 | ⟨e2, rfl⟩
        · exact h3 j z' C e1 e2
        · have := lt_of_get e1; omega
      · rcases get_snoc e2 with e2 | ⟨e2, rfl⟩
        · have := lt_of_get e2; omega
        · have ej : j = i := by omega
          rw [ej]; exact hR
    have len : (zs.filterMap id).length ≤ zs.length := List.length_filterMap_le _ _
    cases z with
    | some y =>
      refine ⟨_, L3.get List.mem_cons_self, szl (by omega), zs ++ [some y], Cs ++ [C'], ?_, by simp [h1], by simp [h2], key⟩
      have L4 := L3.wr0 (.lst (zs.filterMap id ++ [y]))
      rw [List.filterMap_append, List.flatten_append]
      refine L4.perm ?_
      simp only [List.filterMap_cons, id, List.filterMap_nil, List.flatten_cons, List.flatten_nil, List.append_nil]
      exact List.Perm.cons _ List.perm_append_comm
    | none =>
      refine ⟨zs ++ [none], Cs ++ [C'], ?_, by simp [h1], by simp [h2], key⟩
      rw [List.filterMap_append, List.flatten_append]
      refine L3.perm ?_
      simp only [List.filterMap_cons, id, List.filterMap_nil, List.flatten_cons, List.flatten_nil, List.append_nil]
      exact List.Perm.cons _ List.perm_append_comm
  · have e : i = n := by omega
    subst e
    exact .inl ⟨w.stop H' L.sm, k zs Cs H' L h1 h2 h3⟩
/-- without a test -/
theorem lcY {J : It} {g : TG} {te : TE} {vs : List Nat} {σ : L2.St} {H : Hp} {D : Addr} {Qd : Hp → Prop} {n : Nat} {Y : Nat → V → List Cell → Prop} (R : Nat → V → List Cell → Prop) (w : Wk J H n Y) (hn : n ≤ 50000) (hD : H D = none)
    (he : ∀ i x C H1, Same H H1 → Y i x C → (∀ {a o}, (a, o) ∈ C → H1 a = some o) → i < n → ∀ Q : VK, (∀ y C' H2, Lo H1 H2 C' → R i y C' → Q y H2) →
      g x (wipe σ vs) H1 fun σ2 H2 => wipe σ2 vs = wipe σ vs ∧ te σ2 H2 Q)
    (k : ∀ (ys : List V) (Cs : List (List Cell)) H2, Lo H H2 ((D, .lst ys) :: Cs.flatten) → ys.length = n → Cs.length = n → (∀ i y C, ys[i]? = some y → Cs[i]? = some C → R i y C) → Qd H2)
    (mono : ∀ v σ H Q Q', (∀ σ2 H2, Q σ2 H2 → Q' σ2 H2) → g v σ H Q → g v σ H Q') :
    ∃ W : Nat → Nat → Hp → Prop, (∃ m, W 0 m (upd H D (.lst []))) ∧ ∀ i m H, W i m H →
      (J.stop i H ∧ Qd H) ∨ (J.go i H ∧ ∃ Nx : Hp → Prop, (∀ H', Nx H' → ∃ m', m' < m ∧ W (i + 1) m' H') ∧ ∀ x H', J.yld i H x H' → g x (wipe σ vs) H' fun σ2 H2 => wipe σ2 vs = wipe σ vs ∧ tYes σ2 H2 fun b H3 =>
        if b = true then te σ2 H3 fun y H4 => ∃ acc, H4 D = some (.lst acc) ∧ acc.length < sizeLine ∧ Nx (upd H4 D (.lst (acc ++ [y]))) else Nx H3) := by
  refine lcC (fun i z C => ∃ y, z = some y ∧ R i y C) w hn hD (fun i x C H1 s hY hC hi Nx q => ?_) (fun zs Cs H2 L h1 h2 h3 => ?_) mono (fun σ H Q Q' f h => f _ _ h)
  · refine mono _ _ _ _ _ (fun σ2 H2 ⟨e, q⟩ => ⟨e, yes_of q⟩) (he i x C H1 s hY hC hi _ fun y C' H2 L hR => q (some y) C' H2 L ⟨y, rfl, hR⟩)
  · have hz : ∀ i, i < zs.length → ∃ y, zs[i]? = some (some y) := fun i hi => by
      have e1 := get_some (xs := zs) (i := i) hi
      have e2 := get_some (xs := Cs) (i := i) (by omega)
      obtain ⟨y, e3, _⟩ := h3 i _ _ e1 e2
      exact ⟨y, by rw [e1, e3]⟩
    have e : ∀ (l : List (Option V)), (∀ i, i < l.length → ∃ y, l[i]? = some (some y)) → l = (l.filterMap id).map some := fun l => by
      induction l with
      | nil => intro _; rfl
      | cons a l ih =>
        intro h
        obtain ⟨y, hy⟩ := h 0 (by simp)
        simp at hy
        subst hy
        simp only [List.filterMap_cons, id, List.map_cons]
        rw [← ih fun i hi => by
          obtain ⟨y, hy⟩ := h (i + 1) (by simp; omega)
          exact ⟨y, by simpa using hy⟩]
    have ez := e zs hz
    generalize hys : zs.filterMap id = ys at L ez
    refine k ys Cs H2 L (by rw [← h1, ez]; simp) h2 fun i y C e1 e2 => ?_
    obtain ⟨y', e3, e4⟩ := h3 i (some y) C (by rw [ez]; simp [e1]) e2
    cases e3
    exact e4
/-- no cells at all -/
theorem flat_nil {Cs : List (List Cell)} (h : ∀ (i : Nat) (C : List Cell), Cs[i]? = some C → C = []) : Cs.flatten = [] := by
  induction Cs with
  | nil => rfl
  | cons C Cs ih =>
    have := h 0 C rfl
    subst this
    exact ih fun i C e => h (i + 1) C (by simpa using e)
/-- a list of scalars, as told by ys -/
theorem lcV {J : It} {g : TG} {te : TE} {vs : List Nat} {σ : L2.St} {H : Hp} {D : Addr} {Qd : Hp → Prop} {n : Nat} {Y : Nat → V → List Cell → Prop} (ys : List V) (hys : ys.length = n) (w : Wk J H n Y) (hn : n ≤ 50000) (hD : H D = none)
    (he : ∀ i x C y H1, Same H H1 → Y i x C → (∀ {a o}, (a, o) ∈ C → H1 a = some o) → ys[i]? = some y → ∀ Q : VK, (∀ H2, Same H1 H2 → Q y H2) →
      g x (wipe σ vs) H1 fun σ2 H2 => wipe σ2 vs = wipe σ vs ∧ te σ2 H2 Q)
    (k : ∀ H2, Lo H H2 [(D, .lst ys)] → Qd H2)
    (mono : ∀ v σ H Q Q', (∀ σ2 H2, Q σ2 H2 → Q' σ2 H2) → g v σ H Q → g v σ H Q') :
    ∃ W : Nat → Nat → Hp → Prop, (∃ m, W 0 m (upd H D (.lst []))) ∧ ∀ i m H, W i m H →
      (J.stop i H ∧ Qd H) ∨ (J.go i H ∧ ∃ Nx : Hp → Prop, (∀ H', Nx H' → ∃ m', m' < m ∧ W (i + 1) m' H') ∧ ∀ x H', J.yld i H x H' → g x (wipe σ vs) H' fun σ2 H2 => wipe σ2 vs = wipe σ vs ∧ tYes σ2 H2 fun b H3 =>
        if b = true then te σ2 H3 fun y H4 => ∃ acc, H4 D = some (.lst acc) ∧ acc.length < sizeLine ∧ Nx (upd H4 D (.lst (acc ++ [y]))) else Nx H3) := by
  refine lcY (fun i y C => ys[i]? = some y ∧ C = []) w hn hD (fun i x C H1 s hY hC hi Q q => ?_) (fun zs Cs H2 L h1 h2 h3 => ?_) mono
  · have e := get_some (xs := ys) (i := i) (by omega)
    exact he i x C _ H1 s hY hC e Q fun H2 s2 => q _ [] H2 ((Lo.nil _).cs s2) ⟨e, rfl⟩
  · have e : zs = ys := List.ext_getElem? fun i => by
      by_cases hi : i < n
      · have e1 := get_some (xs := zs) (i := i) (by omega)
        have e2 := get_some (xs := Cs) (i := i) (by omega)
        rw [(h3 i _ _ e1 e2).1, e1]
      · rw [List.getElem?_eq_none (by omega), List.getElem?_eq_none (by omega)]
    have e2 : Cs.flatten = [] := flat_nil fun i C hC => by
      have hi := lt_of_get hC
      exact (h3 i _ C (get_some (xs := zs) (by omega)) hC).2
    rw [e, e2] at L
    exact k H2 L
/-- scalars under a test, as told by zs -/
theorem lcT {J : It} {g : TG} {tt : TT} {te : TE} {vs : List Nat} {σ : L2.St} {H : Hp} {D : Addr} {Qd : Hp → Prop} {n : Nat} {Y : Nat → V → List Cell → Prop} (zs : List (Option V)) (hzs : zs.length = n) (w : Wk J H n Y) (hn : n ≤ 50000) (hD : H D = none)
    (he : ∀ i x C z H1, Same H H1 → Y i x C → (∀ {a o}, (a, o) ∈ C → H1 a = some o) → zs[i]? = some z → ∀ Nx : Option V → Hp → Prop, (∀ H2, Same H1 H2 → Nx z H2) →
      g x (wipe σ vs) H1 fun σ2 H2 => wipe σ2 vs = wipe σ vs ∧ tt σ2 H2 fun b H3 => if b = true then te σ2 H3 fun y H4 => Nx (some y) H4 else Nx none H3)
    (k : ∀ H2, Lo H H2 [(D, .lst (zs.filterMap id))] → Qd H2)
    (mono : ∀ v σ H Q Q', (∀ σ2 H2, Q σ2 H2 → Q' σ2 H2) → g v σ H Q → g v σ H Q') (monot : ∀ σ H Q Q', (∀ b H2, Q b H2 → Q' b H2) → tt σ H Q → tt σ H Q') :
    ∃ W : Nat → Nat → Hp → Prop, (∃ m, W 0 m (upd H D (.lst []))) ∧ ∀ i m H, W i m H →
      (J.stop i H ∧ Qd H) ∨ (J.go i H ∧ ∃ Nx : Hp → Prop, (∀ H', Nx H' → ∃ m', m' < m ∧ W (i + 1) m' H') ∧ ∀ x H', J.yld i H x H' → g x (wipe σ vs) H' fun σ2 H2 => wipe σ2 vs = wipe σ vs ∧ tt σ2 H2 fun b H3 =>
        if b = true then te σ2 H3 fun y H4 => ∃ acc, H4 D = some (.lst acc) ∧ acc.length < sizeLine ∧ Nx (upd H4 D (.lst (acc ++ [y]))) else Nx H3) := by
  refine lcC (fun i z C => zs[i]? = some z ∧ C = []) w hn hD (fun i x C H1 s hY hC hi Nx q => ?_) (fun zs' Cs H2 L h1 h2 h3 => ?_) mono monot
  · have e := get_some (xs := zs) (i := i) (by omega)
    exact he i x C _ H1 s hY hC e Nx fun H2 s2 => q _ [] H2 ((Lo.nil _).cs s2) ⟨e, rfl⟩
  · have e : zs' = zs := List.ext_getElem? fun i => by
      by_cases hi : i < n
      · have e1 := get_some (xs := zs') (i := i) (by omega)
        have e2 := get_some (xs := Cs) (i := i) (by omega)
        rw [(h3 i _ _ e1 e2).1, e1]
      · rw [List.getElem?_eq_none (by omega), List.getElem?_eq_none (by omega)]
    have e2 : Cs.flatten = [] := flat_nil fun i C hC => by
      have hi := lt_of_get hC
      exact (h3 i _ C (get_some (xs := zs') (by omega)) hC).2
    rw [e, e2] at L
    exact k H2 L
/-- rows made one by one -/
theorem rows_of_cells : ∀ {ys : List V} {Cs : List (List Cell)} {rows : List (List Int)}, ys.length = rows.length → Cs.length = rows.length →
    (∀ (i : Nat) (y : V) (C : List Cell), ys[i]? = some y → Cs[i]? = some C → ∃ q r, rows[i]? = some r ∧ y = .ref q ∧ C = [(q, intsO r)]) →
    ∃ ps : List Addr, ps.length = rows.length ∧ ys = ps.map V.ref ∧ Cs.flatten = rowsC ps rows
  | [], [], [], _, _, _ => ⟨[], rfl, rfl, rfl⟩
  | [], _ :: _, [], _, h, _ => by simp at h
  | [], [], _ :: _, h, _, _ => by simp at h
  | [], _ :: _, _ :: _, h, _, _ => by simp at h
  | _ :: _, [], [], h, _, _ => by simp at h
  | _ :: _, [], _ :: _, _, h, _ => by simp at h
  | _ :: _, _ :: _, [], h, _, _ => by simp at h
  | y :: ys, C :: Cs, r :: rows, h1, h2, h3 => by
    obtain ⟨q, r', e1, e2, e3⟩ := h3 0 y C rfl rfl
    simp at e1
    subst e1 e2 e3
    obtain ⟨ps, g1, g2, g3⟩ := rows_of_cells (Nat.succ.inj h1) (Nat.succ.inj h2) (fun i y C a b => by
      obtain ⟨q, r, e⟩ := h3 (i + 1) y C (by simpa using a) (by simpa using b)
      exact ⟨q, r, by simpa using e⟩)
    refine ⟨q :: ps, by simp [g1], by simp [g2], ?_⟩
    rw [List.flatten_cons, g3]
    rfl
/-- cells that are let stand, for good -/
theorem Lo.frz {H0 H : Hp} {C L : List Cell} (h : Lo H0 H (C ++ L)) : ∃ H1, Same H0 H1 ∧ Lo H1 H L ∧ ∀ {a o}, (a, o) ∈ C → H1 a = some o := by
  obtain ⟨H1, g1, g2, g3, _⟩ := (h.perm List.perm_append_comm).split
  exact ⟨H1, g2, g1, g3⟩
theorem Rows.of_mem {H : Hp} {p : Addr} {ps : List Addr} {rs : List (List Int)} (h : ∀ {a o}, (a, o) ∈ llC p ps rs → H a = some o) (hl : ps.length = rs.length) : Rows H p ps rs :=
  ⟨h List.mem_cons_self, hl, fun e1 e2 => h (List.mem_cons_of_mem _ (rowsC_get e1 e2))⟩
theorem rowsC_append : ∀ {ps : List Addr} {rs : List (List Int)} {ps' : List Addr} {rs' : List (List Int)}, ps.length = rs.length → rowsC (ps ++ ps') (rs ++ rs') = rowsC ps rs ++ rowsC ps' rs'
  | [], [], _, _, _ => rfl
  | p :: ps, r :: rs, ps', rs', h => by
    show (p, intsO r) :: rowsC (ps ++ ps') (rs ++ rs') = _
    rw [rowsC_append (Nat.succ.inj h)]
    rfl
/-- longer.extend(more): the rows of both -/
theorem Lo.ext {H0 H : Hp} {B : List Cell} {p d : Addr} {ps ps' : List Addr} {rs rs' : List (List Int)} (h : Lo H0 H (llC d ps' rs' ++ (llC p ps rs ++ B))) (hl : ps.length = rs.length) :
    Lo H0 (upd H p (refsO (ps ++ ps'))) (llC p (ps ++ ps') (rs ++ rs') ++ B) := by
  have L2 : Lo H0 H ((p, refsO ps) :: (rowsC ps rs ++ (rowsC ps' rs' ++ B))) := h.pk [[(d, refsO ps')], rowsC ps' rs', [(p, refsO ps)], rowsC ps rs, B] [0, 1, 2, 3, 4] [2, 3, 1, 4] [0] (by simp [llC]) (by simp)
  refine (L2.wr0 (refsO (ps ++ ps'))).to ?_
  unfold llC
  rw [rowsC_append hl]
  simp
end Cc

namespace Cc
open PySem L2
/-! lists of pairs of ints, to be read -/
structure Prs (H : Hp) (ys : List V) (prs : List (Int × Int)) : Prop where
  len : ys.length = prs.length
  row : ∀ {i : Nat} {y : V} {pr : Int × Int}, ys[i]? = some y → prs[i]? = some pr → ∃ t, y = .ref t ∧ H t = some (.tup [.int pr.1, .int pr.2])
theorem Prs.same {H H' : Hp} {ys : List V} {prs : List (Int × Int)} (h : Prs H ys prs) (s : Same H H') : Prs H' ys prs :=
  ⟨h.len, fun a b => by obtain ⟨t, e, q⟩ := h.row a b; exact ⟨t, e, s _ _ q⟩⟩
/-- the pair at a value -/
def prAt (H : Hp) : V → Int × Int
  | .ref t => match H t with
    | some (.tup [.int i, .int j]) => (i, j)
    | _ => (0, 0)
  | _ => (0, 0)
theorem prAt_eq {H : Hp} {t : Addr} {i j : Int} (h : H t = some (.tup [.int i, .int j])) : prAt H (.ref t) = (i, j) := by
  show (match H t with | some (.tup [.int i, .int j]) => (i, j) | _ => (0, 0)) = (i, j)
  rw [h]
theorem Prs.map {H : Hp} {ys : List V} {prs : List (Int × Int)} (h : Prs H ys prs) : ys.map (prAt H) = prs := by
  refine List.ext_getElem? fun i => ?_
  rw [List.getElem?_map]
  by_cases hi : i < ys.length
  · have e1 := get_some (xs := ys) hi
    have e2 := get_some (xs := prs) (i := i) (by rw [← h.len]; exact hi)
    obtain ⟨t, e, q⟩ := h.row e1 e2
    rw [e1, e2, e]
    show some (prAt H (.ref t)) = _
    rw [prAt_eq q]
  · rw [List.getElem?_eq_none (by omega), List.getElem?_eq_none (by rw [← h.len]; omega)]
    rfl
theorem Prs.mem {H : Hp} {ys : List V} {prs : List (Int × Int)} (h : Prs H ys prs) {y : V} (hy : y ∈ ys) : ∃ t, y = .ref t ∧ H t = some (.tup [.int (prAt H y).1, .int (prAt H y).2]) := by
  obtain ⟨i, hi, rfl⟩ := List.mem_iff_getElem.mp hy
  obtain ⟨t, e, q⟩ := h.row (get_some hi) (get_some (xs := prs) (i := i) (by rw [← h.len]; exact hi))
  refine ⟨t, e, ?_⟩
  rw [e, prAt_eq q]
  exact q
theorem Prs.of {H : Hp} {ys : List V} (h : ∀ y ∈ ys, ∃ t, y = .ref t ∧ H t = some (.tup [.int (prAt H y).1, .int (prAt H y).2])) : Prs H ys (ys.map (prAt H)) :=
  ⟨by simp, fun {i y pr} e1 e2 => by
    rw [List.getElem?_map, e1] at e2
    cases e2
    exact h y (List.mem_of_getElem? e1)⟩
/-- sorted(pairs) -/
theorem sorted_prs {K : PySem.W.Frag} {H : Hp} {Q : VK} {a : Addr} {ys : List V} {prs : List (Int × Int)} (h : Prs H ys prs) (ha : SqL K H a ys) (k : ∀ zs p, Prs H zs (sortP prs) → H p = none → Q (.ref p) (upd H p (.lst zs))) : rSortedPO K [.ref a] H Q := by
  refine ⟨a, ys, prAt H, rfl, ha, fun x hx => h.mem hx, fun zs p h1 h2 hp => k zs p ?_ hp⟩
  have e : zs.map (prAt H) = sortP prs := by
    refine sortP_eq ?_ ?_
    · rw [← h.map]
      exact h2.perm.map _
    · rw [List.pairwise_map]
      refine h1.imp fun {x y} q => ?_
      rw [leP_iff]
      have q : SrtO.lexB (prAt H y) (prAt H x) = false := q
      rw [SrtO.lexB_no] at q
      omega
  rw [← e]
  exact Prs.of fun y hy => h.mem (h2.perm.mem_iff.mp hy)
/-- the cells of new pairs -/
theorem prs_of_cells {H0 H : Hp} {D : Addr} {ys : List V} {Cs : List (List Cell)} {prs : List (Int × Int)} (L : Lo H0 H ((D, .lst ys) :: Cs.flatten)) (h1 : ys.length = prs.length) (h2 : Cs.length = prs.length)
    (h3 : ∀ (i : Nat) (y : V) (C : List Cell), ys[i]? = some y → Cs[i]? = some C → ∃ t pr, prs[i]? = some pr ∧ y = .ref t ∧ C = [(t, .tup [.int pr.1, .int pr.2])]) : Prs H ys prs :=
  ⟨h1, fun {i y pr} e1 e2 => by
    have hi := lt_of_get e2
    have e3 := get_some (xs := Cs) (i := i) (by omega)
    obtain ⟨t, pr', e4, e5, e6⟩ := h3 i y _ e1 e3
    rw [e2] at e4
    cases e4
    refine ⟨t, e5, L.get (List.mem_cons_of_mem _ (List.mem_flatten.mpr ⟨_, List.mem_of_getElem? e3, ?_⟩))⟩
    rw [e6]
    exact List.mem_cons_self⟩
/-- a row of rows replaced by a new list -/
theorem Lo.rowR {H0 H : Hp} {B : List Cell} {p : Addr} {ps : List Addr} {rs : List (List Int)} {k : Nat} {q : Addr} {r : List Int} (h : Lo H0 H ((q, intsO r) :: (llC p ps rs ++ B))) (hl : ps.length = rs.length) (hk : k < ps.length) :
    Lo H0 (upd H p (refsO (ps.set k q))) (llC p (ps.set k q) (rs.set k r) ++ B) := by
  have L2 : Lo H0 H (((q, intsO r) :: []) ++ (p, refsO ps) :: (rowsC ps rs ++ B)) := h
  have L3 := L2.wr (refsO (ps.set k q))
  have key : ∀ (ps : List Addr) (rs : List (List Int)) (k : Nat), ps.length = rs.length → k < ps.length → ∃ A D c, rowsC ps rs = A ++ c :: D ∧ rowsC (ps.set k q) (rs.set k r) = A ++ (q, intsO r) :: D := by
    intro ps
    induction ps with
    | nil => intro rs k _ h; simp at h
    | cons p ps ih =>
      intro rs k h1 h2
      cases rs with
      | nil => simp at h1
      | cons s rs =>
        cases k with
        | zero => exact ⟨[], rowsC ps rs, (p, intsO s), rfl, rfl⟩
        | succ k =>
          obtain ⟨A, D, c, e1, e2⟩ := ih rs k (by simpa using h1) (by simpa using h2)
          exact ⟨(p, intsO s) :: A, D, c, by show _ :: _ = _; rw [e1]; rfl, by show _ :: _ = _; rw [e2]; rfl⟩
  obtain ⟨A, D, c, e1, e2⟩ := key ps rs k hl hk
  unfold llC
  rw [e2]
  rw [e1] at L3
  refine (L3.sub (L' := (q, intsO r) :: (p, refsO (ps.set k q)) :: (A ++ (D ++ B))) ?_).perm ?_
  · simp only [List.cons_append, List.nil_append, List.append_assoc]
    exact List.Sublist.cons₂ _ (List.Sublist.cons₂ _ (List.Sublist.append (List.Sublist.refl _) (List.sublist_cons_self _ _)))
  · simp only [List.cons_append, List.append_assoc]
    exact (List.Perm.swap _ _ _).trans (List.Perm.cons _ List.perm_middle.symm)
end Cc

namespace Cc
open PySem PySem.Spec PyProof.Rows L2
/-! list(d.values()) -/
def tListVals (te : TE) : TE := fun σ H Q => te σ H fun x H1 => ∃ (d : Addr) (kvs : List (Key × V)), x = .ref d ∧ H1 d = some (.dK kvs) ∧ ∀ p, H1 p = none → Q (.ref p) (upd H1 p (.lst (kvs.map (·.2))))
theorem vals_at {vs : List Value} : ∀ {kvs : List (Key × V)} {ws : List (Key × Value)}, KV kvs ws → vs.length = ws.length → (∀ (j : Nat) (v : Value), vs[j]? = some v → ∃ k, ws[j]? = some (k, v)) → Vals (kvs.map (·.2)) vs := by
  induction vs with
  | nil =>
    intro kvs ws r hl hv
    have e : ws = [] := List.length_eq_zero_iff.mp hl.symm
    subst e
    have e2 : kvs = [] := List.length_eq_zero_iff.mp (KV.length r)
    subst e2
    exact .nil
  | cons v vs ih =>
    intro kvs ws r hl hv
    cases ws with
    | nil => cases hl
    | cons w ws =>
      unfold KV at r
      cases r with
      | cons r1 r2 =>
        obtain ⟨k, e⟩ := hv 0 v rfl
        have e : w = (k, v) := Option.some.inj e
        subst e
        exact .cons r1.2 (ih r2 (Nat.succ.inj hl) fun j u hu => hv (j + 1) u hu)
section
variable {X : Cx} {e : Expr} {te : TE} {p apos cpos pos : Pos}
theorem pe_listVals (hc : X.calm = true) (he : PE X e te) (hg : Gl X "list") (hm : X.mg "list" = none) (hv : bootBuiltins "list" = some (.type "list")) (hbase : attributeBase e "values" X.env (eval e X.env) = eval e X.env := by rfl) (hline : (apos.endLine == cpos.line) = true := by rfl)
    (hs : starEach [.Call (.Attribute e "values" apos) [] [] cpos] X.env = (false, eval (.Call (.Attribute e "values" apos) [] [] cpos) X.env) :: starEach [] X.env := by rfl) :
    PE X (.Call (.Name "list" p) [.Call (.Attribute e "values" apos) [] [] cpos] [] pos) (tListVals te) := by
  refine ⟨fun pins s σ H Q I hq => ?_⟩
  refine wpAny_Call_Name_kw (ld_blt I hg hm hv ?_)
  refine PyProof.Rows.callWith_type1 ?_ hs rfl
  rw [hs]
  show wpAny _ _ (spliced ((false, eval (.Call (.Attribute e "values" apos) [] [] cpos) X.env) :: backTo pos (starEach [] X.env))) _ _ s
  refine Calls.spliced_cons ?_
  refine wpAny_Call_method (T := "dict") (id := "dict.values") hbase rfl hline F.plainAttrs_dict F.slot_dict_values F.type_dict_values (thn (he.run pins s σ H _ I hq) fun u s1 ⟨x, H1, I1, rx, d, kvs, ex, hd, q⟩ => ?_)
  subst ex
  obtain rfl : u = Value.ref d := rx
  obtain ⟨hz, hs0, vs, kv, hdo⟩ := I1.hok d _ hd
  obtain ⟨ep, hat⟩ := hdo.dictAt
  have lk : kvs.length = vs.length := Paired.length kv
  have I2 : Inv X pins σ H1 { s1 with heap := s1.heap.push { cls := .type "dict_values", data := .fields #[.ref d] } } := I1.kept (t' := s1.toks) fun b ob q => Heap.get?_push_of_some _ q
  refine ⟨hdo.typeIs, hdo.mapOf.noDict, ?_⟩
  show wpAny _ _ (callWith cpos (.builtin "dict.values") [.ref d] [] []) _ X.xe s1
  refine method_meetsIn F.slot_dict_values F.entry_dict_values rfl (PySem.evalArgs_none ⟨rfl, hdo.typeIs, F.args_dict_values_1 _, _, meets_dict_values (mixKind X.prog X.w) d hs0, ⟨⟨vs, hdo⟩, ?_⟩⟩)
  refine Calls.spliced_nil ?_
  refine PySem.W.kdl_call (PySem.W.kdl_values (knd := mixKind X.prog X.w) (kvs := vs) (ep := ep)) (I1.ok.hd hc) ⟨⟨_, Heap.get?_push_size _ rfl, rfl, rfl⟩, hat.push _⟩ (by omega) fun h' tk acc c hk hD hacc => ?_
  have hvv : Vals (kvs.map (·.2)) acc.toList := vals_at kv (by rw [Array.length_toList]; exact hacc.1) fun j v e => hacc.2 j v (by rw [← Array.getElem?_toList]; exact e)
  refine ⟨.ref (s1.heap.push { cls := .type "dict_values", data := .fields #[.ref d] }).objs.size, upd H1 _ (.lst (kvs.map (·.2))), I2.laid (t' := tk) hk (Nat.le_refl _)
    (show ObjOk X.prog X.w _ _ _ (.lst (kvs.map (·.2))) from ⟨by rw [List.length_map]; exact hz, acc.toList, c, hvv, by rw [Array.toArray_toList]; exact hD⟩), rfl, q _ (I2.hok.fresh (Nat.le_refl _))⟩
end
/-- if ..: return .. -/
theorem q_ret {tt : TT} {tu tz : TS} {D : Ends} {σ : L2.St} {H : Hp} {b : Bool} (h : Tr tt σ H b) (k1 : b = true → ∀ H', Same H H' → tu { D with nx := tz D } σ H') (k2 : b = false → ∀ H', Same H H' → tz D σ H') : tSeq (tIfS tt tu tNext) tz D σ H := q_if h k1 k2
theorem s_ret {tt : TT} {tu : TS} {D : Ends} {σ : L2.St} {H : Hp} {b : Bool} (h : Tr tt σ H b) (k1 : b = true → ∀ H', Same H H' → tu D σ H') (k2 : b = false → ∀ H', Same H H' → D.nx σ H') : tIfS tt tu tNext D σ H := s_if h k1 k2
/-- two names at once -/
theorem q_par {ta tb : TE} {i j : Nat} {tz : TS} {D : Ends} {σ : L2.St} {H : Hp} {R : V → Hp → Prop} {R2 : V → V → Hp → Prop} (h : Vr ta σ H R) (h2 : ∀ v H', R v H' → Vr tb σ H' (R2 v)) (k : ∀ v w H', R2 v w H' → tz D ((σ.set i (some v)).set j (some w)) H') :
    tSeq (tPar i j (tCons ta (tCons tb tNil))) tz D σ H := h _ fun v H' r => h2 v H' r _ fun w H'' r2 => ⟨v, w, rfl, k v w H'' r2⟩
section
variable {K : PySem.W.Frag} {tl te to : TE} {g : TG} {tb tz : TS} {D : Ends} {σ : L2.St} {H : Hp} {R : V → Hp → Prop}
/-- what a for asks -/
def ForOk (J : It) (g : TG) (tb : TS) (D : Ends) (σ : L2.St) (H : Hp) : Prop := ∃ W : Nat → Nat → L2.St → Hp → Prop, (∃ m, W 0 m σ H) ∧ ∀ i m σ H, W i m σ H →
  (J.stop i H ∧ D.nx σ H) ∨ (J.go i H ∧ ∃ N : L2.St → Hp → Prop, (∀ σ' H', N σ' H' → ∃ m', m' < m ∧ W (i + 1) m' σ' H') ∧ ∀ x H', J.yld i H x H' → g x σ H' fun σ2 H2 => tb { D with nx := N, ct := N, bk := D.nx } σ2 H2)
theorem q_forT (h : Vr tl σ H R) (k : ∀ v H', R v H' → ∃ a, v = .ref a ∧ (∃ xs, SqT K H' a xs) ∧ ForOk (Itt K a) g tb { D with nx := tz D } σ H') : tSeq (tFor (iTup K tl) g tb) tz D σ H := h _ k
theorem q_forL (h : Vr tl σ H R) (k : ∀ v H', R v H' → ∃ a, v = .ref a ∧ (∃ xs, SqL K H' a xs) ∧ ForOk (Itl K a) g tb { D with nx := tz D } σ H') : tSeq (tFor (iList K tl) g tb) tz D σ H := h _ k
theorem s_forL (h : Vr tl σ H R) (k : ∀ v H', R v H' → ∃ a, v = .ref a ∧ (∃ xs, SqL K H' a xs) ∧ ForOk (Itl K a) g tb D σ H') : tFor (iList K tl) g tb D σ H := h _ k
/-- o.m(e), the answer dropped -/
theorem s_bm {T : String} {r : V → List V → Hp → VK → Prop} {x : V} (ho : Va to σ H x) (ht : tyV K T x H) (h : Vr te σ H R) (k : ∀ v H', R v H' → r x [v] H' (fun _ H2 => D.nx σ H2)) : tDrop (tBM K T r to (tCons te tNil)) D σ H := ho _ ⟨ht, h _ k⟩
end
end Cc

namespace Cc
open PySem L2
/-! own classes' instances, asked by isinstance -/
structure KIns (K : PySem.W.Frag) (C : Addr) : Prop where
  cl : Cls K C
  ha : PySem.W.findIn K (.ref C) "__class__" = some (some (.builtin "object.__class__"))
  hn : PySem.W.specialIn K (.builtin "object.__class__") "__get__" = some (some (.builtin "getset_descriptor.__get__"))
  htk : PySem.W.takesIn K (.builtin "object.__class__") = some true
  hm : PySem.W.mroIn K C (.type "object") = some true
/-- of its class alone, of the answers' classes -/
structure KAns (K : PySem.W.Frag) (C CA CF CR CW CO : Addr) (f r w o : Bool) : Prop where
  ins : KIns K C
  ka : PySem.W.kitOne K (.ref C) (.ref CA) = some true
  kf : PySem.W.kitOne K (.ref C) (.ref CF) = some f
  kr : PySem.W.kitOne K (.ref C) (.ref CR) = some r
  kw : PySem.W.kitOne K (.ref C) (.ref CW) = some w
  ko : PySem.W.kitOne K (.ref C) (.ref CO) = some o
theorem va_isi {K : PySem.W.Frag} {σ : L2.St} {H : Hp} {i : Nat} {x C D dx : Addr} {fs : List (Str × V)} {b : Bool} (h : σ[i]? = some (some (.ref x))) (hx : H x = some (.ins C dx fs)) (k : KIns K C) (e : PySem.W.kitOne K (.ref C) (.ref D) = some b) :
    Va (tCB (rIsi K) (tCons (tVar i) (tCons (tC (.ref D)) tNil))) σ H (.bl b) := fun Q q => ⟨_, h, .ref x, .ref D, _, _, b, rfl, .own D, .base (.ins hx k.cl k.ha k.hn k.htk k.hm), e, q⟩
/-- three truths laid as a list -/
theorem dp_bls {K : PySem.W.Frag} {H : Hp} : ∀ bs : List Bool, DpAll K H (bs.map V.bl) (bs.map PyData.bool)
  | [] => .nil
  | b :: bs => .cons (.bl b) (dp_bls bs)
theorem eqv_bool (a b : Bool) : PyData.eqv (.bool a) (.bool b) = decide (a = b) := by
  cases a <;> cases b <;> decide +kernel
theorem eqv_B (a b : List Bool) : PyData.eqv (.list (a.map PyData.bool)) (.list (b.map PyData.bool)) = decide (a = b) := eqv_lst eqv_bool a b
theorem shB (r : List Bool) : SeqAt.shaped (.list (r.map PyData.bool)) = true := (shp_map shp_bool r).shaped (by decide)
theorem ixN_last {n : Nat} (h : 0 < n) : ixN n (-1) = some (n - 1) := by
  unfold ixN
  rw [if_neg (by decide), if_pos (by omega)]
  congr 1
  omega
theorem atI_neg1 {α : Type} {xs : List α} {v : α} (h : xs[xs.length - 1]? = some v) : atI xs (-1) = some v := by
  unfold atI
  rw [ixN_last (by have := lt_of_get h; omega)]
  exact h
def sp_law (K : PySem.W.Frag) : Sp := fun vs H Q _ => ∃ (a : Addr) (ns : List Int), vs = [.ref a] ∧ SqL K H a (ns.map V.int) ∧ ns.length ≤ 63 ∧ ∀ H', Q (.bl true) H'
end Cc

namespace Cc
open PySem L2
/-! called_by -/
def calStep (rs : List (List Int)) (i : Nat) (u : Int) : List (List Int) := rs.set u.toNat (rs.getD u.toNat [] ++ [(i : Int) + 1])
def calGo : Nat → List Int → List (List Int) → List (List Int)
  | _, [], rs => rs
  | i, u :: us, rs => calGo (i + 1) us (calStep rs i u)
def calledM (us : List Int) : List (List Int) := calGo 0 us (List.replicate (us.length + 1) [])
def UpsOk (us : List Int) : Prop := ∀ (i : Nat) (u : Int), us[i]? = some u → 0 ≤ u ∧ u ≤ i
def sp_called_by : Sp := fun vs H Q _ => ∃ (a : Addr) (us : List Int), vs = [.ref a] ∧ H a = some (intsO us) ∧ us.length ≤ 1000 ∧ UpsOk us ∧
  ∀ p ps H', Lo H H' (llC p ps (calledM us)) → ps.length = us.length + 1 → Q (.ref p) H'
theorem calStep_len (rs : List (List Int)) (i : Nat) (u : Int) : (calStep rs i u).length = rs.length := by unfold calStep; simp
theorem calGo_snoc : ∀ (us : List Int) (i : Nat) (u : Int) (rs : List (List Int)), calGo i (us ++ [u]) rs = calStep (calGo i us rs) (i + us.length) u
  | [], i, u, rs => rfl
  | v :: us, i, u, rs => by
    show calGo (i + 1) (us ++ [u]) (calStep rs i v) = _
    rw [calGo_snoc us (i + 1) u]
    show _ = calStep (calGo (i + 1) us (calStep rs i v)) (i + (us.length + 1)) u
    rw [show i + 1 + us.length = i + (us.length + 1) by omega]
theorem calGo_len : ∀ (us : List Int) (i : Nat) (rs : List (List Int)), (calGo i us rs).length = rs.length
  | [], _, _ => rfl
  | v :: us, i, rs => by
    show (calGo (i + 1) us (calStep rs i v)).length = _
    rw [calGo_len us, calStep_len]
theorem calledM_len (us : List Int) : (calledM us).length = us.length + 1 := by
  unfold calledM
  rw [calGo_len, List.length_replicate]
def t_called_by (K : PySem.W.Frag) : TS :=
  (tSeq (tAsg (tLc (iRng1 (tCons (tOp qAdd (tCB (qLen K) (tCons (tVar 0) tNil)) (tC (.int 1))) tNil)) (gName 1) tYes (tLst tNil) [1]) (gName 2))
    (tSeq (tFor (iEnum K (tCons (tVar 0) tNil)) (gTup K 2 (gCons (gName 3) (gCons (gName 4) gNil)))
    (tDrop (tBM K "list" rAppend (tOp (rIxL K) (tVar 2) (tVar 4)) (tCons (tOp qAdd (tVar 3) (tC (.int 1))) tNil))))
    (tRet (tVar 2))))
theorem calGo_row : ∀ (us : List Int) (i : Nat) (rs : List (List Int)) (n : Nat), (∀ r ∈ rs, r.length ≤ n) → ∀ r ∈ calGo i us rs, r.length ≤ n + us.length
  | [], _, rs, n, h, r, hr => h r hr
  | u :: us, i, rs, n, h, r, hr => by
    have := calGo_row us (i + 1) (calStep rs i u) (n + 1) (fun r hr => by
      unfold calStep at hr
      rcases List.mem_or_eq_of_mem_set hr with hr | hr
      · have := h r hr; omega
      · subst hr
        rw [List.length_append]
        have : (rs.getD u.toNat []).length ≤ n := by
          rw [List.getD_eq_getElem?_getD]
          cases e : rs[u.toNat]? with
          | none => simp
          | some x => exact h x (List.mem_of_getElem? e)
        simp only [List.length_cons, List.length_nil]; omega) r hr
    rw [List.length_cons]; omega
theorem v_called_by {K : PySem.W.Frag} {vs : List V} {H : Hp} {Q : VK} {E : XK} (h : sp_called_by vs H Q E) : t_called_by K (fin Q) (st0 5 vs) H := by
  obtain ⟨a, us, rfl, ha, hl, hu, k⟩ := h
  unfold t_called_by
  refine ⟨_, rfl, a, _, rfl, .inl (SqL.of ha), _, _, rfl, rfl, _, rfl, by simp; omega, by simp; omega, fun D hD => ?_⟩
  have e1 : (((us.map V.int).length : Int) + 1).toNat = us.length + 1 := by simp
  refine lc_rangeY (fun i H1 => ∃ ps, ps.length = i ∧ Lo H H1 (llC D ps (List.replicate i []))) ⟨[], rfl, (Lo.nil H).al hD _⟩ ?_ ?_ (gN_mono _)
  · rintro i H1 hi ⟨ps, hps, L1⟩
    rw [e1] at hi
    refine ⟨rfl, by show 0 ≤ sizeLine; decide, fun q hq => ?_⟩
    have L2 := L1.al hq (intsO [])
    refine ⟨ps.map .ref, L2.get (List.mem_cons_of_mem _ (List.mem_cons_self)), szl (by simp; omega), ps ++ [q], by simp [hps], ?_⟩
    rw [map_ref_snoc, List.replicate_succ']
    exact L2.rowN0 (by simp [hps])
  · rintro H1 ⟨ps, hps, L1⟩
    rw [e1] at L1 hps
    refine ⟨_, rfl, a, _, rfl, SqL.of (L1.same _ _ ha), ?_⟩
    refine for_enum (xs := us.map V.int) (fun i σ H2 => ∃ x y, σ = [some (.ref a), none, some (.ref D), x, y] ∧ Lo H H2 (llC D ps (calGo 0 (us.take i) (List.replicate (us.length + 1) [])))) ?_ ?_ ?_ ?_
    · exact ⟨none, none, rfl, L1⟩
    · rintro i σ H2 hi ⟨x, y, rfl, L2⟩
      exact SqL.of (L2.same _ _ ha)
    · rintro i x σ H2 T hx ⟨y, z, rfl, L2⟩ hT
      obtain ⟨u, eu, rfl⟩ := mapV_get hx
      have hi := lt_of_get eu
      obtain ⟨hu0, hu1⟩ := hu i u eu
      have L3 := L2.ju hT (.tup [.int i, .int u])
      have len : (calGo 0 (us.take i) (List.replicate (us.length + 1) [])).length = us.length + 1 := by rw [calGo_len, List.length_replicate]
      have rl := calGo_row (us.take i) 0 (List.replicate (us.length + 1) []) 0 (by simp)
      generalize hrs : calGo 0 (us.take i) (List.replicate (us.length + 1) []) = rs at L3 len rl
      have hps1 := get_some (xs := ps) (i := u.toNat) (by omega)
      have hrs1 := get_some (xs := rs) (i := u.toNat) (by omega)
      have hq := L3.get (List.mem_cons_of_mem _ (rowsC_get hps1 hrs1))
      refine ⟨T, _, rfl, SqT.of upd_same, rfl, _, _, rfl, _, _, rfl, rfl, ?_⟩
      refine ⟨_, rfl, _, rfl, D, _, u, _, rfl, rfl, SqL.of (L3.get (List.mem_cons_self)), atI_ref hu0 hps1, .inl ⟨rfl, _, SqL.of hq⟩, _, rfl, _, _, rfl, rfl, _, _, _, rfl, rfl, hq, ?_, ?_⟩
      · have := rl _ (List.mem_of_getElem? hrs1)
        simp at this ⊢
        exact szl (by omega)
      · refine ⟨_, _, rfl, ?_⟩
        rw [map_int_snoc]
        have L5 := L3.rowW0 hps1 hrs1 (rs[u.toNat]'(by omega) ++ [(i : Int) + 1])
        refine L5.to ?_
        rw [List.take_add_one, eu]
        show _ = llC D ps (calGo 0 (us.take i ++ [u]) _)
        rw [calGo_snoc, hrs, List.length_take_of_le (by omega)]
        unfold calStep
        simp [hrs1]
    · rintro σ H2 ⟨x, y, rfl, L2⟩
      refine ⟨_, rfl, k D ps H2 ?_ hps⟩
      simp at L2
      exact L2
end Cc

namespace Cc
open PySem L2
/-! _law_number -/
def numMix (c a w : Int) : Int := ((c + 977 * a) * 48271 + w) % 2147483647
def numMore (c a w : Int) : Int := numMix c a w * (numMix c a w + 31 * a + 7) * (numMix c a w + c + 5)
def numberM (c a w : Int) : Int :=
  if decide ((10 : Int) ^ (18 : Int).toNat ≤ c) = true then c % (10 : Int) ^ (60 : Int).toNat
  else if decide (c ≤ 0 - (10 : Int) ^ (18 : Int).toNat) = true then c % (10 : Int) ^ (60 : Int).toNat
  else numMore c a w * (numMore c a w + 48271) / 1009
def sp__law_number : Sp := fun vs H Q _ => ∃ c a w : Int, vs = [.int c, .int a, .int w] ∧ 0 ≤ a ∧ a ≤ 1000000 ∧ ∀ H', Same H H' → Q (.int (numberM c a w)) H'
def t__law_number (K : PySem.W.Frag) : TS :=
  (tSeq (tIfS (tOr (tTest (tOp qGe (tVar 0) (tOp qPow (tC (.int 10)) (tC (.int 18))))) (tTest (tOp qLe (tVar 0) (tOp qSub (tC (.int 0)) (tOp qPow (tC (.int 10)) (tC (.int 18)))))))
    (tRet (tOp qMod (tVar 0) (tOp qPow (tC (.int 10)) (tC (.int 60)))))
    tNext)
    (tSeq (tAsg (tOp qMod (tOp qAdd (tOp qMul (tOp qAdd (tVar 0) (tOp qMul (tC (.int 977)) (tVar 1))) (tC (.int 48271))) (tVar 2)) (tC (.int 2147483647))) (gName 3))
    (tSeq (tAsg (tOp qMul (tOp qMul (tVar 3) (tOp qAdd (tOp qAdd (tVar 3) (tOp qMul (tC (.int 31)) (tVar 1))) (tC (.int 7)))) (tOp qAdd (tOp qAdd (tVar 3) (tVar 0)) (tC (.int 5)))) (gName 4))
    (tRet (tOp qDiv (tOp qMulW (tVar 4) (tOp qAdd (tVar 4) (tC (.int 48271)))) (tC (.int 1009)))))))
theorem p18 : (10 : Int) ^ (18 : Int).toNat = 1000000000000000000 := by decide
theorem num_bound {m a c : Int} (m0 : 0 ≤ m) (m1 : m < 2147483647) (a0 : 0 ≤ a) (a1 : a ≤ 1000000) (c0 : -1000000000000000000 < c) (c1 : c < 1000000000000000000) :
    (m * (m + 31 * a + 7) * (m + c + 5)).natAbs < 2 ^ 130 := by
  have h1 : m.natAbs < 2 ^ 31 := by omega
  have h2 : (m + 31 * a + 7).natAbs < 2 ^ 32 := by omega
  have h3 : (m + c + 5).natAbs < 2 ^ 62 := by omega
  have h4 := wide_lt h1 h2
  have h5 := wide_lt h4 h3
  exact Nat.lt_of_lt_of_le h5 (Nat.pow_le_pow_right (by decide) (by decide))
theorem v__law_number {K : PySem.W.Frag} {vs : List V} {H : Hp} {Q : VK} {E : XK} (h : sp__law_number vs H Q E) : t__law_number K (fin Q) (st0 5 vs) H := by
  obtain ⟨c, a, w, rfl, a0, a1, k⟩ := h
  have k := k H (Same.refl H)
  have pw : ∀ n : Int, 0 ≤ n → n ≤ 1000 → CPow 10 n := fun n h0 h1 => ⟨h0, by omega, by decide⟩
  unfold numberM at k
  refine ⟨_, rfl, 10, 18, rfl, rfl, pw _ (by decide) (by decide), _, _, rfl, rfl, _, rfl, ?_⟩
  refine ite2 (fun e => ?_) (fun e => ?_)
  · refine iteT ?_
    rw [if_pos e] at k
    exact ⟨_, rfl, 10, 60, rfl, rfl, pw _ (by decide) (by decide), _, _, rfl, rfl, (by decide : (0 : Int) < 10 ^ (60 : Int).toNat), k⟩
  · rw [if_neg e] at k
    refine ⟨_, rfl, 10, 18, rfl, rfl, pw _ (by decide) (by decide), _, _, rfl, rfl, _, _, rfl, rfl, _, rfl, ?_⟩
    refine ite2 (fun e2 => ?_) (fun e2 => ?_)
    · rw [if_pos e2] at k
      exact ⟨_, rfl, 10, 60, rfl, rfl, pw _ (by decide) (by decide), _, _, rfl, rfl, (by decide : (0 : Int) < 10 ^ (60 : Int).toNat), k⟩
    · rw [if_neg e2] at k
      have c1 : c < 1000000000000000000 := by rw [p18] at e; simpa using e
      have c0 : -1000000000000000000 < c := by rw [p18] at e2; simp at e2; omega
      have m0 : 0 ≤ numMix c a w := Int.emod_nonneg _ (by decide)
      have m1 : numMix c a w < 2147483647 := Int.emod_lt_of_pos _ (by decide)
      have hb : (numMore c a w).natAbs < 2 ^ 130 := num_bound m0 m1 a0 a1 c0 c1
      refine ⟨_, rfl, _, rfl, _, _, rfl, rfl, .inl ⟨by decide, by decide⟩, _, _, rfl, rfl, _, _, rfl, rfl, .inr ⟨by decide, by decide⟩, _, rfl, _, _, rfl, rfl, _, _, rfl, rfl, (by decide : (0 : Int) < 2147483647), ?_⟩
      have e3 : ((c + 977 * a) * 48271 + w) % 2147483647 = numMix c a w := rfl
      refine ⟨_, rfl, _, rfl, _, rfl, _, _, rfl, rfl, .inl ⟨by decide, by decide⟩, _, _, rfl, rfl, _, _, rfl, rfl, _, _, rfl, rfl, .inl ?_, _, rfl, _, rfl, _, _, rfl, rfl, _, _, rfl, rfl, _, _, rfl, rfl, .inr ?_, ?_⟩
      · show -(2 ^ 64) < numMix c a w ∧ numMix c a w < 2 ^ 64
        omega
      · show -(2 ^ 64) < numMix c a w + c + 5 ∧ numMix c a w + c + 5 < 2 ^ 64
        omega
      · refine ⟨_, rfl, _, rfl, _, _, rfl, rfl, _, _, rfl, rfl, ?_, _, _, rfl, rfl, ⟨by decide, by decide⟩, k⟩
        show CMulW (numMore c a w) (numMore c a w + 48271)
        exact wide_mul hb (Nat.lt_of_lt_of_le (show (numMore c a w + 48271).natAbs < 2 ^ 131 by
          have : (2 : Nat) ^ 131 = 2 ^ 130 + 2 ^ 130 := by decide
          have : (48271 : Nat) < 2 ^ 130 := by decide
          omega) (Nat.le_refl _)) (by decide) (by decide) (by decide)
end Cc

namespace Cc
open PySem L2
/-! _law_ups -/
def cellsM (ns : List Int) : List Int := if ns = [] then [5] else ns.take 63
def wholeM (ns : List Int) (b : Int) : Int := (cellsM ns).sum + b
def upsN (ns : List Int) (b : Int) (i : Nat) : Int :=
  numberM ((cellsM ns).getD (((i : Int) + b) % ((cellsM ns).length : Int)).toNat 0 + i) ((i : Int) + b) (wholeM ns b) / 3
def upsPick (x : Int) (i : Nat) (kind : Int) : Int :=
  [x % ((i : Int) + 1), (i : Int), 0, x % (if 3 < (i : Int) + 1 then 3 else (i : Int) + 1), (i : Int) / 2].getD kind.toNat 0
def upsMany (ns : List Int) (b most : Int) : Int := numberM (wholeM ns b) (b + 1) 3 / 9 % most
def upsKind (ns : List Int) (b : Int) : Int := numberM (wholeM ns b) (b + 1) 3 / 360 % 5
def upsM (ns : List Int) (b most : Int) : List Int := (List.range (upsMany ns b most).toNat).map fun i => upsPick (upsN ns b i) i (upsKind ns b)
theorem cellsM_ne (ns : List Int) : 0 < (cellsM ns).length := by
  unfold cellsM
  split
  · decide
  · rename_i h
    cases ns with
    | nil => exact absurd rfl h
    | cons a l => simp
theorem cellsM_le (ns : List Int) : (cellsM ns).length ≤ 63 := by
  unfold cellsM
  split
  · decide
  · simp; omega
theorem upsPick_ok (x : Int) (i : Nat) {kind : Int} (h0 : 0 ≤ kind) (h1 : kind < 5) : 0 ≤ upsPick x i kind ∧ upsPick x i kind ≤ i := by
  have hk : kind = 0 ∨ kind = 1 ∨ kind = 2 ∨ kind = 3 ∨ kind = 4 := by omega
  have m1 := Int.emod_nonneg x (show ((i : Int) + 1) ≠ 0 by omega)
  have m2 := Int.emod_lt_of_pos x (show 0 < (i : Int) + 1 by omega)
  rcases hk with rfl | rfl | rfl | rfl | rfl
  · show 0 ≤ x % ((i : Int) + 1) ∧ x % ((i : Int) + 1) ≤ i
    omega
  · show 0 ≤ (i : Int) ∧ (i : Int) ≤ i
    omega
  · show 0 ≤ (0 : Int) ∧ (0 : Int) ≤ i
    omega
  · show 0 ≤ x % (if 3 < (i : Int) + 1 then 3 else (i : Int) + 1) ∧ x % (if 3 < (i : Int) + 1 then 3 else (i : Int) + 1) ≤ i
    split <;> omega
  · show 0 ≤ (i : Int) / 2 ∧ (i : Int) / 2 ≤ i
    omega
theorem upsKind_ok (ns : List Int) (b : Int) : 0 ≤ upsKind ns b ∧ upsKind ns b < 5 := ⟨Int.emod_nonneg _ (by decide), Int.emod_lt_of_pos _ (by decide)⟩
theorem upsMany_ok (ns : List Int) (b : Int) {most : Int} (h : 0 < most) : 0 ≤ upsMany ns b most ∧ upsMany ns b most < most := ⟨Int.emod_nonneg _ (by omega), Int.emod_lt_of_pos _ h⟩
theorem upsM_ok (ns : List Int) (b most : Int) : UpsOk (upsM ns b most) := fun i u e => by
  unfold upsM at e
  rw [List.getElem?_map] at e
  cases q : (List.range (upsMany ns b most).toNat)[i]? with
  | none => rw [q] at e; cases e
  | some j =>
    rw [q] at e
    have hj : j = i := by
      rw [List.getElem?_range (by have := lt_of_get q; simpa using this)] at q
      exact (Option.some.inj q).symm
    subst hj
    have e : upsPick (upsN ns b j) j (upsKind ns b) = u := Option.some.inj e
    subst e
    exact upsPick_ok _ _ (upsKind_ok ns b).1 (upsKind_ok ns b).2
theorem upsM_len (ns : List Int) (b : Int) {most : Int} (h : 0 < most) : ((upsM ns b most).length : Int) < most := by
  have := upsMany_ok ns b h
  unfold upsM
  simp
  omega
def sp__law_ups (K : PySem.W.Frag) : Sp := fun vs H Q _ => ∃ (a : Addr) (ns : List Int) (b most : Int), vs = [.ref a, .int b, .int most] ∧ SqL K H a (ns.map V.int) ∧ 0 ≤ b ∧ b ≤ 1000 ∧ 0 < most ∧ most ≤ 1000 ∧
  ∀ p H', Lo H H' [(p, intsO (upsM ns b most))] → Q (.ref p) H'
def t__law_ups (K : PySem.W.Frag) : TS :=
(tSeq (tAsg (tIf (tTest (tOp (rNeD K) (tVar 0) (tLst tNil))) (L2.tSl (rSlL K) (tVar 0) tNoPart (tPart (tC (.int 63)))) (tLst (tCons (tC (.int 5)) tNil))) (gName 3))
    (tSeq (tPar 4 5 (tCons (tOp qAdd (tCB (rSum K) (tCons (tVar 3) tNil)) (tVar 1)) (tCons (tLst tNil) tNil)))
    (tSeq (tPar 6 7 (tCons (tOp qMod (tOp qDiv (tCall sp__law_number [] E0 (tCons (tVar 4) (tCons (tOp qAdd (tVar 1) (tC (.int 1))) (tCons (tC (.int 3)) tNil)))) (tC (.int 9))) (tVar 2)) (tCons (tOp qMod (tOp qDiv (tCall sp__law_number [] E0 (tCons (tVar 4) (tCons (tOp qAdd (tVar 1) (tC (.int 1))) (tCons (tC (.int 3)) tNil)))) (tC (.int 360))) (tC (.int 5))) tNil)))
    (tSeq (tFor (iRng1 (tCons (tVar 6) tNil)) (gName 8)
    (tSeq (tAsg (tOp qDiv (tCall sp__law_number [] E0 (tCons (tOp qAdd (tOp (rIxL K) (tVar 3) (tOp qMod (tOp qAdd (tVar 8) (tVar 1)) (tCB (qLen K) (tCons (tVar 3) tNil)))) (tVar 8)) (tCons (tOp qAdd (tVar 8) (tVar 1)) (tCons (tVar 4) tNil)))) (tC (.int 3))) (gName 9))
      (tDrop (tBM K "list" rAppend (tVar 5) (tCons (tOp (rIxT K) (tTup (tCons (tOp qMod (tVar 9) (tOp qAdd (tVar 8) (tC (.int 1)))) (tCons (tVar 8) (tCons (tC (.int 0)) (tCons (tOp qMod (tVar 9) (tCB qMin2 (tCons (tOp qAdd (tVar 8) (tC (.int 1))) (tCons (tC (.int 3)) tNil)))) (tCons (tOp qDiv (tVar 8) (tC (.int 2))) tNil)))))) (tVar 7)) tNil)))))
    (tRet (tVar 5))))))
theorem cut63 (ns : List Int) : cutV (ns.map V.int) none (some 63) = (ns.take 63).map V.int := by
  rw [show (63 : Int) = ((63 : Nat) : Int) from rfl, cut_to, List.map_take]
/-- the cells: script[:63] if script != [] else [5] -/
theorem vr_cells {K : PySem.W.Frag} {σ : L2.St} {H : Hp} {a : Addr} {ns : List Int} (hσ : σ[0]? = some (some (.ref a))) (ha : SqL K H a (ns.map V.int)) :
    Vr (tIf (tTest (tOp (rNeD K) (tVar 0) (tLst tNil))) (L2.tSl (rSlL K) (tVar 0) tNoPart (tPart (tC (.int 63)))) (tLst (tCons (tC (.int 5)) tNil))) σ H (fun v H' => ∃ c, v = .ref c ∧ Lo H H' [(c, intsO (cellsM ns))]) := by
  intro Q q
  refine ⟨_, hσ, by show 0 ≤ sizeLine; decide, fun z hz => ?_⟩
  have s1 := Same.new hz (.lst [])
  refine ⟨_, _, dp_SqI (s1.seq ha), .lst (SqL.of upd_same) .nil, shI ns, shI [], _, rfl, ?_⟩
  rw [eqv_I_nil]
  by_cases hn : ns = []
  · rw [decide_eq_true hn]
    refine iteF ?_
    refine ⟨by show 1 ≤ sizeLine; decide, fun c hc => q _ _ ⟨c, rfl, ?_⟩⟩
    have := ((Lo.nil H).cs s1).al hc (intsO (cellsM ns))
    unfold cellsM at this ⊢
    rw [if_pos hn] at this ⊢
    exact this
  · rw [decide_eq_false hn]
    refine iteT ?_
    refine ⟨_, hσ, _, rfl, a, _, rfl, s1.seq ha, fun c hc => q _ _ ⟨c, rfl, ?_⟩⟩
    have := ((Lo.nil H).cs s1).al hc (intsO (cellsM ns))
    unfold cellsM at this ⊢
    rw [if_neg hn] at this ⊢
    rw [cut63]
    exact this
theorem v__law_ups {K : PySem.W.Frag} {vs : List V} {H : Hp} {Q : VK} {E : XK} (h : sp__law_ups K vs H Q E) : t__law_ups K (fin Q) (st0 10 vs) H := by
  obtain ⟨a, ns, b, most, rfl, ha, b0, b1, m0, m1, k⟩ := h
  refine q_setR (vr_cells rfl ha) ?_
  rintro _ H1 ⟨c, rfl, L1⟩
  -- whole, found
  refine ⟨_, rfl, c, cellsM ns, rfl, SqL.of (L1.get List.mem_cons_self), _, rfl, _, _, rfl, rfl, by show 0 ≤ sizeLine; decide, fun p hp => ?_⟩
  have L2 := L1.al hp (intsO [])
  refine ⟨_, _, rfl, ?_⟩
  -- many, kind
  refine ⟨_, rfl, _, rfl, _, _, rfl, rfl, _, _, _, rfl, by omega, by omega, fun H3 s3 => ?_⟩
  refine ⟨_, _, rfl, rfl, ⟨by decide, by decide⟩, _, rfl, _, _, rfl, rfl, m0, ?_⟩
  refine ⟨_, rfl, _, rfl, _, _, rfl, rfl, _, _, _, rfl, by omega, by omega, fun H4 s4 => ?_⟩
  refine ⟨_, _, rfl, rfl, ⟨by decide, by decide⟩, _, _, rfl, rfl, (by decide : (0 : Int) < 5), _, _, rfl, ?_⟩
  have L4 := (L2.cs s3).cs s4
  have hm := upsMany_ok ns b m0
  have hk := upsKind_ok ns b
  refine ⟨_, rfl, (upsMany ns b most), rfl, by omega, by omega, ?_⟩
  refine for_range (fun i σ H5 => ∃ x8 x9, σ = [some (.ref a), some (.int b), some (.int most), some (.ref c), some (.int (wholeM ns b)), some (.ref p), some (.int (upsMany ns b most)), some (.int (upsKind ns b)), x8, x9] ∧
    Lo H H5 [(p, intsO ((List.range i).map fun i => upsPick (upsN ns b i) i (upsKind ns b))), (c, intsO (cellsM ns))]) ?_ ?_ ?_
  · exact ⟨none, none, rfl, L4⟩
  · rintro i σ H5 hi ⟨x8, x9, rfl, L5⟩
    have hc5 := L5.get (List.mem_cons_of_mem _ List.mem_cons_self)
    have cn := cellsM_ne ns
    have cl := cellsM_le ns
    have i0 : ((0 : Int) + (i : Int)) = (i : Int) := by omega
    have md0 := Int.emod_nonneg ((i : Int) + b) (show ((cellsM ns).length : Int) ≠ 0 by omega)
    have md1 := Int.emod_lt_of_pos ((i : Int) + b) (show 0 < ((cellsM ns).length : Int) by omega)
    have hg := get_some (xs := cellsM ns) (i := (((i : Int) + b) % ((cellsM ns).length : Int)).toNat) (by omega)
    show tSeq _ _ _ [some (.ref a), some (.int b), some (.int most), some (.ref c), some (.int (wholeM ns b)), some (.ref p), some (.int (upsMany ns b most)), some (.int (upsKind ns b)), some (.int ((0 : Int) + (i : Int))), x9] H5
    rw [i0]
    refine q_setR (R := fun v H' => v = .int (upsN ns b i) ∧ Same H5 H') (fun Q' q' => ?_) ?_
    · refine ⟨_, rfl, _, rfl, _, rfl, _, _, rfl, rfl, _, rfl, c, _, rfl, .inl (SqL.of hc5), _, _, rfl, rfl, ?_, c, _, _, .int ((cellsM ns).getD (((i : Int) + b) % ((cellsM ns).length : Int)).toNat 0), rfl, rfl, SqL.of hc5, ?_, _, rfl, _, _, rfl, rfl, _, rfl, _, rfl, _, _, rfl, rfl, _, rfl, _, _, _, rfl, by omega, by omega, fun H6 s6 => ⟨_, _, rfl, rfl, ⟨by decide, by decide⟩, q' _ _ ⟨rfl, s6⟩⟩⟩
      · show (0 : Int) < ((List.map V.int (cellsM ns)).length : Nat)
        simp; omega
      · rw [List.length_map]
        refine atI_int md0 ?_
        rw [hg]
        simp [List.getD, hg]
    rintro _ H6 ⟨rfl, s6⟩
    have L6 := L5.cs s6
    have hp6 := L6.get List.mem_cons_self
    refine ⟨_, rfl, .inl ⟨rfl, _, SqL.of hp6⟩, ?_⟩
    refine ⟨_, rfl, _, rfl, _, _, rfl, rfl, _, _, rfl, rfl, (by omega : (0 : Int) < (i : Int) + 1), _, rfl, _, rfl, _, rfl, _, _, rfl, rfl, _, _, rfl, _, _, rfl, rfl, ?_, _, rfl, _, _, rfl, rfl, ⟨by decide, by decide⟩, by show 5 ≤ sizeLine; decide, fun t ht => ?_⟩
    · show (0 : Int) < if 3 < (i : Int) + 1 then 3 else (i : Int) + 1
      split <;> omega
    have L7 := L6.ju ht (.tup [.int (upsN ns b i % ((i : Int) + 1)), .int i, .int 0, .int (upsN ns b i % (if 3 < (i : Int) + 1 then 3 else (i : Int) + 1)), .int ((i : Int) / 2)])
    refine ⟨_, rfl, t, _, _, .int (upsPick (upsN ns b i) i (upsKind ns b)), rfl, rfl, SqT.of upd_same, ?_, p, _, _, rfl, rfl, L7.get List.mem_cons_self, ?_, ?_⟩
    · have hk5 : upsKind ns b = 0 ∨ upsKind ns b = 1 ∨ upsKind ns b = 2 ∨ upsKind ns b = 3 ∨ upsKind ns b = 4 := by omega
      rcases hk5 with e | e | e | e | e <;> rw [e] <;> rfl
    · simp
      exact szl (by omega)
    · refine ⟨_, _, rfl, ?_⟩
      have e : ((List.range i).map fun i => upsPick (upsN ns b i) i (upsKind ns b)) ++ [upsPick (upsN ns b i) i (upsKind ns b)] = (List.range (i + 1)).map fun i => upsPick (upsN ns b i) i (upsKind ns b) := by
        rw [List.range_succ, List.map_append]; rfl
      rw [map_int_snoc, e]
      exact L7.wr0 _
  · rintro σ H5 ⟨x8, x9, rfl, L5⟩
    refine ⟨_, rfl, k p H5 ?_⟩
    exact L5.sub (List.Sublist.cons₂ _ (List.nil_sublist _))
end Cc

namespace Cc
open PySem L2
/-! is_whole, is_between, check_ups -/
/-- any thing that is looked at -/
inductive Thg (H : Hp) : V → Prop
  | int (i : Int) : Thg H (.int i)
  | bl (b : Bool) : Thg H (.bl b)
  | non : Thg H .non
  | str (x : Str) : Thg H (.str x)
  | lst {a : Addr} {xs : List V} (h : H a = some (.lst xs)) : Thg H (.ref a)
  | tup {a : Addr} {xs : List V} (h : H a = some (.tup xs)) : Thg H (.ref a)
  | dic {a : Addr} {xs : List (Key × V)} (h : H a = some (.dK xs)) : Thg H (.ref a)
def isIntV : V → Bool
  | .int _ => true
  | _ => false
def betwV (lo hi : Int) : V → Bool
  | .int i => decide (lo ≤ i) && decide (i ≤ hi)
  | _ => false
def isBlV : V → Bool
  | .bl _ => true
  | _ => false
theorem Thg.ty {K : PySem.W.Frag} {H : Hp} {v : V} (h : Thg H v) : ∃ T : String, TyX K H v (.type T) ∧ kitB T "int" = some (isIntV v || isBlV v) ∧ kitB T "bool" = some (isBlV v) := by
  cases h with
  | int i => exact ⟨"int", .base (.int i), (show kitB "int" "int" = some true by decide +kernel), (show kitB "int" "bool" = some false by decide +kernel)⟩
  | bl b => exact ⟨"bool", .base (.bl b), (show kitB "bool" "int" = some true by decide +kernel), (show kitB "bool" "bool" = some true by decide +kernel)⟩
  | non  => exact ⟨"NoneType", .base .non, (show kitB "NoneType" "int" = some false by decide +kernel), (show kitB "NoneType" "bool" = some false by decide +kernel)⟩
  | str x => exact ⟨"str", .base (.str x), (show kitB "str" "int" = some false by decide +kernel), (show kitB "str" "bool" = some false by decide +kernel)⟩
  | lst h => exact ⟨"list", .base (.lst h), (show kitB "list" "int" = some false by decide +kernel), (show kitB "list" "bool" = some false by decide +kernel)⟩
  | tup h => exact ⟨"tuple", .base (.tup h), (show kitB "tuple" "int" = some false by decide +kernel), (show kitB "tuple" "bool" = some false by decide +kernel)⟩
  | dic h => exact ⟨"dict", .base (.dK h), (show kitB "dict" "int" = some false by decide +kernel), (show kitB "dict" "bool" = some false by decide +kernel)⟩
def sp_is_whole : Sp := fun vs H Q _ => ∃ v, vs = [v] ∧ Thg H v ∧ ∀ H', Same H H' → Q (.bl (isIntV v)) H'
def t_is_whole (K : PySem.W.Frag) : TS :=
  (tRet (tAndV (tCB (rIsi K) (tCons (tVar 0) (tCons (tC (.ty "int")) tNil))) (tNotV (tCB (rIsi K) (tCons (tVar 0) (tCons (tC (.ty "bool")) tNil))))))
theorem v_is_whole {K : PySem.W.Frag} {vs : List V} {H : Hp} {Q : VK} {E : XK} (h : sp_is_whole vs H Q E) : t_is_whole K (fin Q) (st0 1 vs) H := by
  obtain ⟨v, rfl, hv, k⟩ := h
  obtain ⟨T, h1, h2, h3⟩ := hv.ty (K := K)
  have k := k H (Same.refl H)
  refine ⟨_, rfl, v, .ty "int", _, _, _, rfl, .ty _, h1, kit_ty h2, _, rfl, ?_⟩
  refine ite2 (fun e => ?_) (fun e => ?_)
  · refine ⟨_, rfl, v, .ty "bool", _, _, _, rfl, .ty _, h1, kit_ty h3, _, rfl, ?_⟩
    cases hv <;> first | exact k | (simp [isIntV, isBlV] at e)
  · cases hv <;> first | exact k | (simp [isIntV, isBlV] at e)
def sp_is_between : Sp := fun vs H Q _ => ∃ v lo hi, vs = [v, .int lo, .int hi] ∧ Thg H v ∧ ∀ H', Same H H' → Q (.bl (betwV lo hi v)) H'
def t_is_between (K : PySem.W.Frag) : TS :=
  (tRet (tAndV (tCall sp_is_whole [] E0 (tCons (tVar 0) tNil)) (tChain qLe qLe (tVar 1) (tVar 0) (tVar 2))))
theorem v_is_between {K : PySem.W.Frag} {vs : List V} {H : Hp} {Q : VK} {E : XK} (h : sp_is_between vs H Q E) : t_is_between K (fin Q) (st0 3 vs) H := by
  obtain ⟨v, lo, hi, rfl, hv, k⟩ := h
  refine ⟨_, rfl, v, rfl, hv, fun H1 s1 => ⟨_, rfl, ?_⟩⟩
  have k := k H1 s1
  refine ite2 (fun e => ?_) (fun e => ?_)
  · cases v with
    | int i =>
      refine ⟨_, rfl, _, rfl, lo, i, rfl, rfl, _, rfl, ?_⟩
      refine ite2 (fun e => ?_) (fun e => ?_)
      · refine ⟨_, rfl, i, hi, rfl, rfl, ?_⟩
        have : betwV lo hi (.int i) = decide (i ≤ hi) := by simp [betwV] at e ⊢; omega
        rw [this] at k
        exact k
      · have : betwV lo hi (.int i) = false := by simp [betwV] at e ⊢; omega
        rw [this] at k
        exact k
    | _ => simp [isIntV] at e
  · cases v with
    | int i => simp [isIntV] at e
    | _ => exact k
/-- ups that are such -/
def sp_check_ups : Sp := fun vs H Q _ => ∃ a us, vs = [.ref a] ∧ H a = some (intsO us) ∧ us.length < 40 ∧ UpsOk us ∧ ∀ H', Same H H' → Q .non H'
def t_check_ups (K : PySem.W.Frag) : TS :=
  (tSeq (tIfS (tOr (tNot (tB (tCB (rIsi K) (tCons (tVar 0) (tCons (tC (.ty "list")) tNil))))) (tTest (tOp qGe (tCB (qLen K) (tCons (tVar 0) tNil)) (tC (.int 40)))))
    tNever
    tNext)
    (tIfS (tNot (tB (tCB (rAll K) (tCons (tLc (iEnum K (tCons (tVar 0) tNil)) (gTup K 2 (gCons (gName 1) (gCons (gName 2) gNil))) tYes (tCall sp_is_between [] E0 (tCons (tVar 2) (tCons (tC (.int 0)) (tCons (tVar 1) tNil)))) [1, 2]) tNil))))
    tNever
    tNext))
theorem v_check_ups {K : PySem.W.Frag} {vs : List V} {H : Hp} {Q : VK} {E : XK} (h : sp_check_ups vs H Q E) : t_check_ups K (fin Q) (st0 3 vs) H := by
  obtain ⟨a, us, rfl, ha, hl, hu, k⟩ := h
  refine ⟨_, rfl, .ref a, .ty "list", .type "list", _, true, rfl, .ty _, .base (.lst ha), kit_ty (by decide +kernel), _, rfl, ?_⟩
  refine iteF ?_
  refine ⟨_, rfl, a, _, rfl, .inl (SqL.of ha), _, _, rfl, rfl, _, rfl, ?_⟩
  have e : decide ((40 : Int) ≤ ((us.map V.int).length : Nat)) = false := by simp; omega
  rw [e]
  refine iteF ?_
  refine ⟨_, rfl, a, _, rfl, SqL.of ha, fun D hD => ?_⟩
  refine lc_enumY (xs := us.map V.int) (fun i H1 => Lo H H1 [(D, .lst ((List.replicate i true).map V.bl))]) ((Lo.nil H).al hD _) ?_ ?_ ?_ (gT2_mono _ _ _)
  · exact fun i H1 _ L1 => SqL.of (L1.same _ _ ha)
  · intro i x H1 T hx L1 hT
    obtain ⟨u, eu, rfl⟩ := mapV_get hx
    have L2 := L1.ju hT (.tup [.int i, .int u])
    refine ⟨T, _, rfl, SqT.of upd_same, rfl, _, _, rfl, _, _, rfl, rfl, rfl, ?_⟩
    refine ⟨_, rfl, _, rfl, _, _, _, rfl, .int u, fun H2 s2 => ?_⟩
    have L3 := L2.cs s2
    refine ⟨_, L3.get List.mem_cons_self, szl (by simp; have := lt_of_get eu; omega), ?_⟩
    obtain ⟨h0, h1⟩ := hu i u eu
    have e : betwV 0 (i : Nat) (.int u) = true := by simp [betwV]; omega
    rw [e, List.replicate_succ', List.map_append]
    exact L3.wr0 _
  · intro H1 L1
    refine ⟨D, _, rfl, SqL.of (L1.get List.mem_cons_self), ?_⟩
    have e : (List.replicate (us.map V.int).length true).all id = true := by simp
    rw [e]
    refine ⟨_, rfl, ?_⟩
    refine iteF ?_
    exact k H1 L1.sm
end Cc

namespace Cc
open PySem L2
/-! sorts of values: what is evaluated, told by sorts alone -/
abbrev Srt := Hp → V → Prop
def Mono (P : Srt) : Prop := ∀ ⦃H H' : Hp⦄ ⦃v : V⦄, P H v → Same H H' → P H' v
/-- H and the cells C -/
def plus (H : Hp) (C : List Cell) : Hp := fun a => match C.lookup a with
  | some o => some o
  | none => H a
theorem lookup_mem : ∀ {C : List Cell} {a : Addr} {o : HO}, C.lookup a = some o → (a, o) ∈ C
  | (b, u) :: C, a, o, h => by
    rw [List.lookup_cons] at h
    by_cases e : a = b
    · subst e
      simp at h
      subst h
      exact List.mem_cons_self
    · rw [show (a == b) = false by simpa using e] at h
      exact List.mem_cons_of_mem _ (lookup_mem h)
theorem lookup_of : ∀ {C : List Cell} {a : Addr} {o : HO}, (C.map (·.1)).Nodup → (a, o) ∈ C → C.lookup a = some o
  | (b, u) :: C, a, o, nd, h => by
    rw [List.map_cons, List.nodup_cons] at nd
    rw [List.lookup_cons]
    rcases List.mem_cons.mp h with e | h
    · cases e
      simp
    · have ne : ¬ a = b := fun e => nd.1 (e ▸ List.mem_map.mpr ⟨(a, o), h, rfl⟩)
      rw [show (a == b) = false by simpa using ne]
      exact lookup_of nd.2 h
theorem plus_le {H Hc : Hp} {C : List Cell} (s : Same H Hc) (h : ∀ a o, (a, o) ∈ C → Hc a = some o) : Same (plus H C) Hc := fun a o e => by
  unfold plus at e
  cases q : C.lookup a with
  | some u =>
    rw [q] at e
    cases e
    exact h a _ (lookup_mem q)
  | none =>
    rw [q] at e
    exact s a o e
theorem plus_same {H : Hp} {C : List Cell} (h : ∀ a o, (a, o) ∈ C → H a = none) : Same H (plus H C) := fun a o e => by
  unfold plus
  cases q : C.lookup a with
  | some u => rw [h a u (lookup_mem q)] at e; cases e
  | none => exact e
theorem plus_nil (H : Hp) : plus H [] = H := rfl
section
variable {H H1 H2 : Hp} {C C1 : List Cell}
theorem Lo.off (L : Lo H1 H2 C) (s : Same H H1) : ∀ a o, (a, o) ∈ C → H a = none := fun a o h => by
  cases e : H a with
  | none => rfl
  | some u =>
    have := L.new h
    rw [s _ _ e] at this
    cases this
theorem Lo.pSame (L : Lo H1 H2 C) (s : Same H H1) : Same H (plus H C) := plus_same (L.off s)
theorem Lo.pLe (L : Lo H1 H2 C) (s : Same H H1) : Same (plus H C) H2 := plus_le (s.trans L.sm) fun a o h => L.get h
theorem Lo.pUp (L : Lo H1 H2 C) (s : Same H H1) (h : ∀ c ∈ C1, c ∈ C) : Same (plus H C1) (plus H C) := plus_le (L.pSame s) fun a o hm => by
  unfold plus
  rw [lookup_of L.nd (h _ hm)]
end
/-- te gives a value of the sort P, at any heap that holds H -/
def Vt (te : TE) (σ : L2.St) (H : Hp) (P : Srt) : Prop := ∀ H1, Same H H1 → Vr te σ H1 (fun v H2 => ∃ C, Lo H1 H2 C ∧ P (plus H C) v)
def At (ta : TA) (σ : L2.St) (H : Hp) (P : Srt) (n : Nat) : Prop := ∀ H1, Same H H1 → ∀ QA : List V → Hp → Prop, (∀ vs H2 C, Lo H1 H2 C → vs.length = n → (∀ v ∈ vs, P (plus H C) v) → QA vs H2) → ta σ H1 QA
/-- lists and tuples of a sort -/
def IsS (P : Srt) (n : Nat) : Srt := fun H v => ∃ l vs, v = .ref l ∧ H l = some (.lst vs) ∧ vs.length ≤ n ∧ ∀ w ∈ vs, P H w
def IsTp (P : Srt) (n : Nat) : Srt := fun H v => ∃ l vs, v = .ref l ∧ H l = some (.tup vs) ∧ vs.length = n ∧ ∀ w ∈ vs, P H w
def IsInt : Srt := fun _ v => ∃ i, v = .int i
def IsBl : Srt := fun _ v => ∃ b, v = .bl b
def IsP2 (P R : Srt) : Srt := fun H v => ∃ t x y, v = .ref t ∧ H t = some (.tup [x, y]) ∧ P H x ∧ R H y
def IsP3 (P R S : Srt) : Srt := fun H v => ∃ t x y z, v = .ref t ∧ H t = some (.tup [x, y, z]) ∧ P H x ∧ R H y ∧ S H z
theorem mono_int : Mono IsInt := fun _ _ _ h _ => h
theorem mono_bl : Mono IsBl := fun _ _ _ h _ => h
theorem mono_s {P : Srt} {n : Nat} (m : Mono P) : Mono (IsS P n) := fun _ _ _ ⟨l, vs, e, h, hl, hp⟩ s => ⟨l, vs, e, s _ _ h, hl, fun w hw => m (hp w hw) s⟩
theorem mono_tp {P : Srt} {n : Nat} (m : Mono P) : Mono (IsTp P n) := fun _ _ _ ⟨l, vs, e, h, hl, hp⟩ s => ⟨l, vs, e, s _ _ h, hl, fun w hw => m (hp w hw) s⟩
theorem mono_p2 {P R : Srt} (m : Mono P) (m' : Mono R) : Mono (IsP2 P R) := fun _ _ _ ⟨t, x, y, e, h, hp, hr⟩ s => ⟨t, x, y, e, s _ _ h, m hp s, m' hr s⟩
theorem IsS.up {P R : Srt} {n m : Nat} {H : Hp} {v : V} (h : IsS P n H v) (hn : n ≤ m) (hP : ∀ w, P H w → R H w) : IsS R m H v :=
  let ⟨l, vs, e, h1, h2, h3⟩ := h
  ⟨l, vs, e, h1, by omega, fun w hw => hP w (h3 w hw)⟩
theorem Vt.up {te : TE} {σ : L2.St} {H : Hp} {P R : Srt} (h : Vt te σ H P) (hp : ∀ H v, P H v → R H v) : Vt te σ H R := fun H1 s Q q => h H1 s Q fun v H2 ⟨C, L, p⟩ => q v H2 ⟨C, L, hp _ _ p⟩
/-- the plain use -/
theorem Vt.r {te : TE} {σ : L2.St} {H H1 : Hp} {P : Srt} (mo : Mono P) (h : Vt te σ H P) (s : Same H H1) : Vr te σ H1 (fun v H2 => Same H1 H2 ∧ P H2 v) := fun Q q => h H1 s Q fun v H2 ⟨C, L, p⟩ => q v H2 ⟨L.sm, mo p (L.pLe s)⟩
/-- beside own cells -/
theorem Vt.lo {te : TE} {σ : L2.St} {H H1 : Hp} {P : Srt} {Lc : List Cell} (mo : Mono P) (h : Vt te σ H P) (L0 : Lo H H1 Lc) : Vr te σ H1 (fun v H2 => ∃ Hb, Same H Hb ∧ Lo Hb H2 Lc ∧ P Hb v) := fun Q q => h H1 L0.sm Q fun v H2 ⟨C, L, p⟩ => by
  obtain ⟨Hb, s1, L1, hc⟩ := (L0.ca L).frz
  exact q v H2 ⟨Hb, s1, L1, mo p (plus_le s1 fun a o h => hc h)⟩
section
variable {σ : L2.St} {H : Hp} {K : PySem.W.Frag} {P R S : Srt} {ta tb tc te : TE} {n m : Nat}
theorem vt_var {i : Nat} {v : V} (e : σ[i]? = some (some v)) (h : P H v) : Vt (tVar i) σ H P := fun H1 s Q q => ⟨v, e, q _ _ ⟨[], Lo.nil _, h⟩⟩
theorem vt_c {v : V} (h : P H v) : Vt (tC v) σ H P := fun H1 s Q q => q _ _ ⟨[], Lo.nil _, h⟩
theorem vt_int {i : Int} : Vt (tC (.int i)) σ H IsInt := vt_c ⟨i, rfl⟩
theorem vt_bl {b : Bool} : Vt (tC (.bl b)) σ H IsBl := vt_c ⟨b, rfl⟩
theorem vt_neg (h : Vt te σ H IsInt) : Vt (tUn qNeg te) σ H IsInt := fun H1 s Q q => h H1 s _ fun v H2 ⟨C, L, i, e⟩ => ⟨i, e, q _ _ ⟨C, L, _, rfl⟩⟩
theorem vt_add (h : Vt ta σ H IsInt) (h' : Vt tb σ H IsInt) : Vt (tOp qAdd ta tb) σ H IsInt := fun H1 s Q q => h H1 s _ fun v H2 ⟨C, L, i, e⟩ => h' H2 (s.trans L.sm) _ fun w H3 ⟨C', L', j, e'⟩ => ⟨i, j, e, e', q _ _ ⟨_, L.ca L', _, rfl⟩⟩
theorem vt_sub (h : Vt ta σ H IsInt) (h' : Vt tb σ H IsInt) : Vt (tOp qSub ta tb) σ H IsInt := fun H1 s Q q => h H1 s _ fun v H2 ⟨C, L, i, e⟩ => h' H2 (s.trans L.sm) _ fun w H3 ⟨C', L', j, e'⟩ => ⟨i, j, e, e', q _ _ ⟨_, L.ca L', _, rfl⟩⟩
theorem at_nil : At tNil σ H P 0 := fun H1 s QA q => q [] H1 [] (Lo.nil _) rfl (fun _ h => nomatch h)
theorem at_cons {tr : TA} (mo : Mono P) (h : Vt te σ H P) (h' : At tr σ H P n) : At (tCons te tr) σ H P (n + 1) := fun H1 s QA q => h H1 s _ fun v H2 ⟨C, L, pv⟩ => h' H2 (s.trans L.sm) _ fun vs H3 C' L' hl hp =>
  q (v :: vs) H3 (C' ++ C) (L.ca L') (by simp [hl]) fun w hw => by
    rcases List.mem_cons.mp hw with rfl | hw
    · exact mo pv ((L.ca L').pUp s fun c hc => List.mem_append_right _ hc)
    · exact mo (hp w hw) ((L.ca L').pUp s fun c hc => List.mem_append_left _ hc)
theorem vt_lst {ta : TA} (mo : Mono P) (hn : n ≤ 100000) (h : At ta σ H P n) : Vt (tLst ta) σ H (IsS P n) := fun H1 s Q q => h H1 s _ fun vs H2 C L hl hp =>
  ⟨by rw [hl]; exact sz hn, fun l hl' => q _ _ ⟨_, L.al hl' (.lst vs), l, vs, rfl, by unfold plus; rw [List.lookup_cons_self], by omega, fun w hw => mo (hp w hw) ((L.al hl' (.lst vs)).pUp s fun c hc => List.mem_cons_of_mem _ hc)⟩⟩
theorem vt_tup {ta : TA} (mo : Mono P) (hn : n ≤ 100000) (h : At ta σ H P n) : Vt (tTup ta) σ H (IsTp P n) := fun H1 s Q q => h H1 s _ fun vs H2 C L hl hp =>
  ⟨by rw [hl]; exact sz hn, fun l hl' => q _ _ ⟨_, L.al hl' (.tup vs), l, vs, rfl, by unfold plus; rw [List.lookup_cons_self], hl, fun w hw => mo (hp w hw) ((L.al hl' (.tup vs)).pUp s fun c hc => List.mem_cons_of_mem _ hc)⟩⟩
theorem vt_p2 (mo : Mono P) (mo' : Mono R) (h : Vt ta σ H P) (h' : Vt tb σ H R) : Vt (tTup (tCons ta (tCons tb tNil))) σ H (IsP2 P R) := fun H1 s Q q => h H1 s _ fun v H2 ⟨C, L, pv⟩ => h' H2 (s.trans L.sm) _ fun w H3 ⟨C', L', pw⟩ =>
  ⟨by show 2 ≤ sizeLine; decide, fun t ht => q _ _ ⟨_, (L.ca L').al ht (.tup [v, w]), t, v, w, rfl, by unfold plus; rw [List.lookup_cons_self], mo pv (((L.ca L').al ht (.tup [v, w])).pUp s fun c hc => List.mem_cons_of_mem _ (List.mem_append_right _ hc)), mo' pw (((L.ca L').al ht (.tup [v, w])).pUp s fun c hc => List.mem_cons_of_mem _ (List.mem_append_left _ hc))⟩⟩
/-- a new list made of such ones -/
theorem isS_new {H1 H3 : Hp} {C : List Cell} (mo : Mono P) {c : Addr} {vs : List V} (L : Lo H1 H3 C) (s : Same H H1) (hc : H3 c = none) (hn : vs.length ≤ n) (h : ∀ v ∈ vs, P (plus H C) v) : ∃ C, Lo H1 (upd H3 c (.lst vs)) C ∧ IsS P n (plus H C) (.ref c) :=
  ⟨_, L.al hc (.lst vs), c, vs, rfl, by unfold plus; rw [List.lookup_cons_self], hn, fun w hw => mo (h w hw) ((L.al hc (.lst vs)).pUp s fun c hc => List.mem_cons_of_mem _ hc)⟩
theorem vt_cat (mo : Mono P) (hn : n + m ≤ 100000) (h : Vt ta σ H (IsS P n)) (h' : Vt tb σ H (IsS P m)) : Vt (tOp rCat ta tb) σ H (IsS P (n + m)) := fun H1 s Q q => h H1 s _ fun v H2 ⟨C, L, l, vs, e, g, gl, gp⟩ => h' H2 (s.trans L.sm) _ fun w H3 ⟨C', L', l', vs', e', g', gl', gp'⟩ => by
  have L2 := L.ca L'
  have u1 := L2.pUp s fun c hc => List.mem_append_right C' hc
  have u2 := L2.pUp s fun c hc => List.mem_append_left C hc
  refine ⟨l, l', vs, vs', e, e', L2.pLe s _ _ (u1 _ _ g), L2.pLe s _ _ (u2 _ _ g'), sz (by omega), fun c hc => q _ _ (isS_new mo L2 s hc (by simp; omega) fun w hw => ?_)⟩
  rcases List.mem_append.mp hw with hw | hw
  · exact mo (gp w hw) u1
  · exact mo (gp' w hw) u2
theorem vt_rev (mo : Mono P) (h : Vt te σ H (IsS P n)) : Vt (tRevL K te) σ H (IsS P n) := fun H1 s Q q => h H1 s _ fun v H2 ⟨C, L, l, vs, e, g, gl, gp⟩ =>
  ⟨l, vs, e, SqL.of (L.pLe s _ _ g), fun c hc => q _ _ (isS_new mo L s hc (by simpa using gl) fun w hw => gp w (List.mem_reverse.mp hw))⟩
theorem cut_mem {xs : List V} {lo hi : Option Int} {x : V} (h : x ∈ cutV xs lo hi) : x ∈ xs := by
  unfold cutV at h
  exact List.mem_of_mem_drop (List.mem_of_mem_take h)
theorem cut_len {xs : List V} {lo hi : Option Int} : (cutV xs lo hi).length ≤ xs.length := by
  unfold cutV
  rw [List.length_take, List.length_drop]
  omega
/-- a part of a slice -/
def Vp (to : TO) (σ : L2.St) (H : Hp) : Prop := ∀ H1, Same H H1 → ∀ Q : Option Int → Hp → Prop, (∀ o H2 C, Lo H1 H2 C → Q o H2) → to σ H1 Q
theorem vp_no : Vp tNoPart σ H := fun H1 s Q q => q _ _ [] (Lo.nil _)
theorem vp_some (h : Vt te σ H IsInt) : Vp (tPart te) σ H := fun H1 s Q q => h H1 s _ fun v H2 ⟨C, L, i, e⟩ => ⟨i, e, q _ _ C L⟩
theorem vt_sl {tl th : TO} (mo : Mono P) (h : Vt te σ H (IsS P n)) (hl : Vp tl σ H) (hh : Vp th σ H) : Vt (L2.tSl (rSlL K) te tl th) σ H (IsS P n) := fun H1 s Q q => h H1 s _ fun v H2 ⟨C, L, l, vs, e, g, gl, gp⟩ => hl H2 (s.trans L.sm) _ fun lo H3 C' L' => hh H3 (s.trans (L.sm.trans L'.sm)) _ fun hi H4 C'' L'' => by
  have L2 := (L.ca L').ca L''
  have u1 := L2.pUp s fun c hc => List.mem_append_right C'' (List.mem_append_right C' hc)
  exact ⟨l, vs, e, SqL.of (L2.pLe s _ _ (u1 _ _ g)), fun c hc => q _ _ (isS_new mo L2 s hc (Nat.le_trans cut_len gl) fun w hw => mo (gp w (cut_mem hw)) u1)⟩
/-- list(x) -/
theorem vt_list (mo : Mono P) (h : Vt te σ H (IsS P n)) : Vt (tCB (qList K) (tCons te tNil)) σ H (IsS P n) := fun H1 s Q q => h H1 s _ fun v H2 ⟨C, L, l, vs, e, g, gl, gp⟩ =>
  ⟨l, vs, by rw [e], .inl (SqL.of (L.pLe s _ _ g)), fun c hc => q _ _ (isS_new mo L s hc gl gp)⟩
/-- if .. else .. of one sort -/
theorem vt_if {tt : TT} (h : ∀ H1, Same H H1 → ∀ Q : Bool → Hp → Prop, (∀ b H2 C, Lo H1 H2 C → Q b H2) → tt σ H1 Q) (ha : Vt ta σ H P) (hb : Vt tb σ H P) (mo : Mono P) : Vt (tIf tt ta tb) σ H P := fun H1 s Q q => h H1 s _ fun b H2 C L => by
  refine ite2 (fun _ => ?_) (fun _ => ?_)
  · exact ha H2 (s.trans L.sm) _ fun v H3 ⟨C', L', p⟩ => q _ _ ⟨_, L.ca L', mo p ((L.ca L').pUp s fun c hc => List.mem_append_left _ hc)⟩
  · exact hb H2 (s.trans L.sm) _ fun v H3 ⟨C', L', p⟩ => q _ _ ⟨_, L.ca L', mo p ((L.ca L').pUp s fun c hc => List.mem_append_left _ hc)⟩
end
/-- lists of ints -/
theorem isS_int {n : Nat} {H : Hp} {v : V} (h : IsS IsInt n H v) : ∃ p r, v = .ref p ∧ H p = some (intsO r) ∧ r.length ≤ n := by
  obtain ⟨l, vs, e, g, gl, gp⟩ := h
  have : ∀ vs : List V, (∀ w ∈ vs, IsInt H w) → ∃ r : List Int, vs = r.map V.int := fun vs => by
    induction vs with
    | nil => exact fun _ => ⟨[], rfl⟩
    | cons v vs ih =>
      intro h
      obtain ⟨i, rfl⟩ := h v List.mem_cons_self
      obtain ⟨r, rfl⟩ := ih fun w hw => h w (List.mem_cons_of_mem _ hw)
      exact ⟨i :: r, rfl⟩
  obtain ⟨r, rfl⟩ := this vs gp
  exact ⟨l, r, e, g, by simpa using gl⟩
theorem is_ints {n : Nat} {H : Hp} {p : Addr} {r : List Int} (h : H p = some (intsO r)) (hl : r.length ≤ n) : IsS IsInt n H (.ref p) :=
  ⟨p, _, rfl, h, by simpa using hl, fun w hw => by obtain ⟨i, _, rfl⟩ := List.mem_map.mp hw; exact ⟨i, rfl⟩⟩
/-- lists of lists of ints -/
theorem isS_rows {n m : Nat} {H : Hp} {v : V} (h : IsS (IsS IsInt m) n H v) : ∃ p ps rows, v = .ref p ∧ Rows H p ps rows ∧ rows.length ≤ n ∧ ∀ r ∈ rows, r.length ≤ m := by
  obtain ⟨l, vs, e, g, gl, gp⟩ := h
  have : ∀ vs : List V, (∀ w ∈ vs, IsS IsInt m H w) → ∃ (ps : List Addr) (rows : List (List Int)), vs = ps.map V.ref ∧ ps.length = rows.length ∧ (∀ {i : Nat} {q : Addr} {r : List Int}, ps[i]? = some q → rows[i]? = some r → H q = some (intsO r)) ∧ ∀ r ∈ rows, r.length ≤ m := fun vs => by
    induction vs with
    | nil => exact fun _ => ⟨[], [], rfl, rfl, fun h => by simp at h, fun r hr => nomatch hr⟩
    | cons v vs ih =>
      intro h
      obtain ⟨p, r, rfl, hp, hr⟩ := isS_int (h v List.mem_cons_self)
      obtain ⟨ps, rows, rfl, h1, h2, h3⟩ := ih fun w hw => h w (List.mem_cons_of_mem _ hw)
      refine ⟨p :: ps, r :: rows, rfl, by simp [h1], fun {i q s} e1 e2 => ?_, fun s hs => ?_⟩
      · cases i with
        | zero => cases e1; cases e2; exact hp
        | succ i => exact h2 (i := i) e1 e2
      · rcases List.mem_cons.mp hs with rfl | hs
        · exact hr
        · exact h3 s hs
  obtain ⟨ps, rows, rfl, h1, h2, h3⟩ := this vs gp
  rw [List.length_map] at gl
  exact ⟨l, ps, rows, e, ⟨g, h1, h2⟩, by omega, h3⟩
theorem is_rows {n m : Nat} {H : Hp} {p : Addr} {ps : List Addr} {rows : List (List Int)} (h : Rows H p ps rows) (hl : rows.length ≤ n) (hr : ∀ r ∈ rows, r.length ≤ m) : IsS (IsS IsInt m) n H (.ref p) :=
  ⟨p, _, rfl, h.top, by rw [List.length_map, h.len]; exact hl, fun w hw => by
    obtain ⟨q, hq, rfl⟩ := List.mem_map.mp hw
    obtain ⟨i, hi, rfl⟩ := List.mem_iff_getElem.mp hq
    have gr := get_some (xs := rows) (i := i) (by have := h.len; omega)
    exact is_ints (h.row (get_some hi) gr) (hr _ (List.mem_of_getElem? gr))⟩
end Cc

namespace Cc
open PySem L2
/-! _law_called -/
def lrowM (us : List Int) (p : Nat) : List Int := (us.mapIdx fun i u => if u = (p : Int) then some ((i : Int) + 1) else none).filterMap id
def lcalledM (us : List Int) : List (List Int) := (List.range (us.length + 1)).map (lrowM us)
theorem lcalledM_len (us : List Int) : (lcalledM us).length = us.length + 1 := by simp [lcalledM]
def sp__law_called : Sp := fun vs H Q _ => ∃ (a : Addr) (us : List Int), vs = [.ref a] ∧ H a = some (intsO us) ∧ us.length ≤ 1000 ∧
  ∀ p ps H', Lo H H' (llC p ps (lcalledM us)) → ps.length = us.length + 1 → Q (.ref p) H'
def t__law_called (K : PySem.W.Frag) : TS :=
  (tRet (tLc (iRng1 (tCons (tOp qAdd (tCB (qLen K) (tCons (tVar 0) tNil)) (tC (.int 1))) tNil)) (gName 1) tYes (tLc (iEnum K (tCons (tVar 0) tNil)) (gTup K 2 (gCons (gName 2) (gCons (gName 3) gNil))) (tTest (tOp rEq (tVar 3) (tVar 1))) (tOp qAdd (tVar 2) (tC (.int 1))) [2, 3]) [1]))
theorem filterMap_opt (f : Int → V) : ∀ l : List (Option Int), (l.map (Option.map f)).filterMap id = (l.filterMap id).map f
  | [] => rfl
  | none :: l => by simpa using filterMap_opt f l
  | some x :: l => by simpa using filterMap_opt f l
theorem v__law_called {K : PySem.W.Frag} {vs : List V} {H : Hp} {Q : VK} {E : XK} (h : sp__law_called vs H Q E) : t__law_called K (fin Q) (st0 4 vs) H := by
  obtain ⟨a, us, rfl, ha, hl, k⟩ := h
  have e1 : (((us.map V.int).length : Int) + 1).toNat = us.length + 1 := by simp
  refine ⟨_, rfl, a, _, rfl, .inl (SqL.of ha), _, _, rfl, rfl, _, rfl, by omega, by simp; omega, fun D hD => ?_⟩
  refine lcY (fun i y C => ∃ q r, (lcalledM us)[i]? = some r ∧ y = .ref q ∧ C = [(q, intsO r)]) wk_range (by simp; omega) hD ?_ ?_ (gN_mono _)
  · rintro i x C H1 s1 ⟨rfl, rfl⟩ _ hi Q' kq
    rw [e1] at hi
    refine ⟨rfl, _, rfl, a, _, rfl, SqL.of (s1 _ _ ha), fun D2 hD2 => ?_⟩
    refine lcT ((us.mapIdx fun j u => if u = (i : Int) then some ((j : Int) + 1) else none).map (Option.map V.int)) (by simp) (wk_enum (SqL.of (s1 _ _ ha))) (by simp; omega) hD2 ?_ ?_ (gT2_mono _ _ _) ?_
    · rintro j x C z H2 s2 ⟨T, y, rfl, hy, rfl⟩ hC hz Nx kn
      obtain ⟨u, hu, rfl⟩ := mapV_get hy
      rw [List.getElem?_map, List.getElem?_mapIdx, hu] at hz
      have hz : Option.map V.int (if u = (i : Int) then some ((j : Int) + 1) else none) = z := Option.some.inj hz
      refine ⟨T, _, rfl, SqT.of (hC List.mem_cons_self), rfl, _, _, rfl, _, _, rfl, rfl, rfl, ?_⟩
      refine ⟨_, rfl, _, rfl, rfl, _, rfl, ?_⟩
      have e0 : ((0 : Int) + (i : Int)) = (i : Int) := by omega
      by_cases hui : u = (i : Int)
      · rw [if_pos hui] at hz
        subst hz
        rw [e0, hui, decide_eq_true rfl]
        refine iteT ?_
        exact ⟨_, rfl, _, _, rfl, rfl, kn _ (Same.refl _)⟩
      · rw [if_neg hui] at hz
        subst hz
        rw [e0, decide_eq_false (fun e => hui (V.int.inj e))]
        refine iteF ?_
        exact kn _ (Same.refl _)
    · intro H2 L2
      refine kq _ _ _ L2 ⟨D2, lrowM us i, ?_, rfl, ?_⟩
      · unfold lcalledM
        rw [List.getElem?_map, List.getElem?_range hi]
        rfl
      · rw [filterMap_opt]
        rfl
    · rintro σ H Q Q' f ⟨v, e1, w, e2, e3, b, e4, q⟩
      exact ⟨v, e1, w, e2, e3, b, e4, f _ _ q⟩
  · intro ys Cs H1 L1 h1 h2 h3
    rw [e1] at h1 h2
    obtain ⟨ps, g1, g2, g3⟩ := rows_of_cells (rows := lcalledM us) (by rw [lcalledM_len]; exact h1) (by rw [lcalledM_len]; exact h2) h3
    subst g2
    rw [g3] at L1
    exact k D ps H1 L1 (by rw [g1, lcalledM_len])
end Cc

namespace Cc
open PySem L2
/-! best_orders -/
def turnM (needs row : List Int) : List (Int × Int) := sortP (row.map fun one => (-(needs.getD one.toNat 0), one))
def needL (turn : List (Int × Int)) : List Int := 0 :: turn.mapIdx fun i p => (i : Int) + 1 - p.1
def bestStep (rn : List (List Int) × List Int) (p : Nat) : List (List Int) × List Int :=
  (rn.1.set p ((turnM rn.2 (rn.1.getD p [])).map (·.2)), rn.2.set p (maxL (needL (turnM rn.2 (rn.1.getD p [])))))
def bestGo (us : List Int) : Nat → List (List Int) × List Int
  | 0 => (calledM us, List.replicate (us.length + 1) 0)
  | i + 1 => bestStep (bestGo us i) (us.length - i)
def bestM (us : List Int) : List (List Int) × List Int := bestGo us (us.length + 1)
theorem bestGo_len (us : List Int) : ∀ i, (bestGo us i).1.length = us.length + 1 ∧ (bestGo us i).2.length = us.length + 1
  | 0 => ⟨calledM_len us, by simp [bestGo]⟩
  | i + 1 => by
    have h := bestGo_len us i
    simp only [bestGo, bestStep, List.length_set]
    exact h
/-- the rows' items are people -/
def RowsIn (n : Nat) (rs : List (List Int)) : Prop := ∀ r ∈ rs, ∀ x ∈ r, 0 ≤ x ∧ x < n
theorem calGo_in : ∀ (us : List Int) (i : Nat) (rs : List (List Int)) (n : Nat), i + us.length < n → RowsIn n rs → RowsIn n (calGo i us rs)
  | [], _, rs, n, _, h => h
  | u :: us, i, rs, n, hi, h => by
    refine calGo_in us (i + 1) _ n (by simp at hi; omega) (fun r hr x hx => ?_)
    unfold calStep at hr
    rcases List.mem_or_eq_of_mem_set hr with hr | hr
    · exact h r hr x hx
    · subst hr
      rcases List.mem_append.mp hx with hx | hx
      · rw [List.getD_eq_getElem?_getD] at hx
        cases e : rs[u.toNat]? with
        | none => rw [e] at hx; cases hx
        | some y => rw [e] at hx; exact h y (List.mem_of_getElem? e) x hx
      · simp at hx hi; subst hx; omega
theorem calledM_in (us : List Int) : RowsIn (us.length + 1) (calledM us) := calGo_in us 0 _ _ (by omega) (by
  intro r hr x hx
  rw [List.mem_replicate] at hr
  rw [hr.2] at hx
  cases hx)
theorem calledM_row (us : List Int) : ∀ r ∈ calledM us, r.length ≤ us.length := fun r hr => by
  have := calGo_row us 0 (List.replicate (us.length + 1) []) 0 (by simp) r hr
  omega
theorem turnM_perm (needs row : List Int) : ((turnM needs row).map (·.2)).Perm row := by
  have := (sortP_perm (row.map fun one => (-(needs.getD one.toNat 0), one))).map (·.2)
  rw [List.map_map] at this
  have e : ((fun x : Int × Int => x.2) ∘ fun one : Int => (-(needs.getD one.toNat 0), one)) = id := rfl
  rw [e, List.map_id] at this
  exact this
theorem getD_mem {rs : List (List Int)} {p : Nat} {P : List Int → Prop} (h : ∀ r ∈ rs, P r) (h0 : P []) : P (rs.getD p []) := by
  rw [List.getD_eq_getElem?_getD]
  cases e : rs[p]? with
  | none => exact h0
  | some x => exact h x (List.mem_of_getElem? e)
theorem bestGo_rows (us : List Int) : ∀ i, RowsIn (us.length + 1) (bestGo us i).1 ∧ ∀ r ∈ (bestGo us i).1, r.length ≤ us.length
  | 0 => ⟨calledM_in us, calledM_row us⟩
  | i + 1 => by
    obtain ⟨h1, h2⟩ := bestGo_rows us i
    refine ⟨fun r hr => ?_, fun r hr => ?_⟩
    · rcases List.mem_or_eq_of_mem_set hr with hr | hr
      · exact h1 r hr
      · subst hr
        intro x hx
        exact getD_mem (P := fun r => ∀ x ∈ r, 0 ≤ x ∧ x < ((us.length + 1 : Nat) : Int)) h1 (by simp) x ((turnM_perm _ _).mem_iff.mp hx)
    · rcases List.mem_or_eq_of_mem_set hr with hr | hr
      · exact h2 r hr
      · subst hr
        rw [(turnM_perm _ _).length_eq]
        exact getD_mem h2 (by simp)
def t_best_orders (K : PySem.W.Frag) : TS :=
  (tSeq (tAsg (tTup (tCons (tCall sp_called_by [] E0 (tCons (tVar 0) tNil)) (tCons (tOp rRep (tLst (tCons (tC (.int 0)) tNil)) (tOp qAdd (tCB (qLen K) (tCons (tVar 0) tNil)) (tC (.int 1)))) tNil))) (gTup K 2 (gCons (gName 1) (gCons (gName 2) gNil))))
    (tSeq (tFor (iRng1 (tCons (tCB (qLen K) (tCons (tVar 1) tNil)) tNil)) (gName 3)
    (tSeq (tAsg (tOp qSub (tOp qSub (tCB (qLen K) (tCons (tVar 1) tNil)) (tC (.int 1))) (tVar 3)) (gName 4))
      (tSeq (tAsg (tCB (rSortedPO K) (tCons (tLc (iList K (tOp (rIxL K) (tVar 1) (tVar 4))) (gName 5) tYes (tTup (tCons (tUn qNeg (tOp (rIxL K) (tVar 2) (tVar 5))) (tCons (tVar 5) tNil))) [5]) tNil)) (gName 6))
      (tSeq (tAsg (tLc (iList K (tVar 6)) (gTup K 2 (gCons (gName 7) (gCons (gName 5) gNil))) tYes (tVar 5) [7, 5]) (gSub (tVar 1) (tVar 4) rSetL))
      (tAsg (tCB (rMax K) (tCons (tOp rCat (tLst (tCons (tC (.int 0)) tNil)) (tLc (iEnum K (tCons (tVar 6) tNil)) (gTup K 2 (gCons (gName 8) (gCons (gTup K 2 (gCons (gName 7) (gCons (gName 5) gNil))) gNil))) tYes (tOp qSub (tOp qAdd (tVar 8) (tC (.int 1))) (tVar 7)) [8, 7, 5])) tNil)) (gSub (tVar 2) (tVar 4) rSetL))))))
    (tRet (tTup (tCons (tVar 1) (tCons (tVar 2) tNil))))))
def sp_best_orders : Sp := fun vs H Q _ => ∃ (a : Addr) (us : List Int), vs = [.ref a] ∧ H a = some (intsO us) ∧ us.length ≤ 1000 ∧ UpsOk us ∧
  ∀ t p ps q H', Lo H H' ((t, .tup [.ref p, .ref q]) :: (llC p ps (bestM us).1 ++ [(q, intsO (bestM us).2)])) → ps.length = us.length + 1 → Q (.ref t) H'
theorem v_best_orders {K : PySem.W.Frag} {vs : List V} {H : Hp} {Q : VK} {E : XK} (h : sp_best_orders vs H Q E) : t_best_orders K (fin Q) (st0 9 vs) H := by
  obtain ⟨a, us, rfl, ha, hl, hu, k⟩ := h
  refine ⟨_, rfl, a, us, rfl, ha, hl, hu, fun p ps H1 L1 hps => ?_⟩
  refine ⟨by show 1 ≤ sizeLine; decide, fun z hz => ?_⟩
  have L2 := L1.al hz (.lst [.int 0])
  refine ⟨_, rfl, a, _, rfl, .inl (SqL.of (L2.same _ _ ha)), _, _, rfl, rfl, z, _, _, rfl, rfl, L2.get List.mem_cons_self, by omega, by simp; omega, by simp; exact sz (by omega), fun q hq => ?_⟩
  have L3 := (L2.al hq (intsO (List.replicate (us.length + 1) 0))).sub (List.Sublist.cons₂ _ (List.sublist_cons_self _ _))
  have e1 : (List.replicate (((us.map V.int).length : Int) + 1).toNat [V.int 0]).flatten = (List.replicate (us.length + 1) 0).map V.int := by
    rw [show (((us.map V.int).length : Int) + 1).toNat = us.length + 1 by simp]
    simp
  rw [e1]
  refine ⟨by show 2 ≤ sizeLine; decide, fun t0 ht0 => ?_⟩
  have L4 := L3.ju ht0 (.tup [.ref p, .ref q])
  refine ⟨t0, _, rfl, SqT.of upd_same, rfl, _, _, rfl, _, _, rfl, rfl, ?_⟩
  have hp4 := L4.get (List.mem_cons_of_mem _ List.mem_cons_self)
  refine ⟨_, rfl, p, _, rfl, .inl (SqL.of hp4), _, rfl, by omega, by simp; omega, ?_⟩
  have e2 : (((ps.map V.ref).length : Nat) : Int).toNat = us.length + 1 := by simp [hps]
  refine for_range (fun i σ H5 => ∃ ps x3 x4 x6, σ = [some (.ref a), some (.ref p), some (.ref q), x3, x4, none, x6, none, none] ∧ ps.length = us.length + 1 ∧ Lo H H5 (llC p ps (bestGo us i).1 ++ [(q, intsO (bestGo us i).2)])) ?_ ?_ ?_
  · exact ⟨ps, none, none, none, rfl, hps, L4.perm (List.perm_append_comm (l₁ := [_]) (l₂ := llC p ps (calledM us)))⟩
  · rintro i σ H5 hi ⟨ps, x3, x4, x6, rfl, hps, L5⟩
    rw [e2] at hi
    obtain ⟨g1, g2⟩ := bestGo_len us i
    obtain ⟨g3, g4⟩ := bestGo_rows us i
    rw [show bestGo us (i + 1) = bestStep (bestGo us i) (us.length - i) from rfl]
    generalize bestGo us i = rn at L5 g1 g2 g3 g4 ⊢
    obtain ⟨rows, needs⟩ := rn
    dsimp only at L5 g1 g2 g3 g4
    have hp5 := L5.get (List.mem_append_left _ List.mem_cons_self)
    have hq5 := L5.get (List.mem_append_right _ List.mem_cons_self)
    have e3 : (((ps.map V.ref).length : Nat) : Int) - 1 - (0 + (i : Int)) = ((us.length - i : Nat) : Int) := by simp; omega
    generalize hj : us.length - i = j at e3 ⊢
    refine q_set (v := .int (j : Nat)) (fun Q' q' => ⟨_, rfl, p, _, rfl, .inl (SqL.of hp5), _, _, rfl, rfl, _, rfl, _, _, rfl, rfl, Vi e3 q'⟩) ?_
    have hj2 : j < us.length + 1 := by omega
    have hpj := get_some (xs := ps) (i := j) (by omega)
    have hrj := get_some (xs := rows) (i := j) (by omega)
    generalize ps[j]'(by omega) = pj at hpj
    generalize rows[j]'(by omega) = row at hrj
    have hrow := L5.get (List.mem_append_left _ (List.mem_cons_of_mem _ (rowsC_get hpj hrj)))
    have gj : rows.getD j [] = row := by simp [hrj]
    have rin : ∀ x ∈ row, 0 ≤ x ∧ x < ((us.length + 1 : Nat) : Int) := g3 row (List.mem_of_getElem? hrj)
    have rlen : row.length ≤ us.length := g4 row (List.mem_of_getElem? hrj)
    -- turn = sorted([(-needs[one], one) for one in rows[person]])
    refine q_setR (R := fun v H' => ∃ z zs, v = .ref z ∧ Lo H H' ((z, .lst zs) :: (llC p ps rows ++ [(q, intsO needs)])) ∧ Prs H' zs (turnM needs row)) (fun Q' q' => ?_) ?_
    · refine ⟨_, rfl, _, rfl, p, _, _, _, rfl, rfl, SqL.of hp5, atI_ref (by omega) (by rw [Int.toNat_natCast]; exact hpj), pj, rfl, ⟨_, SqL.of hrow⟩, fun D hD => ?_⟩
      refine lcY (fun k y C => ∃ t pr, (row.map fun one => (-(needs.getD one.toNat 0), one))[k]? = some pr ∧ y = .ref t ∧ C = [(t, .tup [.int pr.1, .int pr.2])]) (wk_list (SqL.of hrow)) (by simp; omega) hD ?_ ?_ (gN_mono _)
      · rintro k x C H6 s6 ⟨hx, rfl⟩ _ hk Q' kq
        obtain ⟨one, ho, rfl⟩ := mapV_get hx
        obtain ⟨o0, o1⟩ := rin one (List.mem_of_getElem? ho)
        have hn := get_some (xs := needs) (i := one.toNat) (by omega)
        refine ⟨rfl, _, rfl, _, rfl, q, _, one, _, rfl, rfl, SqL.of (s6 _ _ hq5), atI_int o0 hn, _, rfl, _, rfl, by show 2 ≤ sizeLine; decide, fun t ht => ?_⟩
        refine kq _ _ _ ((Lo.nil _).al ht _) ⟨t, (-(needs[one.toNat]'(by omega)), one), ?_, rfl, rfl⟩
        rw [List.getElem?_map, ho]
        simp [hn]
      · intro ys Cs H6 L6 h1 h2 h3
        have P6 := prs_of_cells L6 (prs := row.map fun one => (-(needs.getD one.toNat 0), one)) (by simpa using h1) (by simpa using h2) h3
        refine sorted_prs P6 (SqL.of (L6.get List.mem_cons_self)) fun zs z hzs hz => ?_
        exact q' _ _ ⟨z, zs, rfl, (L5.cs L6.sm).al hz (.lst zs), hzs.same (Same.new hz (.lst zs))⟩
    rintro _ H7 ⟨z, zs, rfl, L7, P7⟩
    have tlen : zs.length = row.length := by rw [P7.len]; simp [turnM, sortP_len]
    have hz7 := L7.get List.mem_cons_self
    have hp7 := L7.get (List.mem_cons_of_mem _ (List.mem_append_left _ List.mem_cons_self))
    -- rows[person] = [one for need, one in turn]
    refine (show tSeq (tAsg _ _) _ _ _ _ from ?_)
    refine ⟨_, rfl, z, rfl, ⟨_, SqL.of hz7⟩, fun D hD => ?_⟩
    refine lcV (((turnM needs row).map (·.2)).map V.int) (by simp; rw [← P7.len]) (wk_list (SqL.of hz7)) (by omega) hD ?_ ?_ (gT2_mono _ _ _)
    · rintro k x C y H8 s8 ⟨hx, rfl⟩ _ hy Q' kq
      obtain ⟨pr, hpr, rfl⟩ : ∃ pr, (turnM needs row)[k]? = some pr ∧ y = .int pr.2 := by
        rw [List.getElem?_map, List.getElem?_map] at hy
        cases e : (turnM needs row)[k]? with
        | none => rw [e] at hy; cases hy
        | some pr => rw [e] at hy; exact ⟨pr, rfl, (Option.some.inj hy).symm⟩
      obtain ⟨t, rfl, ht⟩ := P7.row hx hpr
      exact ⟨t, _, rfl, SqT.of (s8 _ _ ht), rfl, _, _, rfl, _, _, rfl, rfl, rfl, _, rfl, kq H8 (Same.refl _)⟩
    · intro H8 L8
      have L9 := L7.ca L8
      have hp9 := L9.get (List.mem_append_right _ (List.mem_cons_of_mem _ (List.mem_append_left _ List.mem_cons_self)))
      refine ⟨_, rfl, _, rfl, p, _, _, j, rfl, rfl, hp9, ?_, ?_⟩
      · unfold ixN
        rw [if_pos (by omega), if_pos (by simp; omega)]
        simp
      have L10 : Lo H H8 ((D, intsO ((turnM needs row).map (·.2))) :: (llC p ps rows ++ [(q, intsO needs), (z, .lst zs)])) :=
        L9.pk [[(D, intsO ((turnM needs row).map (·.2)))], [(z, .lst zs)], llC p ps rows, [(q, intsO needs)]] [0, 1, 2, 3] [0, 2, 3, 1]
      have L11 := L10.rowR (by omega) (k := j) (by omega)
      have e4 : (ps.map V.ref).set j (.ref D) = (ps.set j D).map V.ref := by rw [List.map_set]
      rw [e4, show HO.lst ((ps.set j D).map V.ref) = refsO (ps.set j D) from rfl]
      have P11 : Prs _ zs (turnM needs row) := (P7.same L8.sm)
      have hP : ∀ {i : Nat} {y : V} {pr : Int × Int}, zs[i]? = some y → (turnM needs row)[i]? = some pr → ∃ t, y = .ref t ∧ upd H8 p (refsO (ps.set j D)) t = some (.tup [.int pr.1, .int pr.2]) := fun {i y pr} e1 e2 => by
        obtain ⟨t, e, ht⟩ := P11.row e1 e2
        exact ⟨t, e, by rw [upd_ne (ne_of ht hp9 (by intro z; cases z))]; exact ht⟩
      have P12 : Prs (upd H8 p (refsO (ps.set j D))) zs (turnM needs row) := ⟨P11.len, hP⟩
      have hz12 := L11.get (List.mem_append_right _ (List.mem_cons_of_mem _ List.mem_cons_self))
      have hq12 := L11.get (List.mem_append_right _ List.mem_cons_self)
      generalize upd H8 p (refsO (ps.set j D)) = H12 at L11 P12 hz12 hq12 ⊢
      -- needs[person] = max([0] + [at + 1 - need for at, (need, one) in enumerate(turn)])
      refine ⟨by show 1 ≤ sizeLine; decide, fun y hy => ?_⟩
      have L13 := L11.al hy (.lst [.int 0])
      have hz13 := L13.get (List.mem_cons_of_mem _ (List.mem_append_right _ (List.mem_cons_of_mem _ List.mem_cons_self)))
      have P13 := P12.same (Same.new hy (.lst [.int 0]))
      refine ⟨_, rfl, z, _, rfl, SqL.of hz13, fun D2 hD2 => ?_⟩
      refine lcV (((turnM needs row).mapIdx fun i p => (i : Int) + 1 - p.1).map V.int) (by simp; rw [← P7.len]) (wk_enum (SqL.of hz13)) (by omega) hD2 ?_ ?_ ?_
      · rintro k x C y H14 s14 ⟨T, w, rfl, hw, rfl⟩ hC hy Q' kq
        obtain ⟨pr, hpr, rfl⟩ : ∃ pr, (turnM needs row)[k]? = some pr ∧ y = .int ((k : Int) + 1 - pr.1) := by
          rw [List.getElem?_map, List.getElem?_mapIdx] at hy
          cases e : (turnM needs row)[k]? with
          | none => rw [e] at hy; cases hy
          | some pr => rw [e] at hy; exact ⟨pr, rfl, (Option.some.inj hy).symm⟩
        obtain ⟨t, rfl, ht⟩ := P13.row hw hpr
        refine ⟨T, _, rfl, SqT.of (hC List.mem_cons_self), rfl, _, _, rfl, _, _, rfl, ⟨t, _, rfl, SqT.of (s14 _ _ ht), rfl, _, _, rfl, _, _, rfl, rfl, rfl, rfl, ?_⟩⟩
        exact ⟨_, rfl, _, _, rfl, rfl, _, rfl, _, _, rfl, rfl, kq H14 (Same.refl _)⟩
      · intro H14 L14
        have L15 := L13.ca L14
        have hy15 := L15.get (List.mem_append_right _ List.mem_cons_self)
        refine ⟨y, D2, _, _, rfl, rfl, hy15, L14.get List.mem_cons_self, by simp; exact sz (by rw [← P7.len]; omega), fun m hm => ?_⟩
        have L16 := L15.al hm (.lst ([V.int 0] ++ ((turnM needs row).mapIdx fun i p => (i : Int) + 1 - p.1).map V.int))
        refine ⟨m, needL (turnM needs row), rfl, SqL.of (L16.get List.mem_cons_self), by simp [needL], fun mx h1 h2 => ?_⟩
        have emx : mx = maxL (needL (turnM needs row)) := maxL_eq h1 h2
        subst emx
        have hq16 := L16.get (List.mem_cons_of_mem _ (List.mem_append_right _ (List.mem_cons_of_mem _ (List.mem_append_right _ List.mem_cons_self))))
        refine ⟨_, rfl, _, rfl, q, _, _, j, rfl, rfl, hq16, ?_, ?_⟩
        · unfold ixN
          rw [if_pos (by omega), if_pos (by simp; omega)]
          simp
        refine ⟨ps.set j D, _, _, _, rfl, by simp [hps], ?_⟩
        have L17 := L16.pk (L' := (q, intsO needs) :: llC p (ps.set j D) (rows.set j ((turnM needs row).map (·.2))))
          [[(m, .lst ([V.int 0] ++ ((turnM needs row).mapIdx fun i p => (i : Int) + 1 - p.1).map V.int))], [(D2, .lst (((turnM needs row).mapIdx fun i p => (i : Int) + 1 - p.1).map V.int))], [(y, .lst [.int 0])], llC p (ps.set j D) (rows.set j ((turnM needs row).map (·.2))), [(q, intsO needs)], [(z, .lst zs)]] [0, 1, 2, 3, 4, 5] [4, 3] [0, 1, 2, 5]
        have L18 := L17.wr0 (intsO (needs.set j (maxL (needL (turnM needs row)))))
        have e5 : (needs.map V.int).set j (.int (maxL (needL (turnM needs row)))) = (needs.set j (maxL (needL (turnM needs row)))).map V.int := by rw [List.map_set]
        rw [e5]
        unfold bestStep
        dsimp only
        rw [gj]
        exact L18.perm (List.perm_append_comm (l₁ := [_]))
      · rintro v σ H Q Q' f ⟨a, xs, e1, e2, e3, v1, r1, e4, v2, r2, e5, ⟨a', xs', e1', e2', e3', v1', r1', e4', v2', r2', e5', e6', q'⟩⟩
        exact ⟨a, xs, e1, e2, e3, v1, r1, e4, v2, r2, e5, ⟨a', xs', e1', e2', e3', v1', r1', e4', v2', r2', e5', e6', q'.1, f _ _ q'.2⟩⟩
  · rintro σ H5 ⟨ps, x3, x4, x6, rfl, hps, L5⟩
    rw [e2] at L5
    refine ⟨_, rfl, _, rfl, by show 2 ≤ sizeLine; decide, fun t ht => ?_⟩
    exact k t p ps q _ (L5.al ht _) hps
end Cc

namespace Cc
open PySem L2
/-! _law_last -/
/-- each of those calls its next one, in turn -/
def popAll : List Int → List (List Int) → List Int × List (List Int)
  | [], rows => ([], rows)
  | p :: ps, rows => match rows.getD p.toNat [] with
    | [] => popAll ps rows
    | x :: r => (x :: (popAll ps (rows.set p.toNat r)).1, (popAll ps (rows.set p.toNat r)).2)
def lastGo (n : Nat) : Nat → List Int → List (List Int) → Int → Int
  | 0, _, _, rounds => rounds
  | f + 1, knows, rows, rounds => if knows.length < n then (if (popAll knows rows).1 = [] then -1 else lastGo n f (knows ++ (popAll knows rows).1) (popAll knows rows).2 (rounds + 1)) else rounds
def lastM (rows : List (List Int)) : Int := lastGo rows.length (rows.length + 1) [0] rows 0
def sp__law_last : Sp := fun vs H Q _ => ∃ (p : Addr) (ps : List Addr) (rows : List (List Int)), vs = [.ref p] ∧ Rows H p ps rows ∧ 1 ≤ rows.length ∧ rows.length ≤ 1000 ∧ RowsIn rows.length rows ∧
  ∀ H', Same H H' → Q (.int (lastM rows)) H'
def t__law_last (K : PySem.W.Frag) : TS :=
(tSeq (tAsg (tTup (tCons (tLst (tCons (tC (.int 0)) tNil)) (tCons (tLc (iList K (tVar 0)) (gName 1) tYes (tCB (qList K) (tCons (tVar 1) tNil)) [1]) (tCons (tC (.int 0)) tNil)))) (gTup K 3 (gCons (gName 2) (gCons (gName 3) (gCons (gName 4) gNil)))))
    (tSeq (tWhile (tTest (tOp qLt (tCB (qLen K) (tCons (tVar 2) tNil)) (tCB (qLen K) (tCons (tVar 0) tNil))))
    (tSeq (tAsg (tLc (iList K (tVar 2)) (gName 5) (tTest (tOp (rNeD K) (tOp (rIxL K) (tVar 3) (tVar 5)) (tLst tNil))) (tBM K "list" rPopAt (tOp (rIxL K) (tVar 3) (tVar 5)) (tCons (tC (.int 0)) tNil)) [5]) (gName 6))
      (tSeq (tIfS (tTest (tOp (rEqD K) (tVar 6) (tLst tNil)))
      (tRet (tUn qNeg (tC (.int 1))))
      tNext)
      (tPar 2 4 (tCons (tOp rCat (tVar 2) (tVar 6)) (tCons (tOp qAdd (tVar 4) (tC (.int 1))) tNil))))))
    (tRet (tVar 4))))
theorem popAll_snoc : ∀ (ps : List Int) (p : Int) (rows : List (List Int)), popAll (ps ++ [p]) rows =
    (match (popAll ps rows).2.getD p.toNat [] with
    | [] => popAll ps rows
    | x :: r => ((popAll ps rows).1 ++ [x], (popAll ps rows).2.set p.toNat r))
  | [], p, rows => by
    show popAll [p] rows = _
    unfold popAll
    cases rows.getD p.toNat [] <;> rfl
  | q :: ps, p, rows => by
    show popAll (q :: (ps ++ [p])) rows = _
    rw [popAll, popAll]
    cases e : rows.getD q.toNat [] with
    | nil => exact popAll_snoc ps p rows
    | cons x r =>
      dsimp only
      rw [popAll_snoc ps p]
      cases (popAll ps (rows.set q.toNat r)).2.getD p.toNat [] <;> rfl
theorem popAll_len : ∀ (ps : List Int) (rows : List (List Int)), (popAll ps rows).2.length = rows.length
  | [], rows => rfl
  | p :: ps, rows => by
    rw [popAll]
    cases rows.getD p.toNat [] with
    | nil => exact popAll_len ps rows
    | cons x r => dsimp only; rw [popAll_len, List.length_set]
theorem popAll_in {n : Nat} : ∀ (ps : List Int) (rows : List (List Int)), RowsIn n rows → RowsIn n (popAll ps rows).2 ∧ ∀ x ∈ (popAll ps rows).1, 0 ≤ x ∧ x < n
  | [], rows, h => ⟨h, fun x hx => by cases hx⟩
  | p :: ps, rows, h => by
    rw [popAll]
    cases e : rows.getD p.toNat [] with
    | nil => exact popAll_in ps rows h
    | cons x r =>
      have hr : ∀ y ∈ x :: r, 0 ≤ y ∧ y < (n : Int) := by
        rw [← e]
        exact getD_mem (P := fun r => ∀ x ∈ r, 0 ≤ x ∧ x < (n : Int)) h (by simp)
      have h2 : RowsIn n (rows.set p.toNat r) := fun s hs => by
        rcases List.mem_or_eq_of_mem_set hs with hs | hs
        · exact h s hs
        · subst hs; exact fun y hy => hr y (List.mem_cons_of_mem _ hy)
      obtain ⟨g1, g2⟩ := popAll_in ps _ h2
      refine ⟨g1, fun y hy => ?_⟩
      rcases List.mem_cons.mp hy with rfl | hy
      · exact hr _ List.mem_cons_self
      · exact g2 y hy
theorem popAll_row : ∀ (ps : List Int) (rows : List (List Int)), (popAll ps rows).1.length ≤ ps.length
  | [], rows => Nat.le_refl _
  | p :: ps, rows => by
    rw [popAll]
    cases rows.getD p.toNat [] with
    | nil => exact Nat.le_succ_of_le (popAll_row ps rows)
    | cons x r => simp; exact popAll_row ps _
theorem v__law_last {K : PySem.W.Frag} {vs : List V} {H : Hp} {Q : VK} {E : XK} (h : sp__law_last vs H Q E) : t__law_last K (fin Q) (st0 7 vs) H := by
  obtain ⟨po, pso, rows0, rfl, R, n1, n2, rin0, k⟩ := h
  generalize hn : rows0.length = n at n1 n2 rin0
  refine ⟨by show 1 ≤ sizeLine; decide, fun kn hkn => ?_⟩
  have L1 := (Lo.nil H).al hkn (intsO [0])
  refine c_cons (vr_copy (va_var rfl) (R.same L1.sm) (by omega) (by show 1 < 7; decide)) ?_
  rintro _ H2 ⟨pr, ps, rfl, L2, hps⟩
  have L3 := L1.ca L2
  refine ⟨by show 3 ≤ sizeLine; decide, fun t ht => ?_⟩
  have L4 := L3.ju ht (.tup [.ref kn, .ref pr, .int 0])
  refine ⟨t, _, rfl, SqT.of upd_same, rfl, _, _, rfl, _, _, rfl, _, _, rfl, rfl, ?_⟩
  refine q_whN (fun m σ H' => ∃ kn knows rows rounds x6 f, σ = [some (.ref po), none, some (.ref kn), some (.ref pr), some (.int rounds), none, x6] ∧ Lo H H' (llC pr ps rows ++ [(kn, intsO knows)]) ∧
    rows.length = n ∧ RowsIn n rows ∧ (∀ x ∈ knows, 0 ≤ x ∧ x < (n : Int)) ∧ knows.length ≤ 2 * n ∧ m = n - knows.length ∧ m < f ∧ lastM rows0 = lastGo n f knows rows rounds) (n - 1) ?_ ?_ ?_
  · refine ⟨kn, [0], rows0, 0, none, n + 1, rfl, L4, hn, rin0, fun x hx => ?_, by simp; omega, rfl, by omega, ?_⟩
    · simp at hx; subst hx; omega
    · unfold lastM; rw [hn]
  · rintro m σ H' ⟨kn, knows, rows, rounds, x6, f, rfl, L, hrl, rin, kin, kl, rfl, hf, hM⟩
    have hkn := L.get (List.mem_append_right _ List.mem_cons_self)
    refine ⟨_, rfl, kn, _, rfl, .inl (SqL.of hkn), _, rfl, po, _, rfl, .inl (SqL.of (L.same _ _ R.top)), _, _, rfl, rfl, _, rfl, ?_⟩
    have hlen : pso.length = n := by rw [R.len]; exact hn
    obtain ⟨f, rfl⟩ : ∃ g, f = g + 1 := ⟨f - 1, by omega⟩
    rw [lastGo] at hM
    refine ite2 (fun e => ?_) (fun e => ?_)
    · have e : knows.length < n := by simp [hlen] at e; exact e
      rw [if_pos e] at hM
      refine q_setR (R := fun v H'' => ∃ d, v = .ref d ∧ Lo H H'' ((d, intsO (popAll knows rows).1) :: (llC pr ps (popAll knows rows).2 ++ [(kn, intsO knows)]))) (fun Q' q' => ?_) ?_
      · refine ⟨_, rfl, kn, rfl, ⟨_, SqL.of hkn⟩, fun D hD => ?_⟩
        refine lc_list (xs := knows.map V.int) (fun i H1 => Lo H H1 ((D, intsO (popAll (knows.take i) rows).1) :: (llC pr ps (popAll (knows.take i) rows).2 ++ [(kn, intsO knows)]))) (L.al hD _) ?_ ?_ ?_
        · exact fun i H1 _ L1 => SqL.of (L1.get (List.mem_cons_of_mem _ (List.mem_append_right _ List.mem_cons_self)))
        · intro i x H1 hx L1
          obtain ⟨p, hp, rfl⟩ := mapV_get hx
          obtain ⟨p0, p1⟩ := kin p (List.mem_of_getElem? hp)
          have et : knows.take (i + 1) = knows.take i ++ [p] := by rw [List.take_add_one, hp]; rfl
          have hsn := popAll_snoc (knows.take i) p rows
          rw [← et] at hsn
          have hl1 := popAll_len (knows.take i) rows
          have hl2 := popAll_row (knows.take i) rows
          rw [hsn]
          generalize popAll (knows.take i) rows = tr at L1 hl1 hl2 ⊢
          obtain ⟨told, rows1⟩ := tr
          dsimp only at L1 hl1 hl2 ⊢
          have hq := get_some (xs := ps) (i := p.toNat) (by omega)
          have hr := get_some (xs := rows1) (i := p.toNat) (by omega)
          generalize ps[p.toNat]'(by omega) = q at hq
          generalize rows1[p.toNat]'(by omega) = row at hr
          have gr : rows1.getD p.toNat [] = row := by simp [hr]
          rw [gr]
          have hpr := L1.get (List.mem_cons_of_mem _ (List.mem_append_left _ List.mem_cons_self))
          refine ⟨rfl, _, rfl, _, rfl, pr, _, p, .ref q, rfl, rfl, SqL.of hpr, atI_ref p0 hq, by show 0 ≤ sizeLine; decide, fun z hz => ?_⟩
          have L2 := L1.ju hz (.lst [])
          have hq2 := L2.get (List.mem_cons_of_mem _ (List.mem_append_left _ (List.mem_cons_of_mem _ (rowsC_get hq hr))))
          have hpr2 := L2.get (List.mem_cons_of_mem _ (List.mem_append_left _ List.mem_cons_self))
          refine ⟨_, _, dp_I hq2, .lst (SqL.of upd_same) .nil, shI row, shI [], _, rfl, ?_⟩
          rw [eqv_I_nil]
          cases row with
          | nil =>
            rw [decide_eq_true rfl]
            refine iteF ?_
            exact L2
          | cons x r =>
            rw [decide_eq_false (by simp)]
            refine iteT ?_
            refine ⟨_, rfl, _, rfl, pr, _, p, .ref q, rfl, rfl, SqL.of hpr2, atI_ref p0 hq, .inl ⟨rfl, _, SqL.of hq2⟩, q, _, 0, 0, .int x, rfl, rfl, hq2, by decide, by decide, ?_, rfl, ?_⟩
            · unfold seqIndex?
              simp
            have L3 : Lo H _ ([(D, intsO told)] ++ (llC pr ps (rows1.set p.toNat r) ++ [(kn, intsO knows)])) := Lo.rowW (A := [(D, intsO told)]) (B := [(kn, intsO knows)]) L2 hq hr r
            refine ⟨_, L3.get List.mem_cons_self, szl (by simp at hl2 ⊢; omega), ?_⟩
            rw [map_int_snoc]
            exact L3.wr0 _
        · intro H1 L1
          rw [List.length_map, List.take_length] at L1
          exact q' _ _ ⟨D, rfl, L1⟩
      rintro _ H1 ⟨d, rfl, L1⟩
      have hd1 := L1.get List.mem_cons_self
      obtain ⟨pin1, pin2⟩ := popAll_in (n := n) knows rows rin
      have plen := popAll_len knows rows
      have prow := popAll_row knows rows
      generalize popAll knows rows = tr at L1 hd1 pin1 pin2 plen prow hM
      obtain ⟨told, rows1⟩ := tr
      dsimp only at L1 hd1 pin1 pin2 plen prow hM
      refine q_if (b := decide (told = [])) (fun Q' q' => ?_) ?_ ?_
      · refine ⟨_, rfl, by show 0 ≤ sizeLine; decide, fun z hz => ⟨_, _, dp_I (Same.new hz (.lst []) _ _ hd1), .lst (SqL.of upd_same) .nil, shI told, shI [], _, rfl, ?_⟩⟩
        rw [eqv_I_nil]
        exact q' _ (Same.new hz _)
      · intro ht H2 s2
        rw [if_pos (of_decide_eq_true ht)] at hM
        have kk := k H2 (L1.cs s2).sm
        rw [hM] at kk
        exact ⟨1, rfl, kk⟩
      · intro ht H2 s2
        have ht : ¬ told = [] := of_decide_eq_false ht
        rw [if_neg ht] at hM
        have L2 := L1.cs s2
        have tl : 0 < told.length := List.length_pos_iff.mpr ht
        refine ⟨_, rfl, _, rfl, kn, d, _, _, rfl, rfl, L2.get (List.mem_cons_of_mem _ (List.mem_append_right _ List.mem_cons_self)), L2.get List.mem_cons_self, by simp; exact sz (by omega), fun kn2 hkn2 => ?_⟩
        have L3 := L2.al hkn2 (intsO (knows ++ told))
        rw [← List.map_append]
        refine ⟨_, rfl, _, _, rfl, rfl, _, _, rfl, ?_⟩
        refine ⟨n - (knows ++ told).length, by simp; omega, kn2, knows ++ told, rows1, rounds + 1, _, f, rfl, ?_, by omega, pin1, fun x hx => ?_, by simp; omega, rfl, by simp; omega, hM⟩
        · exact L3.pk [[(kn2, intsO (knows ++ told))], [(d, intsO told)], llC pr ps rows1, [(kn, intsO knows)]] [0, 1, 2, 3] [2, 0] [1, 3]
        · rcases List.mem_append.mp hx with hx | hx
          · exact kin x hx
          · exact pin2 x hx
    · have e : ¬ knows.length < n := by simp [hlen] at e; omega
      rw [if_neg e] at hM
      refine ⟨_, rfl, ?_⟩
      rw [← hM]
      exact k H' L.sm
  · rintro σ H Q Q' f ⟨v, e1, p, ys, e2, h1, w, e3, p', ys', e4, h2, i, j, e5, e6, b, e7, q⟩
    exact ⟨v, e1, p, ys, e2, h1, w, e3, p', ys', e4, h2, i, j, e5, e6, b, e7, f _ _ q⟩
end Cc

namespace Cc
/-! ups and their trees: plain mathematics -/
theorem fmap_congr {α β : Type} {f g : α → Option β} : ∀ {l : List α}, (∀ x ∈ l, f x = g x) → l.filterMap f = l.filterMap g
  | [], _ => rfl
  | x :: l, h => by rw [List.filterMap_cons, List.filterMap_cons, h x List.mem_cons_self, fmap_congr fun y hy => h y (List.mem_cons_of_mem _ hy)]
theorem nodup_le {α : Type} [DecidableEq α] : ∀ {l m : List α}, l.Nodup → (∀ x ∈ l, x ∈ m) → l.length ≤ m.length
  | [], _, _, _ => Nat.zero_le _
  | x :: l, m, h, hs => by
    rw [List.nodup_cons] at h
    have hx := hs x List.mem_cons_self
    have := nodup_le (l := l) (m := m.erase x) h.2 fun y hy => (List.mem_erase_of_ne (show y ≠ x from fun e => h.1 (by rw [← e]; exact hy))).mpr (hs y (List.mem_cons_of_mem _ hy))
    rw [List.length_erase_of_mem hx] at this
    have : 0 < m.length := List.length_pos_of_mem hx
    simp; omega
theorem nodup_full {α : Type} [DecidableEq α] {l m : List α} (h : l.Nodup) (hs : ∀ x ∈ l, x ∈ m) (hl : m.length ≤ l.length) : ∀ x ∈ m, x ∈ l := fun x hx => by
  refine Decidable.byContradiction fun hn => ?_
  have := nodup_le (l := x :: l) (m := m) (List.nodup_cons.mpr ⟨hn, h⟩) fun y hy => by
    rcases List.mem_cons.mp hy with rfl | hy
    · exact hx
    · exact hs y hy
  simp at this; omega
/-- the people, as numbers -/
def people (n : Nat) : List Int := (List.range n).map fun k : Nat => (k : Int)
theorem people_len (n : Nat) : (people n).length = n := by simp [people]
theorem people_mem {n : Nat} {x : Int} : x ∈ people n ↔ ∃ k : Nat, k < n ∧ x = (k : Int) := by
  unfold people
  rw [List.mem_map]
  constructor
  · rintro ⟨k, hk, rfl⟩; exact ⟨k, List.mem_range.mp hk, rfl⟩
  · rintro ⟨k, hk, rfl⟩; exact ⟨k, List.mem_range.mpr hk, rfl⟩
theorem people_sorted (n : Nat) : (people n).Pairwise (· < ·) := by
  unfold people
  rw [List.pairwise_map]
  exact List.pairwise_lt_range.imp fun h => by omega
theorem people_nodup (n : Nat) : (people n).Nodup := (people_sorted n).imp fun h => by omega
theorem mapIdx_snoc {α β : Type} (f : Nat → α → β) (l : List α) (x : α) : (l ++ [x]).mapIdx f = l.mapIdx f ++ [f l.length x] := by simp
theorem lrowM_snoc (us : List Int) (u : Int) (p : Nat) : lrowM (us ++ [u]) p = lrowM us p ++ (if u = (p : Int) then [(us.length : Int) + 1] else []) := by
  unfold lrowM
  rw [mapIdx_snoc, List.filterMap_append]
  by_cases h : u = (p : Int)
  · rw [if_pos h, if_pos h]; rfl
  · rw [if_neg h, if_neg h]; rfl
theorem calGo_eq (N : Nat) : ∀ us : List Int, (∀ u ∈ us, 0 ≤ u ∧ u < (N : Int)) → calGo 0 us (List.replicate N []) = (List.range N).map (lrowM us) := by
  have key : ∀ (l us : List Int), us = l.reverse → (∀ u ∈ us, 0 ≤ u ∧ u < (N : Int)) → calGo 0 us (List.replicate N []) = (List.range N).map (lrowM us) := by
    intro l
    induction l with
    | nil =>
      intro us e _
      subst e
      show List.replicate N [] = _
      refine List.ext_getElem? fun i => ?_
      rw [List.getElem?_map]
      by_cases hi : i < N
      · rw [List.getElem?_range hi, List.getElem?_replicate, if_pos hi]; rfl
      · rw [List.getElem?_eq_none (by simp; omega), List.getElem?_eq_none (by simp; omega)]; rfl
    | cons u l ih =>
      intro us e h
      rw [List.reverse_cons] at e
      subst e
      rw [calGo_snoc, ih _ rfl fun v hv => h v (List.mem_append_left _ hv)]
      obtain ⟨h0, h1⟩ := h u (List.mem_append_right _ List.mem_cons_self)
      unfold calStep
      refine List.ext_getElem? fun i => ?_
      rw [List.getElem?_set, List.getElem?_map]
      by_cases hi : i < N
      · rw [List.getElem?_map, List.getElem?_range hi]
        by_cases hu : u.toNat = i
        · rw [if_pos hu, if_pos (by simp; omega)]
          have : u = (i : Int) := by omega
          show _ = some (lrowM (l.reverse ++ [u]) i)
          rw [lrowM_snoc, if_pos this, hu]
          congr 2
          · simp [hi]
          · simp
        · rw [if_neg hu]
          have : ¬ u = (i : Int) := by omega
          show some (lrowM l.reverse i) = some (lrowM (l.reverse ++ [u]) i)
          rw [lrowM_snoc, if_neg this, List.append_nil]
      · rw [List.getElem?_eq_none (l := List.range N) (by simp; omega), List.getElem?_eq_none (l := List.map _ _) (by simp; omega)]
        split
        · rename_i hu; rw [if_neg (by simp; omega)]
        · rfl
  exact fun us => key us.reverse us (by simp)
theorem UpsOk.lt {us : List Int} (h : UpsOk us) : ∀ u ∈ us, 0 ≤ u ∧ u < ((us.length + 1 : Nat) : Int) := fun u hu => by
  obtain ⟨i, hi, rfl⟩ := List.mem_iff_getElem.mp hu
  have := h i _ (get_some hi)
  omega
theorem calledM_eq {us : List Int} (h : UpsOk us) : calledM us = lcalledM us := calGo_eq (us.length + 1) us h.lt
theorem lrowM_mem {us : List Int} {p : Nat} {x : Int} : x ∈ lrowM us p ↔ ∃ i : Nat, us[i]? = some (p : Int) ∧ x = (i : Int) + 1 := by
  unfold lrowM
  rw [List.mem_filterMap]
  constructor
  · rintro ⟨y, hy, e⟩
    obtain ⟨i, hi, e2⟩ := List.mem_mapIdx.mp hy
    have e : y = some x := e
    rw [e] at e2
    split at e2
    · rename_i hu
      refine ⟨i, ?_, (Option.some.inj e2).symm⟩
      rw [get_some hi, hu]
    · cases e2
  · rintro ⟨i, hi, rfl⟩
    refine ⟨some ((i : Int) + 1), List.mem_mapIdx.mpr ⟨i, lt_of_get hi, ?_⟩, rfl⟩
    have : us[i]'(lt_of_get hi) = (p : Int) := by
      rw [get_some (lt_of_get hi)] at hi
      exact Option.some.inj hi
    rw [if_pos this]
theorem lrowM_sorted (us : List Int) (p : Nat) : (lrowM us p).Pairwise (· < ·) := by
  have key : ∀ (l us : List Int), us = l.reverse → (lrowM us p).Pairwise (· < ·) := by
    intro l
    induction l with
    | nil => intro us e; subst e; exact List.Pairwise.nil
    | cons u l ih =>
      intro us e
      rw [List.reverse_cons] at e
      subst e
      rw [lrowM_snoc, List.pairwise_append]
      refine ⟨ih _ rfl, by split <;> simp, fun a ha b hb => ?_⟩
      split at hb
      · simp at hb
        subst hb
        obtain ⟨i, hi, rfl⟩ := lrowM_mem.mp ha
        have := lt_of_get hi
        simp at this
        omega
      · cases hb
  exact key us.reverse us (by simp)
/-- rows are those of ups, in some turn each -/
def TreeOf (us : List Int) (rows : List (List Int)) : Prop := rows.map sortI = lcalledM us
theorem TreeOf.len {us : List Int} {rows : List (List Int)} (h : TreeOf us rows) : rows.length = us.length + 1 := by
  have := congrArg List.length h
  rwa [List.length_map, lcalledM_len] at this
theorem TreeOf.row {us : List Int} {rows : List (List Int)} (h : TreeOf us rows) {p : Nat} {r : List Int} (hr : rows[p]? = some r) : sortI r = lrowM us p := by
  have hp := lt_of_get hr
  have e : (rows.map sortI)[p]? = (lcalledM us)[p]? := by rw [h]
  rw [List.getElem?_map, hr, lcalledM, List.getElem?_map, List.getElem?_range (by rw [← h.len]; exact hp)] at e
  exact Option.some.inj e
theorem TreeOf.mem {us : List Int} {rows : List (List Int)} (h : TreeOf us rows) {p : Nat} {r : List Int} (hr : rows[p]? = some r) {x : Int} : x ∈ r ↔ ∃ i : Nat, us[i]? = some (p : Int) ∧ x = (i : Int) + 1 := by
  rw [← lrowM_mem, ← h.row hr]
  exact ((sortI_perm r).mem_iff).symm
theorem TreeOf.nodup {us : List Int} {rows : List (List Int)} (h : TreeOf us rows) {p : Nat} {r : List Int} (hr : rows[p]? = some r) : r.Nodup := by
  have : (sortI r).Nodup := by
    rw [h.row hr]
    exact (lrowM_sorted us p).imp fun h => by omega
  exact (sortI_perm r).nodup_iff.mp this
theorem TreeOf.rowsIn {us : List Int} {rows : List (List Int)} (h : TreeOf us rows) : RowsIn (us.length + 1) rows := fun r hr x hx => by
  obtain ⟨p, hp, rfl⟩ := List.mem_iff_getElem.mp hr
  obtain ⟨i, hi, rfl⟩ := (h.mem (get_some hp)).mp hx
  have := lt_of_get hi
  omega
/-- when each one is told -/
def tms (us : List Int) (rows : List (List Int)) : Nat → List Int
  | 0 => [0]
  | k + 1 => tms us rows k ++ [(tms us rows k).getD (us.getD k 0).toNat 0 + ((rows.getD (us.getD k 0).toNat []).idxOf ((k : Int) + 1) : Nat) + 1]
def tm (us : List Int) (rows : List (List Int)) (k : Nat) : Int := (tms us rows us.length).getD k 0
theorem tms_len (us : List Int) (rows : List (List Int)) : ∀ k, (tms us rows k).length = k + 1
  | 0 => rfl
  | k + 1 => by rw [tms, List.length_append, tms_len]; rfl
theorem tms_get (us : List Int) (rows : List (List Int)) {i : Nat} : ∀ {k m : Nat}, i ≤ k → k ≤ m → (tms us rows m).getD i 0 = (tms us rows k).getD i 0 := by
  intro k m hi hk
  induction m with
  | zero => have : k = 0 := by omega
            subst this; rfl
  | succ m ih =>
    by_cases e : k = m + 1
    · subst e; rfl
    · rw [tms, ← ih (by omega)]
      simp only [List.getD_eq_getElem?_getD]
      rw [List.getElem?_append_left (by rw [tms_len]; omega)]
theorem tm_zero (us : List Int) (rows : List (List Int)) : tm us rows 0 = 0 := by
  unfold tm
  rw [tms_get us rows (k := 0) (Nat.le_refl _) (Nat.zero_le _)]
  rfl
theorem tm_succ {us : List Int} (hu : UpsOk us) (rows : List (List Int)) {k p : Nat} (hk : us[k]? = some (p : Int)) : tm us rows (k + 1) = tm us rows p + ((rows.getD p []).idxOf ((k : Int) + 1) : Nat) + 1 := by
  have hl := lt_of_get hk
  have hp : p ≤ k := by have := hu k _ hk; omega
  unfold tm
  rw [tms_get us rows (k := k + 1) (Nat.le_refl _) hl, tms_get us rows (k := k) hp (by omega), tms]
  have e : us.getD k 0 = (p : Int) := by simp [hk]
  rw [e, Int.toNat_natCast]
  simp only [List.getD_eq_getElem?_getD]
  rw [List.getElem?_append_right (by rw [tms_len]; omega), tms_len]
  simp
theorem tm_nonneg {us : List Int} (hu : UpsOk us) (rows : List (List Int)) : ∀ k, k ≤ us.length → 0 ≤ tm us rows k := by
  intro k
  induction k using Nat.strongRecOn with
  | _ k ih =>
    intro hk
    cases k with
    | zero => rw [tm_zero]; decide
    | succ k =>
      have e := get_some (xs := us) (i := k) (by omega)
      obtain ⟨h0, h1⟩ := hu k _ e
      generalize us[k]'(by omega) = u at e h0 h1
      obtain ⟨p, rfl⟩ : ∃ p : Nat, u = (p : Int) := ⟨u.toNat, by omega⟩
      rw [tm_succ hu rows e]
      have := ih p (by omega) (by omega)
      omega
/-- the child that stands at place i of p's row is told i + 1 rounds behind p -/
theorem tm_child {us : List Int} (hu : UpsOk us) {rows : List (List Int)} (ht : TreeOf us rows) {p i : Nat} {r : List Int} {x : Int} (hr : rows[p]? = some r) (hx : r[i]? = some x) :
    ∃ k : Nat, x = (k : Int) + 1 ∧ us[k]? = some (p : Int) ∧ tm us rows (k + 1) = tm us rows p + i + 1 := by
  obtain ⟨k, hk, rfl⟩ := (ht.mem hr).mp (List.mem_of_getElem? hx)
  refine ⟨k, rfl, hk, ?_⟩
  rw [tm_succ hu rows hk]
  have e : rows.getD p [] = r := by simp [hr]
  have hi := lt_of_get hx
  have e2 : r.idxOf ((k : Int) + 1) = i := by
    have e3 : r[i]'hi = (k : Int) + 1 := by rw [get_some hi] at hx; exact Option.some.inj hx
    rw [← e3]
    exact (ht.nodup hr).idxOf_getElem _ _
  rw [e, e2]
/-! the walk, round by round -/
/-- what each has still to call behind t rounds -/
def rowsAt (us : List Int) (rows : List (List Int)) (t : Nat) : List (List Int) := rows.mapIdx fun p r => if tm us rows p ≤ (t : Int) then r.drop ((t : Int) - tm us rows p).toNat else r
/-- popAll over different people, each by itself -/
theorem popAll_eq : ∀ (ps : List Int) (rows : List (List Int)), ps.Nodup → (∀ p ∈ ps, 0 ≤ p) →
    (popAll ps rows).1 = ps.filterMap (fun p => (rows.getD p.toNat []).head?) ∧ ∀ i : Nat, (popAll ps rows).2[i]? = if (i : Int) ∈ ps then (rows[i]?).map List.tail else rows[i]?
  | [], rows, _, _ => ⟨rfl, fun i => by simp [popAll]⟩
  | p :: ps, rows, hn, h0 => by
    rw [List.nodup_cons] at hn
    have hp0 := h0 p List.mem_cons_self
    have h0' : ∀ q ∈ ps, 0 ≤ q := fun q hq => h0 q (List.mem_cons_of_mem _ hq)
    rw [popAll]
    cases e : rows.getD p.toNat [] with
    | nil =>
      obtain ⟨g1, g2⟩ := popAll_eq ps rows hn.2 h0'
      dsimp only
      refine ⟨?_, fun i => ?_⟩
      · rw [g1, List.filterMap_cons, e]; rfl
      · rw [g2 i]
        by_cases hi : (i : Int) ∈ ps
        · rw [if_pos hi, if_pos (List.mem_cons_of_mem _ hi)]
        · rw [if_neg hi]
          by_cases hip : (i : Int) = p
          · rw [if_pos (by rw [hip]; exact List.mem_cons_self)]
            have : p.toNat = i := by omega
            rw [this] at e
            cases e2 : rows[i]? with
            | none => rfl
            | some r =>
              have : r = [] := by simpa [List.getD, e2] using e
              subst this; rfl
          · rw [if_neg (by simp [hip, hi])]
    | cons x r =>
      obtain ⟨g1, g2⟩ := popAll_eq ps (rows.set p.toNat r) hn.2 h0'
      dsimp only
      refine ⟨?_, fun i => ?_⟩
      · rw [g1, List.filterMap_cons, e]
        show x :: _ = x :: _
        congr 1
        refine fmap_congr fun q hq => ?_
        have hne : ¬ p.toNat = q.toNat := fun e => hn.1 (by
          have := h0' q hq
          have : p = q := by omega
          rw [this]; exact hq)
        simp only [List.getD_eq_getElem?_getD]
        rw [List.getElem?_set_ne hne]
      · rw [g2 i, List.getElem?_set]
        by_cases hpi : p.toNat = i
        · have hip : (i : Int) = p := by omega
          have hni : ¬ (i : Int) ∈ ps := by rw [hip]; exact hn.1
          rw [if_neg hni, if_pos hpi, if_pos (show (i : Int) ∈ p :: ps from hip ▸ List.mem_cons_self)]
          rw [hpi] at e ⊢
          have hl : i < rows.length := by
            refine Nat.lt_of_not_le fun hle => ?_
            rw [List.getD_eq_getElem?_getD, List.getElem?_eq_none hle] at e
            cases e
          rw [if_pos hl]
          have : rows[i]? = some (x :: r) := by
            rw [get_some hl]
            rw [List.getD_eq_getElem?_getD, get_some hl] at e
            exact congrArg some e
          rw [this]; rfl
        · have hip : ¬ (i : Int) = p := by omega
          rw [if_neg hpi]
          by_cases hi : (i : Int) ∈ ps
          · rw [if_pos hi, if_pos (List.mem_cons_of_mem _ hi)]
          · rw [if_neg hi, if_neg (by simp [hip, hi])]
/-- behind t rounds just those know that are told by then -/
structure KnowAt (us : List Int) (rows : List (List Int)) (t : Nat) (knows : List Int) : Prop where
  nd : knows.Nodup
  mem : ∀ x : Int, x ∈ knows ↔ ∃ k : Nat, x = (k : Int) ∧ k ≤ us.length ∧ tm us rows k ≤ (t : Int)
section
variable {us : List Int} (hu : UpsOk us) {rows : List (List Int)} (ht : TreeOf us rows)
theorem rowsAt_get (t p : Nat) : (rowsAt us rows t)[p]? = (rows[p]?).map fun r => if tm us rows p ≤ (t : Int) then r.drop ((t : Int) - tm us rows p).toNat else r := by
  unfold rowsAt; rw [List.getElem?_mapIdx]
theorem rowsAt_zero (hu : UpsOk us) : rowsAt us rows 0 = rows := by
  refine List.ext_getElem? fun p => ?_
  rw [rowsAt_get]
  cases e : rows[p]? with
  | none => rfl
  | some r =>
    show some (if _ then _ else _) = some r
    split
    · rename_i h
      by_cases hp : p ≤ us.length
      · have := tm_nonneg hu rows p hp
        have : (((0 : Nat) : Int) - tm us rows p).toNat = 0 := by omega
        rw [this, List.drop_zero]
      · have : tm us rows p = 0 := by
          unfold tm
          rw [List.getD_eq_getElem?_getD, List.getElem?_eq_none (by rw [tms_len]; omega)]
          rfl
        rw [this]
        rfl
    · rfl
include hu ht in
/-- a round -/
theorem know_step {t : Nat} {knows : List Int} (h : KnowAt us rows t knows) :
    (popAll knows (rowsAt us rows t)).2 = rowsAt us rows (t + 1) ∧ KnowAt us rows (t + 1) (knows ++ (popAll knows (rowsAt us rows t)).1) ∧
    ((popAll knows (rowsAt us rows t)).1 = [] → ∀ k, k ≤ us.length → tm us rows k ≤ (t : Int)) := by
  have hk0 : ∀ p ∈ knows, 0 ≤ p := fun p hp => by obtain ⟨k, rfl, _⟩ := (h.mem p).mp hp; omega
  obtain ⟨g1, g2⟩ := popAll_eq knows (rowsAt us rows t) h.nd hk0
  have rl := ht.len
  -- what is told
  have told : ∀ x : Int, x ∈ (popAll knows (rowsAt us rows t)).1 ↔ ∃ k : Nat, x = (k : Int) ∧ k ≤ us.length ∧ tm us rows k = (t : Int) + 1 := by
    intro x
    rw [g1, List.mem_filterMap]
    constructor
    · rintro ⟨p, hp, e⟩
      obtain ⟨q, rfl, hq, htq⟩ := (h.mem p).mp hp
      have hr := get_some (xs := rows) (i := q) (by omega)
      generalize rows[q]'(by omega) = r at hr
      rw [Int.toNat_natCast, List.getD_eq_getElem?_getD, rowsAt_get, hr] at e
      have e : (if tm us rows q ≤ (t : Int) then r.drop ((t : Int) - tm us rows q).toNat else r).head? = some x := e
      rw [if_pos htq, List.head?_drop] at e
      obtain ⟨k, rfl, hk, e2⟩ := tm_child hu ht hr e
      refine ⟨k + 1, by simp, by have := lt_of_get hk; omega, ?_⟩
      have := tm_nonneg hu rows q hq
      omega
    · rintro ⟨k, rfl, hk, e⟩
      cases k with
      | zero => rw [tm_zero] at e; omega
      | succ k =>
        have ek := get_some (xs := us) (i := k) (by omega)
        obtain ⟨h0, h1⟩ := hu k _ ek
        generalize us[k]'(by omega) = u at ek h0 h1
        obtain ⟨p, rfl⟩ : ∃ p : Nat, u = (p : Int) := ⟨u.toNat, by omega⟩
        have hr := get_some (xs := rows) (i := p) (by omega)
        generalize rows[p]'(by omega) = r at hr
        have hx : ((k : Int) + 1) ∈ r := (ht.mem hr).mpr ⟨k, ek, rfl⟩
        obtain ⟨i, hi, ei⟩ := List.mem_iff_getElem.mp hx
        have hi2 : r[i]? = some ((k : Int) + 1) := by rw [get_some hi, ei]
        obtain ⟨k', e1, _, e3⟩ := tm_child hu ht hr hi2
        have : k' = k := by omega
        subst this
        have := tm_nonneg hu rows p (by omega)
        refine ⟨(p : Int), (h.mem _).mpr ⟨p, rfl, by omega, by omega⟩, ?_⟩
        rw [Int.toNat_natCast, List.getD_eq_getElem?_getD, rowsAt_get, hr]
        show (if tm us rows p ≤ (t : Int) then r.drop ((t : Int) - tm us rows p).toNat else r).head? = _
        rw [if_pos (by omega), List.head?_drop, show ((t : Int) - tm us rows p).toNat = i by omega, hi2]
        simp
  refine ⟨?_, ⟨?_, fun x => ?_⟩, ?_⟩
  · refine List.ext_getElem? fun i => ?_
    rw [g2 i, rowsAt_get, rowsAt_get]
    cases e : rows[i]? with
    | none => simp
    | some r =>
      have hi : i ≤ us.length := by have := lt_of_get e; omega
      by_cases hm : (i : Int) ∈ knows
      · obtain ⟨k, ek, _, e2⟩ := (h.mem _).mp hm
        have : k = i := by omega
        subst this
        rw [if_pos hm]
        simp only [Option.map_some]
        rw [if_pos e2, if_pos (by omega), List.tail_drop]
        congr 2
        omega
      · have hn : ¬ tm us rows i ≤ (t : Int) := fun q => hm ((h.mem _).mpr ⟨i, rfl, hi, q⟩)
        rw [if_neg hm]
        simp only [Option.map_some]
        rw [if_neg hn]
        by_cases e2 : tm us rows i ≤ ((t + 1 : Nat) : Int)
        · rw [if_pos e2, show (((t + 1 : Nat) : Int) - tm us rows i).toNat = 0 by omega, List.drop_zero]
        · rw [if_neg e2]
  · rw [List.nodup_append]
    refine ⟨h.nd, ?_, fun a ha b hb e => ?_⟩
    · rw [g1]
      refine (List.pairwise_filterMap).mpr (h.nd.imp_of_mem fun {p q} hp hq hne x hx y hy e => ?_)
      subst e
      obtain ⟨p', rfl, hp1, hp2⟩ := (h.mem p).mp hp
      obtain ⟨q', rfl, hq1, hq2⟩ := (h.mem q).mp hq
      have par : ∀ p' : Nat, p' ≤ us.length → tm us rows p' ≤ (t : Int) → ((rowsAt us rows t).getD (p' : Int).toNat []).head? = some x → ∃ k : Nat, x = (k : Int) + 1 ∧ us[k]? = some (p' : Int) := by
        intro p' h1 h2 h3
        have hr := get_some (xs := rows) (i := p') (by omega)
        generalize rows[p']'(by omega) = r at hr
        rw [Int.toNat_natCast, List.getD_eq_getElem?_getD, rowsAt_get, hr] at h3
        have h3 : (if tm us rows p' ≤ (t : Int) then r.drop ((t : Int) - tm us rows p').toNat else r).head? = some x := h3
        rw [if_pos h2, List.head?_drop] at h3
        obtain ⟨k, rfl, hk, _⟩ := tm_child hu ht hr h3
        exact ⟨k, rfl, hk⟩
      obtain ⟨k1, e1, f1⟩ := par p' hp1 hp2 hx
      obtain ⟨k2, e2, f2⟩ := par q' hq1 hq2 hy
      have : k1 = k2 := by omega
      subst this
      rw [f1] at f2
      exact hne (Option.some.inj f2)
    · subst e
      obtain ⟨k, rfl, _, e1⟩ := (h.mem a).mp ha
      obtain ⟨k', e2, _, e3⟩ := (told _).mp hb
      have : k = k' := by omega
      subst this
      omega
  · rw [List.mem_append, h.mem, told]
    constructor
    · rintro (⟨k, rfl, h1, h2⟩ | ⟨k, rfl, h1, h2⟩)
      · exact ⟨k, rfl, h1, by omega⟩
      · exact ⟨k, rfl, h1, by omega⟩
    · rintro ⟨k, rfl, h1, h2⟩
      by_cases e : tm us rows k ≤ (t : Int)
      · exact .inl ⟨k, rfl, h1, e⟩
      · exact .inr ⟨k, rfl, h1, by omega⟩
  · intro e0 k
    induction k using Nat.strongRecOn with
    | _ k ih =>
      intro hk
      refine Int.not_lt.mp fun hlt => ?_
      cases k with
      | zero => rw [tm_zero] at hlt; omega
      | succ k =>
        have ek := get_some (xs := us) (i := k) (by omega)
        obtain ⟨h0, h1⟩ := hu k _ ek
        generalize us[k]'(by omega) = u at ek h0 h1
        obtain ⟨p, rfl⟩ : ∃ p : Nat, u = (p : Int) := ⟨u.toNat, by omega⟩
        have hp := ih p (by omega) (by omega)
        have hr := get_some (xs := rows) (i := p) (by omega)
        generalize rows[p]'(by omega) = r at hr
        have hx : ((k : Int) + 1) ∈ r := (ht.mem hr).mpr ⟨k, ek, rfl⟩
        obtain ⟨i, hi, ei⟩ := List.mem_iff_getElem.mp hx
        have hi2 : r[i]? = some ((k : Int) + 1) := by rw [get_some hi, ei]
        obtain ⟨k', e1, _, e3⟩ := tm_child hu ht hr hi2
        have : k' = k := by omega
        subst this
        -- the one that is told just in the next round
        have hj : ((t : Int) - tm us rows p).toNat < r.length := by omega
        obtain ⟨k2, e4, e5, e6⟩ := tm_child hu ht hr (get_some hj)
        have : (((k2 + 1 : Nat) : Int)) ∈ (popAll knows (rowsAt us rows t)).1 := (told _).mpr ⟨k2 + 1, rfl, by have := lt_of_get e5; omega, by omega⟩
        rw [e0] at this
        cases this
end
/-- the last one's round -/
def maxTm (us : List Int) (rows : List (List Int)) : Int := maxL (tms us rows us.length)
theorem maxTm_ge (us : List Int) (rows : List (List Int)) {k : Nat} (hk : k ≤ us.length) : tm us rows k ≤ maxTm us rows := by
  unfold maxTm tm
  refine maxL_ge ?_
  rw [List.getD_eq_getElem?_getD, get_some (by rw [tms_len]; omega)]
  exact List.getElem_mem _
theorem maxTm_at (us : List Int) (rows : List (List Int)) : ∃ k, k ≤ us.length ∧ tm us rows k = maxTm us rows := by
  have h := maxL_mem (l := tms us rows us.length) (by intro e; have := tms_len us rows us.length; rw [e] at this; simp at this)
  obtain ⟨k, hk, e⟩ := List.mem_iff_getElem.mp h
  rw [tms_len] at hk
  refine ⟨k, by omega, ?_⟩
  unfold tm maxTm
  rw [List.getD_eq_getElem?_getD, get_some (by rw [tms_len]; omega)]
  exact e
theorem lastGo_eq {us : List Int} (hu : UpsOk us) {rows : List (List Int)} (ht : TreeOf us rows) : ∀ (f t : Nat) (knows : List Int), KnowAt us rows t knows → us.length + 1 - knows.length < f → (t : Int) ≤ maxTm us rows →
    lastGo (us.length + 1) f knows (rowsAt us rows t) (t : Int) = maxTm us rows := by
  intro f
  induction f with
  | zero => intro t knows _ h; omega
  | succ f ih =>
    intro t knows hk hf hle
    rw [lastGo]
    obtain ⟨g1, g2, g3⟩ := know_step hu ht hk
    split
    · rename_i hlt
      have hne : ¬ (popAll knows (rowsAt us rows t)).1 = [] := fun e => by
        have all := g3 e
        -- then all know
        have := nodup_le (people_nodup (us.length + 1)) fun x hx => by
          obtain ⟨k, hk1, rfl⟩ := people_mem.mp hx
          exact (hk.mem _).mpr ⟨k, rfl, by omega, all k (by omega)⟩
        rw [people_len] at this
        omega
      rw [if_neg hne, g1]
      have pos : 0 < (popAll knows (rowsAt us rows t)).1.length := List.length_pos_iff.mpr hne
      have := ih (t + 1) _ g2 (by rw [List.length_append]; omega) (by
        obtain ⟨x, hx⟩ := List.exists_mem_of_length_pos pos
        obtain ⟨k, rfl, h1, h2⟩ := (g2.mem x).mp (List.mem_append_right _ hx)
        have nk : ¬ tm us rows k ≤ (t : Int) := fun q => by
          have := (List.nodup_append.mp g2.nd).2.2 _ ((hk.mem _).mpr ⟨k, rfl, h1, q⟩) _ hx
          exact this rfl
        have := maxTm_ge us rows h1
        omega)
      rw [← this]
      congr 1
    · rename_i hge
      -- all know
      obtain ⟨k, hk1, hk2⟩ := maxTm_at us rows
      have hm : ((k : Nat) : Int) ∈ knows := nodup_full hk.nd (fun x hx => by
        obtain ⟨k, rfl, h1, _⟩ := (hk.mem x).mp hx
        exact people_mem.mpr ⟨k, by omega, rfl⟩) (m := people (us.length + 1)) (by rw [people_len]; omega) _ (people_mem.mpr ⟨k, by omega, rfl⟩)
      obtain ⟨k', e1, _, e2⟩ := (hk.mem _).mp hm
      have : k' = k := by omega
      subst this
      omega
theorem lastM_eq {us : List Int} (hu : UpsOk us) {rows : List (List Int)} (ht : TreeOf us rows) : lastM rows = maxTm us rows := by
  unfold lastM
  rw [ht.len]
  have h0 : KnowAt us rows 0 [0] := ⟨by simp, fun x => by
    constructor
    · intro hx
      simp at hx
      exact ⟨0, by simpa using hx, by omega, by rw [tm_zero]; decide⟩
    · rintro ⟨k, rfl, h1, h2⟩
      cases k with
      | zero => simp
      | succ k =>
        exfalso
        have ek := get_some (xs := us) (i := k) (by omega)
        obtain ⟨h0, h3⟩ := hu k _ ek
        generalize us[k]'(by omega) = u at ek h0 h3
        obtain ⟨p, rfl⟩ : ∃ p : Nat, u = (p : Int) := ⟨u.toNat, by omega⟩
        rw [tm_succ hu rows ek] at h2
        have := tm_nonneg hu rows p (by omega)
        omega⟩
  have := lastGo_eq hu ht (us.length + 1 + 1) 0 [0] h0 (by simp; omega) (by
    have := maxTm_ge us rows (k := 0) (by omega)
    rw [tm_zero] at this
    omega)
  rw [rowsAt_zero hu] at this
  exact this
end Cc

namespace Cc
open PySem L2
/-! a logic by values: each name holds what is told of it (As), own cells beside; the heap is not seen -/
/-- two lists, item by item -/
inductive Al {α β : Type} (R : α → β → Prop) : List α → List β → Prop
  | nil : Al R [] []
  | cons {a : α} {b : β} {as : List α} {bs : List β} : R a b → Al R as bs → Al R (a :: as) (b :: bs)
namespace Al
variable {α β : Type} {R S : α → β → Prop}
theorem len {as : List α} {bs : List β} (h : Al R as bs) : as.length = bs.length := by
  induction h with
  | nil => rfl
  | cons _ _ ih => simp [ih]
theorem get {as : List α} {bs : List β} (h : Al R as bs) {i : Nat} {a : α} (e : as[i]? = some a) : ∃ b, bs[i]? = some b ∧ R a b := by
  induction h generalizing i with
  | nil => simp at e
  | cons r _ ih =>
    cases i with
    | zero => simp at e; subst e; exact ⟨_, rfl, r⟩
    | succ i => simp at e; obtain ⟨b, h1, h2⟩ := ih e; exact ⟨b, by simpa using h1, h2⟩
theorem get' {as : List α} {bs : List β} (h : Al R as bs) {i : Nat} {b : β} (e : bs[i]? = some b) : ∃ a, as[i]? = some a ∧ R a b := by
  induction h generalizing i with
  | nil => simp at e
  | cons r _ ih =>
    cases i with
    | zero => simp at e; subst e; exact ⟨_, rfl, r⟩
    | succ i => simp at e; obtain ⟨b, h1, h2⟩ := ih e; exact ⟨b, by simpa using h1, h2⟩
theorem of_get {as : List α} {bs : List β} (hl : as.length = bs.length) (h : ∀ (i : Nat) (a : α) (b : β), as[i]? = some a → bs[i]? = some b → R a b) : Al R as bs := by
  induction as generalizing bs with
  | nil => cases bs with
    | nil => exact .nil
    | cons _ _ => cases hl
  | cons a as ih => cases bs with
    | nil => cases hl
    | cons b bs => exact .cons (h 0 a b rfl rfl) (ih (Nat.succ.inj hl) fun i a b e1 e2 => h (i + 1) a b (by simpa using e1) (by simpa using e2))
theorem app {as as' : List α} {bs bs' : List β} (h : Al R as bs) (h' : Al R as' bs') : Al R (as ++ as') (bs ++ bs') := by
  induction h with
  | nil => exact h'
  | cons r _ ih => exact .cons r ih
theorem mp {as : List α} {bs : List β} (h : Al R as bs) (f : ∀ a b, R a b → S a b) : Al S as bs := by
  induction h with
  | nil => exact .nil
  | cons r _ ih => exact .cons (f _ _ r) ih
theorem take {as : List α} {bs : List β} (h : Al R as bs) (n : Nat) : Al R (as.take n) (bs.take n) := by
  induction h generalizing n with
  | nil => simp; exact .nil
  | cons r _ ih => cases n with
    | zero => exact .nil
    | succ n => exact .cons r (ih n)
theorem drop {as : List α} {bs : List β} (h : Al R as bs) (n : Nat) : Al R (as.drop n) (bs.drop n) := by
  induction h generalizing n with
  | nil => simp; exact .nil
  | cons r t ih => cases n with
    | zero => exact .cons r t
    | succ n => exact ih n
theorem rev {as : List α} {bs : List β} (h : Al R as bs) : Al R as.reverse bs.reverse := by
  induction h with
  | nil => exact .nil
  | cons r _ ih => rw [List.reverse_cons, List.reverse_cons]; exact ih.app (.cons r .nil)
theorem rep {a : α} {b : β} (h : R a b) : ∀ n : Nat, Al R (List.replicate n a) (List.replicate n b)
  | 0 => .nil
  | n + 1 => .cons h (rep h n)
theorem set {as : List α} {bs : List β} (h : Al R as bs) {a : α} {b : β} (r : R a b) (i : Nat) : Al R (as.set i a) (bs.set i b) := by
  induction h generalizing i with
  | nil => exact .nil
  | cons q t ih => cases i with
    | zero => exact .cons r t
    | succ i => exact .cons q (ih i)
theorem ofMap {γ : Type} {f : α → γ} {g : α → β} {T : γ → β → Prop} (h : ∀ a, T (f a) (g a)) : ∀ as : List α, Al T (as.map f) (as.map g)
  | [] => .nil
  | a :: as => .cons (h a) (ofMap h as)
end Al
/-- no tuple -/
def NT (c : Cell) : Prop := ∀ xs, c.2 ≠ HO.tup xs
/-- what is told of a value: by the heap that stands, and its own cells -/
structure As where
  p : Hp → V → List Cell → Prop
  mo : ∀ {H H' : Hp} {v : V} {C : List Cell}, p H v C → Same H H' → p H' v C
  nt : ∀ {H : Hp} {v : V} {C : List Cell}, p H v C → ∀ c ∈ C, NT c
/-! data, by their Lean forms -/
class Enc (α : Type) where
  is : α → Hp → V → Prop
  mo : ∀ {a : α} {H H' : Hp} {v : V}, is a H v → Same H H' → is a H' v
class EncD (α : Type) [Enc α] where
  dat : α → PyData
  dep : Nat
  dp : ∀ {K : PySem.W.Frag} {a : α} {H : Hp} {v : V}, Enc.is a H v → Dp K H v (dat a)
  sh : ∀ a : α, Shp (dat a) dep
/-- what is told is the same thing -/
class EncQ (α : Type) [DecidableEq α] [Enc α] [EncD α] : Prop where
  eqv : ∀ a b : α, PyData.eqv (EncD.dat a) (EncD.dat b) = decide (a = b)
/-- a plain value: it does not lean on the heap -/
class EncS (α : Type) [Enc α] : Prop where
  sc : ∀ {a : α} {H H' : Hp} {v : V}, Enc.is a H v → Enc.is a H' v
/-- a value made of tuples and plain ones alone -/
class EncT (α : Type) [Enc α] : Prop where
  tp : ∀ {a : α} {H H' : Hp} {v : V}, (∀ t xs, H t = some (.tup xs) → H' t = some (.tup xs)) → Enc.is a H v → Enc.is a H' v
instance encI : Enc Int where
  is := fun i _ v => v = .int i
  mo := fun h _ => h
instance encDI : EncD Int where
  dat := .int
  dep := 0
  dp := fun h => by subst h; exact .int _
  sh := shp_int
instance encB : Enc Bool where
  is := fun i _ v => v = .bl i
  mo := fun h _ => h
instance encDB : EncD Bool where
  dat := .bool
  dep := 0
  dp := fun h => by subst h; exact .bl _
  sh := shp_bool
instance encU : Enc Unit where
  is := fun _ _ v => v = .non
  mo := fun h _ => h
instance encDU : EncD Unit where
  dat := fun _ => .none
  dep := 0
  dp := fun h => by subst h; exact .non
  sh := fun _ => ⟨rfl, Nat.le_refl _⟩
theorem shp_up {d : PyData} {n m : Nat} (h : Shp d n) (hm : n ≤ m) : Shp d m := ⟨h.lay, Nat.le_trans h.dep hm⟩
instance encO {α : Type} [Enc α] : Enc (Option α) where
  is := fun o H v => match o with
    | none => v = .non
    | some a => Enc.is a H v
  mo := fun {a H H' v} h s => match a, h with
    | none, h => h
    | some a, h => Enc.mo (a := a) h s
instance encDO {α : Type} [Enc α] [EncD α] : EncD (Option α) where
  dat := fun o => match o with
    | none => .none
    | some a => EncD.dat a
  dep := EncD.dep α
  dp := fun {K a H v} h => match a, h with
    | none, h => by
      have h : v = .non := h
      subst h; exact .non
    | some a, h => EncD.dp (a := a) h
  sh := fun o => match o with
    | none => ⟨rfl, Nat.zero_le _⟩
    | some a => EncD.sh a
theorem dpAll_of {α : Type} [Enc α] [EncD α] {K : PySem.W.Frag} {H : Hp} {xs : List α} {vs : List V} (h : Al (fun a v => Enc.is a H v) xs vs) : DpAll K H vs (xs.map EncD.dat) := by
  induction h with
  | nil => exact .nil
  | cons r _ ih => exact .cons (EncD.dp r) ih
instance encL {α : Type} [Enc α] : Enc (List α) where
  is := fun xs H v => ∃ l vs, v = .ref l ∧ H l = some (.lst vs) ∧ Al (fun a v => Enc.is a H v) xs vs
  mo := fun ⟨l, vs, e, h, g⟩ s => ⟨l, vs, e, s _ _ h, g.mp fun _ _ r => Enc.mo r s⟩
instance encDL {α : Type} [Enc α] [EncD α] : EncD (List α) where
  dat := fun xs => .list (xs.map EncD.dat)
  dep := EncD.dep α + 1
  dp := fun ⟨l, vs, e, h, g⟩ => by subst e; exact .lst (SqL.of h) (dpAll_of g)
  sh := fun xs => shp_map EncD.sh xs
instance encP {α β : Type} [Enc α] [Enc β] : Enc (α × β) where
  is := fun a H v => ∃ t x y, v = .ref t ∧ H t = some (.tup [x, y]) ∧ Enc.is a.1 H x ∧ Enc.is a.2 H y
  mo := fun ⟨t, x, y, e, h, g1, g2⟩ s => ⟨t, x, y, e, s _ _ h, Enc.mo g1 s, Enc.mo g2 s⟩
instance encDP {α β : Type} [Enc α] [Enc β] [EncD α] [EncD β] : EncD (α × β) where
  dat := fun a => .tuple [EncD.dat a.1, EncD.dat a.2]
  dep := max (EncD.dep α) (EncD.dep β) + 1
  dp := fun ⟨t, x, y, e, h, g1, g2⟩ => by subst e; exact .tup (SqT.of h) (.cons (EncD.dp g1) (.cons (EncD.dp g2) .nil))
  sh := fun a => shp_tuple fun d hd => by
    rcases List.mem_cons.mp hd with rfl | hd
    · exact shp_up (EncD.sh _) (Nat.le_max_left _ _)
    · rw [List.mem_singleton.mp hd]; exact shp_up (EncD.sh _) (Nat.le_max_right _ _)
/-- triples -/
structure T3 (α β γ : Type) where
  a : α
  b : β
  c : γ
  deriving DecidableEq
instance encT3 {α β γ : Type} [Enc α] [Enc β] [Enc γ] : Enc (T3 α β γ) where
  is := fun a H v => ∃ t x y z, v = .ref t ∧ H t = some (.tup [x, y, z]) ∧ Enc.is a.a H x ∧ Enc.is a.b H y ∧ Enc.is a.c H z
  mo := fun ⟨t, x, y, z, e, h, g1, g2, g3⟩ s => ⟨t, x, y, z, e, s _ _ h, Enc.mo g1 s, Enc.mo g2 s, Enc.mo g3 s⟩
instance encDT3 {α β γ : Type} [Enc α] [Enc β] [Enc γ] [EncD α] [EncD β] [EncD γ] : EncD (T3 α β γ) where
  dat := fun a => .tuple [EncD.dat a.a, EncD.dat a.b, EncD.dat a.c]
  dep := max (EncD.dep α) (max (EncD.dep β) (EncD.dep γ)) + 1
  dp := fun ⟨t, x, y, z, e, h, g1, g2, g3⟩ => by subst e; exact .tup (SqT.of h) (.cons (EncD.dp g1) (.cons (EncD.dp g2) (.cons (EncD.dp g3) .nil)))
  sh := fun a => shp_tuple fun d hd => by
    rcases List.mem_cons.mp hd with rfl | hd
    · exact shp_up (EncD.sh _) (Nat.le_max_left _ _)
    · rcases List.mem_cons.mp hd with rfl | hd
      · exact shp_up (EncD.sh _) (Nat.le_trans (Nat.le_max_left _ _) (Nat.le_max_right _ _))
      · rw [List.mem_singleton.mp hd]; exact shp_up (EncD.sh _) (Nat.le_trans (Nat.le_max_right _ _) (Nat.le_max_right _ _))
/-- a tuple of one sort, of any length -/
structure Tp (α : Type) where
  l : List α
  deriving DecidableEq
instance encTp {α : Type} [Enc α] : Enc (Tp α) where
  is := fun xs H v => ∃ l vs, v = .ref l ∧ H l = some (.tup vs) ∧ Al (fun a v => Enc.is a H v) xs.l vs
  mo := fun ⟨l, vs, e, h, g⟩ s => ⟨l, vs, e, s _ _ h, g.mp fun _ _ r => Enc.mo r s⟩
instance encDTp {α : Type} [Enc α] [EncD α] : EncD (Tp α) where
  dat := fun xs => .tuple (xs.l.map EncD.dat)
  dep := EncD.dep α + 1
  dp := fun ⟨l, vs, e, h, g⟩ => by subst e; exact .tup (SqT.of h) (dpAll_of g)
  sh := fun xs => shp_tuple fun d hd => by
    obtain ⟨a, _, rfl⟩ := List.mem_map.mp hd
    exact EncD.sh a
/-- a dict by ints -/
structure Dc (α : Type) where
  m : List (Int × α)
def kvR {α : Type} [Enc α] (H : Hp) (e : Int × α) (kv : Key × V) : Prop := kv.1 = .inl e.1 ∧ Enc.is e.2 H kv.2
instance encDc {α : Type} [Enc α] : Enc (Dc α) where
  is := fun N H v => ∃ d kvs, v = .ref d ∧ H d = some (.dK kvs) ∧ Al (kvR H) N.m kvs
  mo := fun ⟨l, vs, e, h, g⟩ s => ⟨l, vs, e, s _ _ h, g.mp fun _ _ r => ⟨r.1, Enc.mo r.2 s⟩⟩
instance : EncS Int := ⟨fun h => h⟩
instance : EncS Bool := ⟨fun h => h⟩
instance : EncS Unit := ⟨fun h => h⟩
instance {α : Type} [Enc α] [EncS α] : EncS (Option α) := ⟨fun {a H H' v} h => match a, h with
  | none, h => h
  | some a, h => EncS.sc (a := a) h⟩
instance encST {α : Type} [Enc α] [EncS α] : EncT α := ⟨fun _ h => EncS.sc h⟩
instance {α β : Type} [Enc α] [Enc β] [EncT α] [EncT β] : EncT (α × β) := ⟨fun f ⟨t, x, y, e, h, g1, g2⟩ => ⟨t, x, y, e, f _ _ h, EncT.tp f g1, EncT.tp f g2⟩⟩
instance {α β γ : Type} [Enc α] [Enc β] [Enc γ] [EncT α] [EncT β] [EncT γ] : EncT (T3 α β γ) := ⟨fun f ⟨t, x, y, z, e, h, g1, g2, g3⟩ => ⟨t, x, y, z, e, f _ _ h, EncT.tp f g1, EncT.tp f g2, EncT.tp f g3⟩⟩
theorem eqv_bl (a b : Bool) : PyData.eqv (.bool a) (.bool b) = decide (a = b) := by cases a <;> cases b <;> rfl
instance : EncQ Int := ⟨eqv_int⟩
instance : EncQ Bool := ⟨eqv_bl⟩
instance {α : Type} [DecidableEq α] [Enc α] [EncD α] [EncQ α] : EncQ (List α) := ⟨fun a b => eqv_lst EncQ.eqv a b⟩
theorem eqv_tup2 (a b c d : PyData) : PyData.eqv (.tuple [a, b]) (.tuple [c, d]) = (PyData.eqv a c && PyData.eqv b d) := by simp [PyData.eqv, PyData.eqvAll]
theorem eqv_tup3 (a b c d e f : PyData) : PyData.eqv (.tuple [a, b, c]) (.tuple [d, e, f]) = (PyData.eqv a d && (PyData.eqv b e && PyData.eqv c f)) := by simp [PyData.eqv, PyData.eqvAll]
instance {α β : Type} [DecidableEq α] [Enc α] [EncD α] [EncQ α] [DecidableEq β] [Enc β] [EncD β] [EncQ β] : EncQ (α × β) := ⟨fun a b => by
  show PyData.eqv (.tuple [EncD.dat a.1, EncD.dat a.2]) (.tuple [EncD.dat b.1, EncD.dat b.2]) = _
  rw [eqv_tup2, EncQ.eqv, EncQ.eqv, Bool.eq_iff_iff, Bool.and_eq_true, decide_eq_true_eq, decide_eq_true_eq, decide_eq_true_eq]
  exact ⟨fun h => Prod.ext h.1 h.2, fun h => by rw [h]; exact ⟨rfl, rfl⟩⟩⟩
instance {α β γ : Type} [DecidableEq α] [Enc α] [EncD α] [EncQ α] [DecidableEq β] [Enc β] [EncD β] [EncQ β] [DecidableEq γ] [Enc γ] [EncD γ] [EncQ γ] : EncQ (T3 α β γ) := ⟨fun a b => by
  show PyData.eqv (.tuple [EncD.dat a.a, EncD.dat a.b, EncD.dat a.c]) (.tuple [EncD.dat b.a, EncD.dat b.b, EncD.dat b.c]) = _
  rw [eqv_tup3, EncQ.eqv, EncQ.eqv, EncQ.eqv, Bool.eq_iff_iff, Bool.and_eq_true, Bool.and_eq_true, decide_eq_true_eq, decide_eq_true_eq, decide_eq_true_eq, decide_eq_true_eq]
  obtain ⟨x, y, z⟩ := a
  obtain ⟨x', y', z'⟩ := b
  simp⟩
/-- data that stand -/
def Fz {α : Type} [Enc α] (a : α) : As := ⟨fun H v C => C = [] ∧ Enc.is a H v, fun ⟨e, h⟩ s => ⟨e, Enc.mo h s⟩, fun ⟨e, _⟩ c hc => by rw [e] at hc; cases hc⟩
/-- any data that stand -/
def FzD (d : PyData) : As := ⟨fun H v C => C = [] ∧ ∀ K H', Same H H' → Dp K H' v d, fun ⟨e, h⟩ s => ⟨e, fun K H' s' => h K H' (s.trans s')⟩, fun ⟨e, _⟩ c hc => by rw [e] at hc; cases hc⟩
/-- three lists, item by item -/
inductive Al3 (H : Hp) : List As → List V → List (List Cell) → Prop
  | nil : Al3 H [] [] []
  | cons {A : As} {v : V} {C : List Cell} {Bs : List As} {vs : List V} {Cs : List (List Cell)} : A.p H v C → Al3 H Bs vs Cs → Al3 H (A :: Bs) (v :: vs) (C :: Cs)
theorem Al3.mo {H H' : Hp} {Bs : List As} {vs : List V} {Cs : List (List Cell)} (h : Al3 H Bs vs Cs) (s : Same H H') : Al3 H' Bs vs Cs := by
  induction h with
  | nil => exact .nil
  | cons r _ ih => exact .cons (As.mo _ r s) ih
theorem Al3.nt {H : Hp} {Bs : List As} {vs : List V} {Cs : List (List Cell)} (h : Al3 H Bs vs Cs) : ∀ c ∈ Cs.flatten, NT c := by
  induction h with
  | nil => exact fun c hc => nomatch hc
  | cons r _ ih =>
    intro c hc
    rw [List.flatten_cons, List.mem_append] at hc
    exact hc.elim (fun hc => As.nt _ r c hc) (ih c)
theorem Al3.lenV {H : Hp} {Bs : List As} {vs : List V} {Cs : List (List Cell)} (h : Al3 H Bs vs Cs) : vs.length = Bs.length := by
  induction h with
  | nil => rfl
  | cons _ _ ih => simp [ih]
theorem Al3.lenC {H : Hp} {Bs : List As} {vs : List V} {Cs : List (List Cell)} (h : Al3 H Bs vs Cs) : Cs.length = Bs.length := by
  induction h with
  | nil => rfl
  | cons _ _ ih => simp [ih]
theorem Al3.app {H : Hp} {Bs Bs' : List As} {vs vs' : List V} {Cs Cs' : List (List Cell)} (h : Al3 H Bs vs Cs) (h' : Al3 H Bs' vs' Cs') : Al3 H (Bs ++ Bs') (vs ++ vs') (Cs ++ Cs') := by
  induction h with
  | nil => exact h'
  | cons r _ ih => exact .cons r ih
theorem Al3.get {H : Hp} {Bs : List As} {vs : List V} {Cs : List (List Cell)} (h : Al3 H Bs vs Cs) {i : Nat} {A : As} (e : Bs[i]? = some A) : ∃ v C Cs1 Cs2, vs[i]? = some v ∧ Cs = Cs1 ++ C :: Cs2 ∧ Cs1.length = i ∧ A.p H v C := by
  induction h generalizing i with
  | nil => simp at e
  | cons r t ih =>
    cases i with
    | zero => simp at e; subst e; exact ⟨_, _, [], _, rfl, rfl, rfl, r⟩
    | succ i =>
      simp at e
      obtain ⟨v, C, C1, C2, h1, h2, h3, h4⟩ := ih e
      exact ⟨v, C, _ :: C1, C2, by simpa using h1, by rw [h2]; rfl, by simp [h3], h4⟩
theorem Al3.set {H : Hp} {Bs : List As} {vs : List V} {Cs : List (List Cell)} (h : Al3 H Bs vs Cs) {A : As} {v : V} {C : List Cell} (r : A.p H v C) (i : Nat) : Al3 H (Bs.set i A) (vs.set i v) (Cs.set i C) := by
  induction h generalizing i with
  | nil => exact .nil
  | cons q t ih => cases i with
    | zero => exact .cons r t
    | succ i => exact .cons q (ih i)
theorem Al3.fz {α : Type} [Enc α] {H : Hp} {xs : List α} {vs : List V} (h : Al (fun a v => Enc.is a H v) xs vs) : Al3 H (xs.map Fz) vs (xs.map fun _ => []) := by
  induction h with
  | nil => exact .nil
  | cons r _ ih => exact .cons ⟨rfl, r⟩ ih
theorem Al3.fz' {α : Type} [Enc α] {H : Hp} {xs : List α} {vs : List V} {Cs : List (List Cell)} (h : Al3 H (xs.map Fz) vs Cs) : Al (fun a v => Enc.is a H v) xs vs ∧ Cs.flatten = [] := by
  induction xs generalizing vs Cs with
  | nil => cases h; exact ⟨.nil, rfl⟩
  | cons x xs ih =>
    cases h with
    | cons r t =>
      obtain ⟨e, r⟩ := r
      subst e
      exact ⟨.cons r (ih t).1, (ih t).2⟩
theorem flat_none {α : Type} (xs : List α) : (xs.map fun _ => ([] : List Cell)).flatten = [] := by
  induction xs with
  | nil => rfl
  | cons _ _ ih => exact ih
/-- an own list -/
def OwL (Bs : List As) : As where
  p := fun H v C => ∃ (l : Addr) (vs : List V) (Cs : List (List Cell)), v = .ref l ∧ C = (l, HO.lst vs) :: Cs.flatten ∧ Al3 H Bs vs Cs
  mo := fun ⟨l, vs, Cs, e, c, h⟩ s => ⟨l, vs, Cs, e, c, h.mo s⟩
  nt := fun ⟨l, vs, Cs, e, c, h⟩ x hx => by
    rw [c] at hx
    rcases List.mem_cons.mp hx with rfl | hx
    · exact fun xs z => by cases z
    · exact h.nt x hx
/-- an own dict of data -/
def OwD {α : Type} [Enc α] (N : List (Int × α)) : As where
  p := fun H v C => ∃ (d : Addr) (kvs : List (Key × V)), v = .ref d ∧ C = [(d, HO.dK kvs)] ∧ Al (kvR H) N kvs
  mo := fun ⟨l, vs, e, c, h⟩ s => ⟨l, vs, e, c, h.mp fun _ _ r => ⟨r.1, Enc.mo r.2 s⟩⟩
  nt := fun ⟨l, vs, e, c, h⟩ x hx => by
    rw [c] at hx
    rw [List.mem_singleton.mp hx]
    exact fun xs z => by cases z
/-- an own list of data -/
abbrev Ow {α : Type} [Enc α] (xs : List α) : As := OwL (xs.map Fz)
theorem Ow.of {α : Type} [Enc α] {xs : List α} {H : Hp} {l : Addr} {vs : List V} (h : Al (fun a v => Enc.is a H v) xs vs) : (Ow xs).p H (.ref l) [(l, .lst vs)] :=
  ⟨l, vs, _, rfl, by rw [flat_none], Al3.fz h⟩
theorem Ow.to {α : Type} [Enc α] {xs : List α} {H : Hp} {v : V} {C : List Cell} (h : (Ow xs).p H v C) : ∃ l vs, v = .ref l ∧ C = [(l, .lst vs)] ∧ Al (fun a v => Enc.is a H v) xs vs := by
  obtain ⟨l, vs, Cs, e, c, h⟩ := h
  obtain ⟨h1, h2⟩ := h.fz'
  rw [h2] at c
  exact ⟨l, vs, e, c, h1⟩
/-- A may be told as B, once its cells stand -/
def Cv (A B : As) : Prop := ∀ (Hb H : Hp) (v : V) (C : List Cell), A.p Hb v C → Same Hb H → (∀ c ∈ C, H c.1 = some c.2) → B.p H v []
theorem cv_fz {α : Type} [Enc α] {a : α} : Cv (Fz a) (Fz a) := fun _ _ _ _ ⟨_, h⟩ s _ => ⟨rfl, Enc.mo h s⟩
theorem cv_fzD {α : Type} [Enc α] [EncD α] {a : α} : Cv (Fz a) (FzD (EncD.dat a)) := fun _ _ _ _ ⟨_, h⟩ s _ => ⟨rfl, fun K H' s' => EncD.dp (Enc.mo (Enc.mo h s) s')⟩
theorem cv_D {d : PyData} : Cv (FzD d) (FzD d) := fun _ _ _ _ ⟨_, h⟩ s _ => ⟨rfl, fun K H' s' => h K H' (s.trans s')⟩
theorem Al3.cv {α : Type} [Enc α] {Hb H : Hp} : ∀ {Bs : List As} {xs : List α} {vs : List V} {Cs : List (List Cell)}, Al3 Hb Bs vs Cs → Al (fun A a => Cv A (Fz a)) Bs xs → Same Hb H → (∀ c ∈ Cs.flatten, H c.1 = some c.2) → Al (fun a v => Enc.is a H v) xs vs
  | _, _, _, _, .nil, .nil, _, _ => .nil
  | _, _, _, _, .cons r t, .cons q u, s, hc => .cons (q _ _ _ _ r s fun c h => hc c (by rw [List.flatten_cons]; exact List.mem_append_left _ h)).2 (Al3.cv t u s fun c h => hc c (by rw [List.flatten_cons]; exact List.mem_append_right _ h))
theorem cv_owl {α : Type} [Enc α] {Bs : List As} {xs : List α} (h : Al (fun A a => Cv A (Fz a)) Bs xs) : Cv (OwL Bs) (Fz xs) := fun _ _ _ _ ⟨l, vs, Cs, e, c, g⟩ s hc => by
  subst c
  exact ⟨rfl, l, vs, e, hc _ List.mem_cons_self, g.cv h s fun c hm => hc c (List.mem_cons_of_mem _ hm)⟩
theorem cv_ow {α : Type} [Enc α] {xs : List α} : Cv (Ow xs) (Fz xs) := cv_owl (by
  induction xs with
  | nil => exact .nil
  | cons x xs ih => exact .cons cv_fz ih)
theorem cv_owd {α : Type} [Enc α] {N : List (Int × α)} : Cv (OwD N) (Fz (Dc.mk N)) := fun _ _ _ _ ⟨d, kvs, e, c, g⟩ s hc => by
  subst c
  exact ⟨rfl, d, kvs, e, hc _ List.mem_cons_self, g.mp fun _ _ r => ⟨r.1, Enc.mo r.2 s⟩⟩
theorem cv_ow2 {α : Type} [Enc α] {xs : List (List α)} : Cv (OwL (xs.map Ow)) (Fz xs) := cv_owl (by
  induction xs with
  | nil => exact .nil
  | cons x xs ih => exact .cons cv_ow ih)
theorem Al3.cvD {Hb : Hp} : ∀ {Bs : List As} {ds : List PyData} {vs : List V} {Cs : List (List Cell)}, Al3 Hb Bs vs Cs → Al (fun A d => Cv A (FzD d)) Bs ds → ∀ {H : Hp} {K : PySem.W.Frag}, Same Hb H → (∀ c ∈ Cs.flatten, H c.1 = some c.2) → DpAll K H vs ds
  | _, _, _, _, .nil, .nil, _, _, _, _ => .nil
  | _, _, _, _, .cons r t, .cons q u, H, K, s, hc => .cons ((q _ _ _ _ r s fun c h => hc c (by rw [List.flatten_cons]; exact List.mem_append_left _ h)).2 K H (Same.refl _)) (Al3.cvD t u s fun c h => hc c (by rw [List.flatten_cons]; exact List.mem_append_right _ h))
theorem cv_owlD {Bs : List As} {ds : List PyData} (h : Al (fun A d => Cv A (FzD d)) Bs ds) : Cv (OwL Bs) (FzD (.list ds)) := fun _ _ _ _ ⟨l, vs, Cs, e, c, g⟩ s hc => by
  subst c e
  exact ⟨rfl, fun K H' s' => .lst (SqL.of (s' _ _ (hc _ List.mem_cons_self))) (g.cvD h (s.trans s') fun c hm => s' _ _ (hc c (List.mem_cons_of_mem _ hm)))⟩
theorem Cv.dat {A : As} {α : Type} [Enc α] [EncD α] {a : α} (h : Cv A (Fz a)) : Cv A (FzD (EncD.dat a)) := fun _ _ _ _ r s hc => ⟨rfl, fun K H' s' => EncD.dp (Enc.mo (h _ _ _ _ r s hc).2 s')⟩
/-- what leans on tuples alone -/
def TpO (A : As) : Prop := ∀ (H H' : Hp) (v : V) (C : List Cell), (∀ t xs, H t = some (.tup xs) → H' t = some (.tup xs)) → A.p H v C → A.p H' v C
theorem tpo_fz {α : Type} [Enc α] [EncT α] {a : α} : TpO (Fz a) := fun _ _ _ _ f ⟨e, h⟩ => ⟨e, EncT.tp f h⟩
theorem Al3.tpo {H H' : Hp} {Bs : List As} {vs : List V} {Cs : List (List Cell)} (g : Al3 H Bs vs Cs) (h : ∀ A ∈ Bs, TpO A) (f : ∀ t xs, H t = some (.tup xs) → H' t = some (.tup xs)) : Al3 H' Bs vs Cs := by
  induction g with
  | nil => exact .nil
  | cons r t ih => exact .cons (h _ List.mem_cons_self _ _ _ _ f r) (ih fun A hA => h A (List.mem_cons_of_mem _ hA))
theorem tpo_owl {Bs : List As} (h : ∀ A ∈ Bs, TpO A) : TpO (OwL Bs) := fun H H' v C f ⟨l, vs, Cs, e, c, g⟩ => ⟨l, vs, Cs, e, c, g.tpo h f⟩
theorem tpo_ow {α : Type} [Enc α] [EncT α] {xs : List α} : TpO (Ow xs) := tpo_owl fun A hA => by
  obtain ⟨a, _, rfl⟩ := List.mem_map.mp hA
  exact tpo_fz
theorem tpo_ow2 {α : Type} [Enc α] [EncT α] {xs : List (List α)} : TpO (OwL (xs.map Ow)) := tpo_owl fun A hA => by
  obtain ⟨a, _, rfl⟩ := List.mem_map.mp hA
  exact tpo_ow
/-! ### names and what they hold -/
abbrev Env := List (Option As)
inductive EnvOk (Hb : Hp) : Env → L2.St → List (List Cell) → Prop
  | nil : EnvOk Hb [] [] []
  | no {Γ : Env} {σ : L2.St} {Cs : List (List Cell)} (x : Option V) : EnvOk Hb Γ σ Cs → EnvOk Hb (none :: Γ) (x :: σ) ([] :: Cs)
  | so {Γ : Env} {σ : L2.St} {Cs : List (List Cell)} {A : As} {v : V} {C : List Cell} : A.p Hb v C → EnvOk Hb Γ σ Cs → EnvOk Hb (some A :: Γ) (some v :: σ) (C :: Cs)
section
variable {Hb Hb' : Hp} {Γ : Env} {σ : L2.St} {Cs : List (List Cell)}
theorem EnvOk.mo (h : EnvOk Hb Γ σ Cs) (s : Same Hb Hb') : EnvOk Hb' Γ σ Cs := by
  induction h with
  | nil => exact .nil
  | no x _ ih => exact .no x ih
  | so r _ ih => exact .so (As.mo _ r s) ih
theorem EnvOk.nt (h : EnvOk Hb Γ σ Cs) : ∀ c ∈ Cs.flatten, NT c := by
  induction h with
  | nil => exact fun c hc => nomatch hc
  | no x _ ih => exact ih
  | so r _ ih =>
    intro c hc
    rw [List.flatten_cons, List.mem_append] at hc
    exact hc.elim (fun hc => As.nt _ r c hc) (ih c)
theorem EnvOk.get (h : EnvOk Hb Γ σ Cs) {i : Nat} {A : As} (e : Γ[i]? = some (some A)) : ∃ v C Cs1 Cs2, σ[i]? = some (some v) ∧ Cs = Cs1 ++ C :: Cs2 ∧ Cs1.length = i ∧ A.p Hb v C := by
  induction h generalizing i with
  | nil => simp at e
  | no x t ih =>
    cases i with
    | zero => simp at e
    | succ i =>
      simp at e
      obtain ⟨v, C, C1, C2, h1, h2, h3, h4⟩ := ih e
      exact ⟨v, C, _ :: C1, C2, by simpa using h1, by rw [h2]; rfl, by simp [h3], h4⟩
  | so r t ih =>
    cases i with
    | zero => simp at e; subst e; exact ⟨_, _, [], _, rfl, rfl, rfl, r⟩
    | succ i =>
      simp at e
      obtain ⟨v, C, C1, C2, h1, h2, h3, h4⟩ := ih e
      exact ⟨v, C, _ :: C1, C2, by simpa using h1, by rw [h2]; rfl, by simp [h3], h4⟩
theorem EnvOk.set (h : EnvOk Hb Γ σ Cs) {A : As} {v : V} {C : List Cell} (r : A.p Hb v C) (i : Nat) : EnvOk Hb (Γ.set i (some A)) (σ.set i (some v)) (Cs.set i C) := by
  induction h generalizing i with
  | nil => exact .nil
  | no x t ih => cases i with
    | zero => exact .so r t
    | succ i => exact .no x (ih i)
  | so q t ih => cases i with
    | zero => exact .so r t
    | succ i => exact .so q (ih i)
/-- a name is told otherwise, its value stays -/
theorem EnvOk.put (h : EnvOk Hb Γ σ Cs) {A : As} {v : V} {C : List Cell} {i : Nat} (e : σ[i]? = some (some v)) (r : A.p Hb v C) : EnvOk Hb (Γ.set i (some A)) σ (Cs.set i C) := by
  have := h.set r i
  rwa [show σ.set i (some v) = σ from by
    refine List.ext_getElem? fun j => ?_
    by_cases hj : i = j
    · subst hj
      rw [List.getElem?_set_self (lt_of_get e), e]
    · rw [List.getElem?_set_ne hj]] at this
/-- a name is let go -/
theorem EnvOk.off (h : EnvOk Hb Γ σ Cs) (i : Nat) : EnvOk Hb (Γ.set i none) σ (Cs.set i []) := by
  induction h generalizing i with
  | nil => exact .nil
  | no x t ih => cases i with
    | zero => exact .no x t
    | succ i => exact .no x (ih i)
  | so q t ih => cases i with
    | zero => exact .no _ t
    | succ i => exact .so q (ih i)
/-- a name's value is whatever -/
theorem EnvOk.wip (h : EnvOk Hb Γ σ Cs) (i : Nat) (x : Option V) : EnvOk Hb (Γ.set i none) (σ.set i x) (Cs.set i []) := by
  induction h generalizing i with
  | nil => exact .nil
  | no y t ih => cases i with
    | zero => exact .no x t
    | succ i => exact .no y (ih i)
  | so q t ih => cases i with
    | zero => exact .no _ t
    | succ i => exact .so q (ih i)
end
/-- flatten, a piece set -/
theorem flat_set {Cs : List (List Cell)} {i : Nat} {C : List Cell} : ∃ B : List Cell, (Cs.set i C).flatten.Sublist (C ++ Cs.flatten) ∨ True := ⟨[], .inr trivial⟩
theorem flat_set_perm : ∀ {Cs : List (List Cell)} {i : Nat} {C D : List Cell}, Cs[i]? = some D → ∃ R : List Cell, Cs.flatten.Perm (D ++ R) ∧ (Cs.set i C).flatten.Perm (C ++ R)
  | [], i, C, D, e => by simp at e
  | B :: Cs, 0, C, D, e => by
    simp at e; subst e
    exact ⟨Cs.flatten, List.Perm.refl _, List.Perm.refl _⟩
  | B :: Cs, i + 1, C, D, e => by
    simp at e
    obtain ⟨R, h1, h2⟩ := flat_set_perm (C := C) e
    refine ⟨B ++ R, ?_, ?_⟩
    · rw [List.flatten_cons]
      exact (h1.append_left B).trans (by rw [← List.append_assoc, ← List.append_assoc]; exact List.perm_append_comm.append_right _)
    · rw [List.set_cons_succ, List.flatten_cons]
      exact (h2.append_left B).trans (by rw [← List.append_assoc, ← List.append_assoc]; exact List.perm_append_comm.append_right _)
/-- the state: Hs and what stands (F) are read; G and all it holds stays; X and the names' cells (Cs) are own -/
structure Iv (Hs G : Hp) (Γ : Env) (σ : L2.St) (H : Hp) (F X : List Cell) (Cs : List (List Cell)) : Prop where
  ls : Same Hs G
  lo : Lo G H (F ++ (X ++ Cs.flatten))
  ok : EnvOk (plus Hs F) Γ σ Cs
  nx : ∀ c ∈ X, NT c
section
variable {Hs G : Hp} {Γ : Env} {σ : L2.St} {H H' : Hp} {F F2 X C : List Cell} {Cs : List (List Cell)}
theorem plus_plus (Hs : Hp) (F F2 : List Cell) : plus (plus Hs F) F2 = plus Hs (F2 ++ F) := by
  funext a
  unfold plus
  rw [List.lookup_append]
  cases F2.lookup a with
  | some o => rfl
  | none => rfl
theorem Iv.loF (I : Iv Hs G Γ σ H F X Cs) : Lo G H F := I.lo.sub (List.sublist_append_left _ _)
theorem Iv.b (I : Iv Hs G Γ σ H F X Cs) : Same (plus Hs F) H := I.loF.pLe I.ls
theorem Iv.up {X' : List Cell} {Cs' : List (List Cell)} {Γ' : Env} {σ' : L2.St} (I : Iv Hs G Γ' σ' H (F2 ++ F) X' Cs') : Same (plus Hs F) (plus Hs (F2 ++ F)) := I.loF.pUp I.ls fun c hc => List.mem_append_right _ hc
/-- cells are made, the rest stays -/
theorem Iv.ext (I : Iv Hs G Γ σ H F X Cs) (L : Lo H H' (F2 ++ C)) (hc : ∀ c ∈ C, NT c) : Iv Hs G Γ σ H' (F2 ++ F) (C ++ X) Cs := by
  have L2 := I.lo.ca L
  have L3 : Lo G H' ((F2 ++ F) ++ ((C ++ X) ++ Cs.flatten)) := L2.pk [F2, C, F, X, Cs.flatten] [0, 1, 2, 3, 4] [0, 2, 1, 3, 4]
  refine ⟨I.ls, L3, I.ok.mo ((L3.sub (List.sublist_append_left _ _)).pUp I.ls fun c hc => List.mem_append_right _ hc), fun c h => ?_⟩
  exact (List.mem_append.mp h).elim (hc c) (I.nx c)
theorem Iv.sm (I : Iv Hs G Γ σ H F X Cs) (s : Same H H') : Iv Hs G Γ σ H' F X Cs := ⟨I.ls, I.lo.cs s, I.ok, I.nx⟩
theorem Iv.al (I : Iv Hs G Γ σ H F X Cs) {p : Addr} (hp : H p = none) (o : HO) (ho : ∀ xs, o ≠ HO.tup xs) : Iv Hs G Γ σ (upd H p o) F ((p, o) :: X) Cs := by
  have := I.ext (F2 := []) (C := [(p, o)]) (H' := upd H p o) ((Lo.nil H).al hp o) (fun c hc => by rw [List.mem_singleton.mp hc]; exact ho)
  exact this
theorem Iv.alF (I : Iv Hs G Γ σ H F X Cs) {p : Addr} (hp : H p = none) (o : HO) : Iv Hs G Γ σ (upd H p o) ((p, o) :: F) X Cs := by
  have := I.ext (F2 := [(p, o)]) (C := []) (H' := upd H p o) ((Lo.nil H).al hp o) (fun c hc => nomatch hc)
  exact this
theorem Iv.drop (I : Iv Hs G Γ σ H F (C ++ X) Cs) : Iv Hs G Γ σ H F X Cs :=
  ⟨I.ls, I.lo.pk [F, C, X, Cs.flatten] [0, 1, 2, 3] [0, 2, 3] [1], I.ok, fun c h => I.nx c (List.mem_append_right _ h)⟩
theorem Iv.frz (I : Iv Hs G Γ σ H F (C ++ X) Cs) : Iv Hs G Γ σ H (C ++ F) X Cs := by
  have L : Lo G H ((C ++ F) ++ (X ++ Cs.flatten)) := I.lo.pk [F, C, X, Cs.flatten] [0, 1, 2, 3] [1, 0, 2, 3]
  exact ⟨I.ls, L, I.ok.mo ((L.sub (List.sublist_append_left _ _)).pUp I.ls fun c hc => List.mem_append_right _ hc), fun c h => I.nx c (List.mem_append_right _ h)⟩
theorem Iv.gX (I : Iv Hs G Γ σ H F X Cs) {c : Cell} (h : c ∈ X) : H c.1 = some c.2 := I.lo.get (List.mem_append_right _ (List.mem_append_left _ h))
theorem Iv.gC (I : Iv Hs G Γ σ H F X Cs) {c : Cell} (h : c ∈ Cs.flatten) : H c.1 = some c.2 := I.lo.get (List.mem_append_right _ (List.mem_append_right _ h))
/-- a value goes into a name -/
theorem Iv.set (I : Iv Hs G Γ σ H F (C ++ X) Cs) {A : As} {v : V} (r : A.p (plus Hs F) v C) (i : Nat) : Iv Hs G (Γ.set i (some A)) (σ.set i (some v)) H F X (Cs.set i C) := by
  refine ⟨I.ls, ?_, I.ok.set r i, fun c h => I.nx c (List.mem_append_right _ h)⟩
  cases e : Cs[i]? with
  | none =>
    rw [List.set_eq_of_length_le (by exact List.getElem?_eq_none_iff.mp e)]
    exact I.drop.lo
  | some D =>
    obtain ⟨R, h1, h2⟩ := flat_set_perm (C := C) e
    have L1 : Lo G H (F ++ ((C ++ X) ++ (D ++ R))) := I.lo.perm ((h1.append_left _).append_left _)
    have L2 : Lo G H (F ++ (X ++ (C ++ R))) := L1.pk [F, C, X, D, R] [0, 1, 2, 3, 4] [0, 2, 1, 4] [3]
    exact L2.perm ((h2.symm.append_left _).append_left _)
/-- a name's value is told otherwise -/
theorem Iv.put (I : Iv Hs G Γ σ H F (C ++ X) Cs) {A : As} {v : V} {i : Nat} (e : σ[i]? = some (some v)) (r : A.p (plus Hs F) v C) : Iv Hs G (Γ.set i (some A)) σ H F X (Cs.set i C) := by
  have := I.set r i
  rwa [show σ.set i (some v) = σ from by
    refine List.ext_getElem? fun j => ?_
    by_cases hj : i = j
    · subst hj
      rw [List.getElem?_set_self (lt_of_get e), e]
    · rw [List.getElem?_set_ne hj]] at this
/-- a name's cells are taken out -/
theorem Iv.out (I : Iv Hs G Γ σ H F X Cs) {A : As} {i : Nat} (e : Γ[i]? = some (some A)) : ∃ v C, σ[i]? = some (some v) ∧ A.p (plus Hs F) v C ∧ Iv Hs G (Γ.set i none) σ H F (C ++ X) (Cs.set i []) := by
  obtain ⟨v, C, C1, C2, h1, h2, h3, h4⟩ := I.ok.get e
  refine ⟨v, C, h1, h4, I.ls, ?_, I.ok.off i, fun c h => (List.mem_append.mp h).elim (As.nt _ h4 c) (I.nx c)⟩
  have eC : Cs[i]? = some C := by rw [h2, ← h3]; simp
  obtain ⟨R, g1, g2⟩ := flat_set_perm (C := []) eC
  have L1 : Lo G H (F ++ (X ++ (C ++ R))) := I.lo.perm ((g1.append_left _).append_left _)
  have L2 : Lo G H (F ++ ((C ++ X) ++ R)) := L1.pk [F, X, C, R] [0, 1, 2, 3] [0, 2, 1, 3]
  exact L2.perm ((g2.symm.append_left _).append_left _)
theorem Iv.off (I : Iv Hs G Γ σ H F X Cs) (i : Nat) : Iv Hs G (Γ.set i none) σ H F X (Cs.set i []) := by
  refine ⟨I.ls, ?_, I.ok.off i, I.nx⟩
  cases e : Cs[i]? with
  | none =>
    rw [List.set_eq_of_length_le (by exact List.getElem?_eq_none_iff.mp e)]
    exact I.lo
  | some D =>
    obtain ⟨R, h1, h2⟩ := flat_set_perm (C := []) e
    have L1 : Lo G H (F ++ (X ++ (D ++ R))) := I.lo.perm ((h1.append_left _).append_left _)
    have L2 : Lo G H (F ++ (X ++ R)) := L1.pk [F, X, D, R] [0, 1, 2, 3] [0, 1, 3] [2]
    exact L2.perm ((h2.symm.append_left _).append_left _)
theorem Iv.wip (I : Iv Hs G Γ σ H F X Cs) (i : Nat) (x : Option V) : Iv Hs G (Γ.set i none) (σ.set i x) H F X (Cs.set i []) :=
  ⟨I.ls, (I.off i).lo, I.ok.wip i x, I.nx⟩
end
end Cc

namespace Cc
open PySem L2
/-! tables by people, in their order -/
section
variable {α β : Type}
def gVal (M : List (Int × α)) (k : Int) : Option α := (M.find? fun e => decide (e.1 = k)).map (·.2)
def gPut (M : List (Int × α)) (k : Int) (a : α) : List (Int × α) := if (M.any fun e => decide (e.1 = k)) = true then M.map (fun e => if e.1 = k then (e.1, a) else e) else M ++ [(k, a)]
theorem gVal_map (f : α → β) (M : List (Int × α)) (k : Int) : gVal (M.map fun e => (e.1, f e.2)) k = (gVal M k).map f := by
  unfold gVal
  rw [List.find?_map]
  cases h : M.find? ((fun e : Int × β => decide (e.1 = k)) ∘ fun e : Int × α => (e.1, f e.2)) with
  | none =>
    have : M.find? (fun e => decide (e.1 = k)) = none := h
    rw [this]; rfl
  | some e =>
    have : M.find? (fun e => decide (e.1 = k)) = some e := h
    rw [this]; rfl
theorem gPut_map (f : α → β) (M : List (Int × α)) (k : Int) (a : α) : gPut (M.map fun e => (e.1, f e.2)) k (f a) = (gPut M k a).map fun e => (e.1, f e.2) := by
  unfold gPut
  rw [List.any_map]
  have e : ((fun e : Int × β => decide (e.1 = k)) ∘ fun e : Int × α => (e.1, f e.2)) = fun e : Int × α => decide (e.1 = k) := rfl
  rw [e]
  split
  · rw [List.map_map, List.map_map]
    refine List.map_congr_left fun x _ => ?_
    show (if x.1 = k then (x.1, f a) else (x.1, f x.2)) = ((if x.1 = k then (x.1, a) else x).1, f (if x.1 = k then (x.1, a) else x).2)
    split <;> rfl
  · simp
theorem gPut_keys (M : List (Int × α)) (k : Int) (a : α) : (gPut M k a).map (·.1) = if k ∈ M.map (·.1) then M.map (·.1) else M.map (·.1) ++ [k] := by
  unfold gPut
  have e : (M.any fun e => decide (e.1 = k)) = true ↔ k ∈ M.map (·.1) := by
    rw [List.any_eq_true, List.mem_map]
    exact ⟨fun ⟨x, h1, h2⟩ => ⟨x, h1, of_decide_eq_true h2⟩, fun ⟨x, h1, h2⟩ => ⟨x, h1, decide_eq_true h2⟩⟩
  by_cases h : k ∈ M.map (·.1)
  · rw [if_pos (e.mpr h), if_pos h, List.map_map]
    refine List.map_congr_left fun x _ => ?_
    show (if x.1 = k then (x.1, a) else x).1 = x.1
    split <;> rfl
  · rw [if_neg (fun z => h (e.mp z)), if_neg h]
    simp
theorem gVal_cons (e : Int × α) (M : List (Int × α)) (j : Int) : gVal (e :: M) j = if e.1 = j then some e.2 else gVal M j := by
  unfold gVal
  rw [List.find?_cons]
  by_cases h : e.1 = j
  · simp [h]
  · simp [h]
theorem gVal_none {M : List (Int × α)} {k : Int} : gVal M k = none ↔ k ∉ M.map (·.1) := by
  induction M with
  | nil => simp [gVal]
  | cons e M ih =>
    rw [gVal_cons, List.map_cons, List.mem_cons]
    by_cases h : e.1 = k
    · rw [if_pos h]; simp [h]
    · rw [if_neg h, ih]
      exact ⟨fun z w => w.elim (fun w => h w.symm) z, fun z w => z (.inr w)⟩
theorem gVal_append (M : List (Int × α)) (k j : Int) (a : α) : gVal (M ++ [(k, a)]) j = if (gVal M j).isSome then gVal M j else if j = k then some a else none := by
  induction M with
  | nil =>
    rw [List.nil_append, gVal_cons]
    by_cases h : k = j
    · subst h; simp [gVal]
    · have : ¬ j = k := fun z => h z.symm
      simp [gVal, h, this]
  | cons e M ih =>
    rw [List.cons_append, gVal_cons, gVal_cons, ih]
    by_cases h : e.1 = j
    · simp [h]
    · simp [h]
theorem gVal_put (M : List (Int × α)) (k j : Int) (a : α) : gVal (gPut M k a) j = if j = k then some a else gVal M j := by
  by_cases h : k ∈ M.map (·.1)
  · have e : (M.any fun e => decide (e.1 = k)) = true := by
      rw [List.any_eq_true]
      obtain ⟨x, h1, h2⟩ := List.mem_map.mp h
      exact ⟨x, h1, decide_eq_true h2⟩
    unfold gPut
    rw [if_pos e]
    clear e
    induction M with
    | nil => cases h
    | cons e M ih =>
      rw [List.map_cons, gVal_cons, gVal_cons]
      by_cases h1 : e.1 = k
      · rw [if_pos h1]
        by_cases h2 : e.1 = j
        · rw [if_pos h2, if_pos (h2.symm.trans h1)]
        · rw [if_neg h2, if_neg (fun z => h2 (h1.trans z.symm)), if_neg h2]
          by_cases h3 : k ∈ M.map (·.1)
          · rw [ih h3, if_neg (fun z => h2 (h1.trans z.symm))]
          · have : M.map (fun e => if e.1 = k then (e.1, a) else e) = M := by
              conv => rhs; rw [← List.map_id M]
              refine List.map_congr_left fun x hx => ?_
              rw [if_neg fun z => h3 (List.mem_map.mpr ⟨x, hx, z⟩)]
              rfl
            rw [this]
      · rw [if_neg h1]
        have h3 : k ∈ M.map (·.1) := by
          rcases List.mem_cons.mp h with z | z
          · exact absurd z.symm h1
          · exact z
        by_cases h2 : e.1 = j
        · rw [if_pos h2, if_pos h2, if_neg (fun z => h1 (h2.trans z))]
        · rw [if_neg h2, if_neg h2, ih h3]
  · have e : ¬ (M.any fun e => decide (e.1 = k)) = true := fun z => by
      rw [List.any_eq_true] at z
      obtain ⟨x, h1, h2⟩ := z
      exact h (List.mem_map.mpr ⟨x, h1, of_decide_eq_true h2⟩)
    unfold gPut
    rw [if_neg e, gVal_append]
    by_cases h2 : j = k
    · subst h2
      rw [gVal_none.mpr h]
      simp
    · rw [if_neg h2, if_neg h2]
      cases gVal M j <;> rfl
end
/-- a table on the heap: k, the row's address, the row -/
def kvsOf (M : List (Int × Addr × List Int)) : List (Key × V) := M.map fun e => (.inl e.1, .ref e.2.1)
theorem kvs_val (M : List (Int × Addr × List Int)) (k : Int) : valV (kvsOf M) (.inl k) = (gVal M k).map fun e => .ref e.1 := by
  induction M with
  | nil => rfl
  | cons e M ih =>
    unfold kvsOf at ih ⊢
    rw [List.map_cons, gVal_cons]
    by_cases h : e.1 = k
    · rw [if_pos h, valV_pos (by rw [h])]; rfl
    · rw [if_neg h, valV_neg (fun z => h (Sum.inl.inj z)), ih]
theorem kvs_put (M : List (Int × Addr × List Int)) (k : Int) (q : Addr) (r : List Int) : putK (kvsOf M) (.inl k) (.ref q) = kvsOf (gPut M k (q, r)) := by
  unfold putK gPut kvsOf
  rw [List.any_map]
  have e : ((fun kv : Key × V => decide (kv.1 = .inl k)) ∘ fun e : Int × Addr × List Int => ((Sum.inl e.1 : Key), V.ref e.2.1)) = fun e : Int × Addr × List Int => decide (e.1 = k) := by
    funext e
    show decide ((Sum.inl e.1 : Key) = Sum.inl k) = decide (e.1 = k)
    by_cases h : e.1 = k
    · simp [h]
    · rw [decide_eq_false h, decide_eq_false fun z => h (Sum.inl.inj z)]
  rw [e]
  split
  · rw [List.map_map, List.map_map]
    refine List.map_congr_left fun x _ => ?_
    show (if (Sum.inl x.1 : Key) = Sum.inl k then ((Sum.inl x.1 : Key), V.ref q) else (Sum.inl x.1, V.ref x.2.1)) = ((Sum.inl (if x.1 = k then (x.1, (q, r)) else x).1 : Key), V.ref (if x.1 = k then (x.1, (q, r)) else x).2.1)
    by_cases h : x.1 = k
    · rw [if_pos h, if_pos (by rw [h])]
    · rw [if_neg h, if_neg fun z => h (Sum.inl.inj z)]
  · simp
end Cc

namespace Cc
open PySem L2
theorem Lo.pGc {H H1 H2 : Hp} {C : List Cell} (L : Lo H1 H2 C) {c : Cell} (h : c ∈ C) : plus H C c.1 = some c.2 := by
  unfold plus
  rw [lookup_of L.nd h]
/-! expressions -/
/-- te gives what A tells; the names hold Γ' then -/
def Ev (te : TE) (Γ Γ' : Env) (A : As) : Prop := ∀ (Hs G : Hp) (σ : L2.St) (H : Hp) (F X : List Cell) (Cs : List (List Cell)), Iv Hs G Γ σ H F X Cs →
  Vr te σ H (fun v H' => ∃ F2 C Cs', Iv Hs G Γ' σ H' (F2 ++ F) (C ++ X) Cs' ∧ A.p (plus Hs (F2 ++ F)) v C)
def Et (tt : TT) (Γ Γ' : Env) (b : Bool) : Prop := ∀ (Hs G : Hp) (σ : L2.St) (H : Hp) (F X : List Cell) (Cs : List (List Cell)), Iv Hs G Γ σ H F X Cs →
  ∀ Q : Bool → Hp → Prop, (∀ H' F2 Cs', Iv Hs G Γ' σ H' (F2 ++ F) X Cs' → Q b H') → tt σ H Q
def Ea (ta : TA) (Γ Γ' : Env) (Bs : List As) : Prop := ∀ (Hs G : Hp) (σ : L2.St) (H : Hp) (F X : List Cell) (Cs : List (List Cell)), Iv Hs G Γ σ H F X Cs →
  ∀ Q : List V → Hp → Prop, (∀ vs H' F2 Cs0 Cs', Iv Hs G Γ' σ H' (F2 ++ F) (Cs0.flatten ++ X) Cs' → Al3 (plus Hs (F2 ++ F)) Bs vs Cs0 → Q vs H') → ta σ H Q
section
variable {te ta tb tc : TE} {tt tu : TT} {tr : TA} {Γ Γ1 Γ2 Γ3 Γ' : Env} {A B : As} {Hs G : Hp} {σ : L2.St} {H H' : Hp} {F F2 X C : List Cell} {Cs : List (List Cell)} {K : PySem.W.Frag}
theorem Iv.px {X' : List Cell} (I : Iv Hs G Γ σ H F X Cs) (h : X.Perm X') : Iv Hs G Γ σ H F X' Cs :=
  ⟨I.ls, I.lo.perm ((h.append_right _).append_left _), I.ok, fun c hc => I.nx c (h.mem_iff.mpr hc)⟩
/-- a name that stands -/
theorem ev_var {α : Type} {_ : Enc α} {a : α} {i : Nat} (e : Γ[i]? = some (some (Fz a))) : Ev (tVar i) Γ Γ (Fz a) := fun Hs G σ H F X Cs I Q q => by
  obtain ⟨v, C, C1, C2, h1, h2, h3, h4⟩ := I.ok.get e
  obtain ⟨h4, h5⟩ := h4
  subst h4
  exact ⟨v, h1, q _ _ ⟨[], [], Cs, I, rfl, h5⟩⟩
/-- a name's own thing is handed on, the name let go -/
theorem ev_mv {i : Nat} (e : Γ[i]? = some (some A)) : Ev (tVar i) Γ (Γ.set i none) A := fun Hs G σ H F X Cs I Q q => by
  obtain ⟨v, C, h1, h2, h3⟩ := I.out e
  exact ⟨v, h1, q _ _ ⟨[], C, _, h3, h2⟩⟩
/-- anything that stands and has no cells -/
theorem ev_same {i : Nat} (e : Γ[i]? = some (some A)) (z : ∀ H v C, A.p H v C → C = []) : Ev (tVar i) Γ Γ A := fun Hs G σ H F X Cs I Q q => by
  obtain ⟨v, C, C1, C2, h1, h2, h3, h4⟩ := I.ok.get e
  have := z _ _ _ h4
  subst this
  exact ⟨v, h1, q _ _ ⟨[], [], Cs, I, h4⟩⟩
theorem ev_int {i : Int} : Ev (tC (.int i)) Γ Γ (Fz i) := fun Hs G σ H F X Cs I Q q => q _ _ ⟨[], [], Cs, I, rfl, rfl⟩
theorem ev_bl {b : Bool} : Ev (tC (.bl b)) Γ Γ (Fz b) := fun Hs G σ H F X Cs I Q q => q _ _ ⟨[], [], Cs, I, rfl, rfl⟩
theorem ev_non {α : Type} {_ : Enc α} : Ev (tC .non) Γ Γ (Fz (none : Option α)) := fun Hs G σ H F X Cs I Q q => q _ _ ⟨[], [], Cs, I, rfl, rfl⟩
/-- its cells are let stand -/
theorem ev_frz (h : Ev te Γ Γ' A) (c : Cv A B) : Ev te Γ Γ' B := fun Hs G σ H F X Cs I Q q => h Hs G σ H F X Cs I Q fun v H' ⟨F2, C, Cs', I2, r⟩ => by
  have I3 := I2.frz
  have L : Lo G H' (C ++ (F2 ++ F)) := I3.loF
  refine q v H' ⟨C ++ F2, [], Cs', by rw [List.append_assoc]; exact I3, ?_⟩
  rw [List.append_assoc]
  exact c _ _ _ _ r (L.pUp I.ls fun c hc => List.mem_append_right _ hc) fun c hc => L.pGc (List.mem_append_left _ hc)
theorem ev_to (h : Ev te Γ Γ' A) (e : A = B) : Ev te Γ Γ' B := e ▸ h
theorem ev_eq {α : Type} {_ : Enc α} {a b : α} (h : Ev te Γ Γ' (Fz a)) (e : a = b) : Ev te Γ Γ' (Fz b) := e ▸ h
theorem et_eq {a b : Bool} (h : Et tt Γ Γ' a) (e : a = b) : Et tt Γ Γ' b := e ▸ h
theorem ev_fr {α : Type} {_ : Enc α} {xs : List α} (h : Ev te Γ Γ' (Ow xs)) : Ev te Γ Γ' (Fz xs) := ev_frz h cv_ow
theorem ev_fr2 {α : Type} {_ : Enc α} {xs : List (List α)} (h : Ev te Γ Γ' (OwL (xs.map Ow))) : Ev te Γ Γ' (Fz xs) := ev_frz h cv_ow2
/-! borrowed: own things read as if they stood -/
inductive Brw : Env → Env → Prop
  | nil : Brw [] []
  | no {Γ Γ' : Env} (x : Option As) : Brw Γ Γ' → Brw (x :: Γ) (none :: Γ')
  | so {Γ Γ' : Env} {A B : As} : Cv A B → Brw Γ Γ' → Brw (some A :: Γ) (some B :: Γ')
theorem Brw.ok (b : Brw Γ Γ') {Hb Hb' : Hp} (h : EnvOk Hb Γ σ Cs) (s : Same Hb Hb') (hc : ∀ c ∈ Cs.flatten, Hb' c.1 = some c.2) : EnvOk Hb' Γ' σ (Γ'.map fun _ => []) := by
  induction b generalizing σ Cs with
  | nil => cases h; exact .nil
  | no x _ ih =>
    cases h with
    | no y h => exact .no _ (ih h hc)
    | so r h => exact .no _ (ih h fun c m => hc c (by rw [List.flatten_cons]; exact List.mem_append_right _ m))
  | so c _ ih =>
    cases h with
    | so r h => exact .so (c _ _ _ _ r s fun c m => hc c (by rw [List.flatten_cons]; exact List.mem_append_left _ m)) (ih h fun c m => hc c (by rw [List.flatten_cons]; exact List.mem_append_right _ m))
theorem Iv.brw (b : Brw Γ Γ') (I : Iv Hs G Γ σ H F X Cs) : Iv Hs G Γ' σ H (F ++ (X ++ Cs.flatten)) [] (Γ'.map fun _ => []) := by
  have e : (F ++ (X ++ Cs.flatten)) ++ ([] ++ (Γ'.map fun _ => ([] : List Cell)).flatten) = F ++ (X ++ Cs.flatten) := by rw [flat_none]; simp
  refine ⟨I.ls, by rw [e]; exact I.lo, b.ok I.ok (I.lo.pUp I.ls fun c hc => List.mem_append_left _ hc) fun c hc => I.lo.pGc (List.mem_append_right _ (List.mem_append_right _ hc)), fun c hc => nomatch hc⟩
theorem lookup_nt {F2 Y : List Cell} (hY : ∀ c ∈ Y, NT c) {Hs : Hp} : ∀ t xs, plus Hs (F2 ++ (F ++ Y)) t = some (.tup xs) → plus Hs (F2 ++ F) t = some (.tup xs) := fun t xs h => by
  rw [← List.append_assoc] at h
  unfold plus at h ⊢
  rw [List.lookup_append] at h
  cases e : (F2 ++ F).lookup t with
  | some o => rw [e] at h; exact h
  | none =>
    rw [e] at h
    cases e2 : Y.lookup t with
    | none => rw [e2] at h; exact h
    | some o =>
      rw [e2] at h
      have : o = .tup xs := by simpa using h
      exact absurd this (hY _ (lookup_mem e2) xs)
theorem Iv.unb {Γ'' : Env} {Cs' : List (List Cell)} (I : Iv Hs G Γ σ H F X Cs) (I2 : Iv Hs G Γ'' σ H' (F2 ++ (F ++ (X ++ Cs.flatten))) (C ++ []) Cs') : Iv Hs G Γ σ H' (F2 ++ F) (C ++ X) Cs := by
  have L : Lo G H' ((F2 ++ F) ++ ((C ++ X) ++ Cs.flatten)) := I2.lo.pk [F2, F, X, Cs.flatten, C, Cs'.flatten] [0, 1, 2, 3, 4, 5] [0, 1, 4, 2, 3] [5]
  exact ⟨I.ls, L, I.ok.mo ((L.sub (List.sublist_append_left _ _)).pUp I.ls fun c hc => List.mem_append_right _ hc), fun c h => (List.mem_append.mp h).elim (fun h => I2.nx c (List.mem_append_left _ h)) (I.nx c)⟩
theorem Iv.ntX (I : Iv Hs G Γ σ H F X Cs) : ∀ c ∈ X ++ Cs.flatten, NT c := fun c h => (List.mem_append.mp h).elim (I.nx c) (I.ok.nt c)
theorem ev_brw (b : Brw Γ Γ') (tp : TpO A) (h : Ev te Γ' Γ2 A) : Ev te Γ Γ A := fun Hs G σ H F X Cs I Q q => h Hs G σ H _ _ _ (I.brw b) Q fun v H' ⟨F2, C, Cs', I2, r⟩ =>
  q v H' ⟨F2, C, Cs, I.unb I2, tp _ _ _ _ (lookup_nt I.ntX) r⟩
theorem et_brw {k : Bool} (b : Brw Γ Γ') (h : Et tt Γ' Γ2 k) : Et tt Γ Γ k := fun Hs G σ H F X Cs I Q q => h Hs G σ H _ _ _ (I.brw b) Q fun H' F2 Cs' I2 =>
  q H' F2 Cs (by have := I.unb (C := []) I2; exact this)
/-! what an operation asks and gives -/
/-- a value, the heap stays -/
def Gp {γ : Type} [Enc γ] (k : VK → Prop) (Hb H : Hp) (c : γ) : Prop := ∃ u, Enc.is c Hb u ∧ ∀ Q : VK, Q u H → k Q
/-- a new list -/
def Gls {γ : Type} [Enc γ] (k : VK → Prop) (Hb H : Hp) (cs : List γ) : Prop := ∃ us, Al (fun a v => Enc.is a Hb v) cs us ∧ ∀ Q : VK, (∀ p, H p = none → Q (.ref p) (upd H p (.lst us))) → k Q
section
variable {α β γ : Type} {_ : Enc α} {_ : Enc β} {_ : Enc γ} {a : α} {b : β} {c : γ} {cs : List γ} {k : VK → Prop}
theorem Iv.gp (I : Iv Hs G Γ σ H F X Cs) (h : Gp k (plus Hs F) H c) {Q : VK} (q : ∀ v H', (∃ F2 C Cs', Iv Hs G Γ σ H' (F2 ++ F) (C ++ X) Cs' ∧ (Fz c).p (plus Hs (F2 ++ F)) v C) → Q v H') : k Q := by
  obtain ⟨u, h1, h2⟩ := h
  exact h2 Q (q _ _ ⟨[], [], Cs, I, rfl, h1⟩)
theorem Iv.gl (I : Iv Hs G Γ σ H F X Cs) (h : Gls k (plus Hs F) H cs) {Q : VK} (q : ∀ v H', (∃ F2 C Cs', Iv Hs G Γ σ H' (F2 ++ F) (C ++ X) Cs' ∧ (Ow cs).p (plus Hs (F2 ++ F)) v C) → Q v H') : k Q := by
  obtain ⟨us, h1, h2⟩ := h
  exact h2 Q fun p hp => q _ _ ⟨[], [(p, .lst us)], Cs, I.al hp _ (fun xs z => by cases z), Ow.of h1⟩
/-- the ends of two steps -/
theorem ev_end {Q : VK} {F3 C1 : List Cell} (h : ∀ v H', (∃ F2 C Cs', Iv Hs G Γ σ H' (F2 ++ F) (C ++ X) Cs' ∧ A.p (plus Hs (F2 ++ F)) v C) → Q v H') :
    ∀ v H', (∃ F2 C Cs', Iv Hs G Γ σ H' (F2 ++ (F3 ++ F)) (C ++ X) Cs' ∧ A.p (plus Hs (F2 ++ (F3 ++ F))) v C) → Q v H' := fun v H' ⟨F2, C, Cs', I, r⟩ =>
  h v H' ⟨F2 ++ F3, C, Cs', by rw [List.append_assoc]; exact I, by rw [List.append_assoc]; exact r⟩
theorem ev_o2p {r : R2} (ha : Ev ta Γ Γ1 (Fz a)) (hb : Ev tb Γ1 Γ2 (Fz b)) (h : ∀ Hb H v w, Same Hb H → Enc.is a Hb v → Enc.is b Hb w → Gp (r v w H) Hb H c) : Ev (tOp r ta tb) Γ Γ2 (Fz c) := fun Hs G σ H F X Cs I Q q =>
  ha Hs G σ H F X Cs I _ fun v H1 ⟨F1, C1, Cs1, I1, e1, r1⟩ => by
    subst e1
    refine hb Hs G σ H1 _ _ Cs1 I1 _ fun w H2 ⟨F2, C2, Cs2, I2, e2, r2⟩ => ?_
    subst e2
    exact I2.gp (h _ _ _ _ I2.b (Enc.mo r1 I2.up) r2) (ev_end (C1 := []) (ev_end (C1 := []) q))
theorem ev_o2l {r : R2} (ha : Ev ta Γ Γ1 (Fz a)) (hb : Ev tb Γ1 Γ2 (Fz b)) (h : ∀ Hb H v w, Same Hb H → Enc.is a Hb v → Enc.is b Hb w → Gls (r v w H) Hb H cs) : Ev (tOp r ta tb) Γ Γ2 (Ow cs) := fun Hs G σ H F X Cs I Q q =>
  ha Hs G σ H F X Cs I _ fun v H1 ⟨F1, C1, Cs1, I1, e1, r1⟩ => by
    subst e1
    refine hb Hs G σ H1 _ _ Cs1 I1 _ fun w H2 ⟨F2, C2, Cs2, I2, e2, r2⟩ => ?_
    subst e2
    exact I2.gl (h _ _ _ _ I2.b (Enc.mo r1 I2.up) r2) (ev_end (C1 := []) (ev_end (C1 := []) q))
theorem ev_o1p {r : V → Hp → VK → Prop} (ha : Ev ta Γ Γ1 (Fz a)) (h : ∀ Hb H v, Same Hb H → Enc.is a Hb v → Gp (r v H) Hb H c) : Ev (fun σ H Q => ta σ H fun x H1 => r x H1 Q) Γ Γ1 (Fz c) := fun Hs G σ H F X Cs I Q q =>
  ha Hs G σ H F X Cs I _ fun v H1 ⟨F1, C1, Cs1, I1, e1, r1⟩ => by
    subst e1
    exact I1.gp (h _ _ _ I1.b r1) (ev_end (C1 := []) q)
theorem ev_o1l {r : V → Hp → VK → Prop} (ha : Ev ta Γ Γ1 (Fz a)) (h : ∀ Hb H v, Same Hb H → Enc.is a Hb v → Gls (r v H) Hb H cs) : Ev (fun σ H Q => ta σ H fun x H1 => r x H1 Q) Γ Γ1 (Ow cs) := fun Hs G σ H F X Cs I Q q =>
  ha Hs G σ H F X Cs I _ fun v H1 ⟨F1, C1, Cs1, I1, e1, r1⟩ => by
    subst e1
    exact I1.gl (h _ _ _ I1.b r1) (ev_end (C1 := []) q)
theorem ev_c1p {r : RC} (ha : Ev ta Γ Γ1 (Fz a)) (h : ∀ Hb H v, Same Hb H → Enc.is a Hb v → Gp (r [v] H) Hb H c) : Ev (tCB r (tCons ta tNil)) Γ Γ1 (Fz c) := ev_o1p (r := fun v H Q => r [v] H Q) ha h
theorem ev_c1l {r : RC} (ha : Ev ta Γ Γ1 (Fz a)) (h : ∀ Hb H v, Same Hb H → Enc.is a Hb v → Gls (r [v] H) Hb H cs) : Ev (tCB r (tCons ta tNil)) Γ Γ1 (Ow cs) := ev_o1l (r := fun v H Q => r [v] H Q) ha h
theorem ev_c2p {r : RC} (ha : Ev ta Γ Γ1 (Fz a)) (hb : Ev tb Γ1 Γ2 (Fz b)) (h : ∀ Hb H v w, Same Hb H → Enc.is a Hb v → Enc.is b Hb w → Gp (r [v, w] H) Hb H c) : Ev (tCB r (tCons ta (tCons tb tNil))) Γ Γ2 (Fz c) := ev_o2p (r := fun v w H Q => r [v, w] H Q) ha hb h
end
/-! numbers -/
section
variable {i j : Int}
theorem ev_add (ha : Ev ta Γ Γ1 (Fz i)) (hb : Ev tb Γ1 Γ2 (Fz j)) : Ev (tOp qAdd ta tb) Γ Γ2 (Fz (i + j)) := ev_o2p ha hb fun Hb H v w s e1 e2 => ⟨_, rfl, fun Q q => ⟨i, j, e1, e2, q⟩⟩
theorem ev_sub (ha : Ev ta Γ Γ1 (Fz i)) (hb : Ev tb Γ1 Γ2 (Fz j)) : Ev (tOp qSub ta tb) Γ Γ2 (Fz (i - j)) := ev_o2p ha hb fun Hb H v w s e1 e2 => ⟨_, rfl, fun Q q => ⟨i, j, e1, e2, q⟩⟩
theorem ev_mul (ha : Ev ta Γ Γ1 (Fz i)) (hb : Ev tb Γ1 Γ2 (Fz j)) (h : CMul i j) : Ev (tOp qMul ta tb) Γ Γ2 (Fz (i * j)) := ev_o2p ha hb fun Hb H v w s e1 e2 => ⟨_, rfl, fun Q q => ⟨i, j, e1, e2, h, q⟩⟩
theorem ev_mulW (ha : Ev ta Γ Γ1 (Fz i)) (hb : Ev tb Γ1 Γ2 (Fz j)) (h : CMulW i j) : Ev (tOp qMulW ta tb) Γ Γ2 (Fz (i * j)) := ev_o2p ha hb fun Hb H v w s e1 e2 => ⟨_, rfl, fun Q q => ⟨i, j, e1, e2, h, q⟩⟩
theorem ev_div (ha : Ev ta Γ Γ1 (Fz i)) (hb : Ev tb Γ1 Γ2 (Fz j)) (h : CDiv i j) : Ev (tOp qDiv ta tb) Γ Γ2 (Fz (i / j)) := ev_o2p ha hb fun Hb H v w s e1 e2 => ⟨_, rfl, fun Q q => ⟨i, j, e1, e2, h, q⟩⟩
theorem ev_mod (ha : Ev ta Γ Γ1 (Fz i)) (hb : Ev tb Γ1 Γ2 (Fz j)) (h : 0 < j) : Ev (tOp qMod ta tb) Γ Γ2 (Fz (i % j)) := ev_o2p ha hb fun Hb H v w s e1 e2 => ⟨_, rfl, fun Q q => ⟨i, j, e1, e2, h, q⟩⟩
theorem ev_pow (ha : Ev ta Γ Γ1 (Fz i)) (hb : Ev tb Γ1 Γ2 (Fz j)) (h : CPow i j) : Ev (tOp qPow ta tb) Γ Γ2 (Fz (i ^ j.toNat)) := ev_o2p ha hb fun Hb H v w s e1 e2 => ⟨_, rfl, fun Q q => ⟨i, j, e1, e2, h, q⟩⟩
theorem ev_lt (ha : Ev ta Γ Γ1 (Fz i)) (hb : Ev tb Γ1 Γ2 (Fz j)) : Ev (tOp qLt ta tb) Γ Γ2 (Fz (decide (i < j))) := ev_o2p ha hb fun Hb H v w s e1 e2 => ⟨_, rfl, fun Q q => ⟨i, j, e1, e2, q⟩⟩
theorem ev_le (ha : Ev ta Γ Γ1 (Fz i)) (hb : Ev tb Γ1 Γ2 (Fz j)) : Ev (tOp qLe ta tb) Γ Γ2 (Fz (decide (i ≤ j))) := ev_o2p ha hb fun Hb H v w s e1 e2 => ⟨_, rfl, fun Q q => ⟨i, j, e1, e2, q⟩⟩
theorem ev_gt (ha : Ev ta Γ Γ1 (Fz i)) (hb : Ev tb Γ1 Γ2 (Fz j)) : Ev (tOp qGt ta tb) Γ Γ2 (Fz (decide (j < i))) := ev_o2p ha hb fun Hb H v w s e1 e2 => ⟨_, rfl, fun Q q => ⟨i, j, e1, e2, q⟩⟩
theorem ev_ge (ha : Ev ta Γ Γ1 (Fz i)) (hb : Ev tb Γ1 Γ2 (Fz j)) : Ev (tOp qGe ta tb) Γ Γ2 (Fz (decide (j ≤ i))) := ev_o2p ha hb fun Hb H v w s e1 e2 => ⟨_, rfl, fun Q q => ⟨i, j, e1, e2, q⟩⟩
theorem dV_int : decide (V.int i = V.int j) = decide (i = j) := by by_cases h : i = j <;> simp [h]
theorem dV_bl {b c : Bool} : decide (V.bl b = V.bl c) = decide (b = c) := by cases b <;> cases c <;> rfl
theorem ev_eqI (ha : Ev ta Γ Γ1 (Fz i)) (hb : Ev tb Γ1 Γ2 (Fz j)) : Ev (tOp rEq ta tb) Γ Γ2 (Fz (decide (i = j))) := ev_o2p ha hb fun Hb H v w s e1 e2 => by
  have e1 : v = .int i := e1
  have e2 : w = .int j := e2
  subst e1 e2
  exact ⟨_, rfl, fun Q q => ⟨rfl, by rw [dV_int]; exact q⟩⟩
theorem ev_neI (ha : Ev ta Γ Γ1 (Fz i)) (hb : Ev tb Γ1 Γ2 (Fz j)) : Ev (tOp rNe ta tb) Γ Γ2 (Fz (!decide (i = j))) := ev_o2p ha hb fun Hb H v w s e1 e2 => by
  have e1 : v = .int i := e1
  have e2 : w = .int j := e2
  subst e1 e2
  exact ⟨_, rfl, fun Q q => ⟨rfl, by rw [dV_int]; exact q⟩⟩
theorem ev_eqB {b c : Bool} (ha : Ev ta Γ Γ1 (Fz b)) (hb : Ev tb Γ1 Γ2 (Fz c)) : Ev (tOp rEq ta tb) Γ Γ2 (Fz (decide (b = c))) := ev_o2p ha hb fun Hb H v w s e1 e2 => by
  have e1 : v = .bl b := e1
  have e2 : w = .bl c := e2
  subst e1 e2
  exact ⟨_, rfl, fun Q q => ⟨rfl, by rw [dV_bl]; exact q⟩⟩
theorem ev_neB {b c : Bool} (ha : Ev ta Γ Γ1 (Fz b)) (hb : Ev tb Γ1 Γ2 (Fz c)) : Ev (tOp rNe ta tb) Γ Γ2 (Fz (!decide (b = c))) := ev_o2p ha hb fun Hb H v w s e1 e2 => by
  have e1 : v = .bl b := e1
  have e2 : w = .bl c := e2
  subst e1 e2
  exact ⟨_, rfl, fun Q q => ⟨rfl, by rw [dV_bl]; exact q⟩⟩
theorem ev_isB {b c : Bool} (ha : Ev ta Γ Γ1 (Fz b)) (hb : Ev tb Γ1 Γ2 (Fz c)) : Ev (tOp rIsB ta tb) Γ Γ2 (Fz (decide (b = c))) := ev_o2p ha hb fun Hb H v w s e1 e2 => ⟨_, rfl, fun Q q => ⟨b, c, e1, e2, q⟩⟩
theorem ev_notB {b c : Bool} (ha : Ev ta Γ Γ1 (Fz b)) (hb : Ev tb Γ1 Γ2 (Fz c)) : Ev (tOp rNotB ta tb) Γ Γ2 (Fz (!decide (b = c))) := ev_o2p ha hb fun Hb H v w s e1 e2 => ⟨_, rfl, fun Q q => ⟨b, c, e1, e2, q⟩⟩
theorem ev_neg (ha : Ev ta Γ Γ1 (Fz i)) : Ev (tUn qNeg ta) Γ Γ1 (Fz (-i)) := ev_o1p (r := qNeg) ha fun Hb H v s e1 => ⟨_, rfl, fun Q q => ⟨i, e1, q⟩⟩
theorem ev_not {b : Bool} (ha : Ev ta Γ Γ1 (Fz b)) : Ev (tNotV ta) Γ Γ1 (Fz (!b)) := ev_o1p (r := fun x H1 Q => ∃ c, x = .bl c ∧ Q (.bl (!c)) H1) ha fun Hb H v s e1 => ⟨_, rfl, fun Q q => ⟨b, e1, q⟩⟩
theorem ev_max2 (ha : Ev ta Γ Γ1 (Fz i)) (hb : Ev tb Γ1 Γ2 (Fz j)) : Ev (tCB qMax2 (tCons ta (tCons tb tNil))) Γ Γ2 (Fz (max i j)) := ev_c2p ha hb fun Hb H v w s e1 e2 => ⟨_, rfl, fun Q q => ⟨i, j, by rw [e1, e2], by
  rw [show (if j > i then j else i) = max i j by split <;> omega]; exact q⟩⟩
theorem ev_min2 (ha : Ev ta Γ Γ1 (Fz i)) (hb : Ev tb Γ1 Γ2 (Fz j)) : Ev (tCB qMin2 (tCons ta (tCons tb tNil))) Γ Γ2 (Fz (min i j)) := ev_c2p ha hb fun Hb H v w s e1 e2 => ⟨_, rfl, fun Q q => ⟨i, j, by rw [e1, e2], by
  rw [show (if j < i then j else i) = min i j by split <;> omega]; exact q⟩⟩
end
/-! lists -/
theorem Al.atI {α β : Type} {R : α → β → Prop} {as : List α} {bs : List β} (h : Al R as bs) {i : Int} {a : α} (e : atI as i = some a) : ∃ b, L2.atI bs i = some b ∧ R a b := by
  unfold L2.atI at e ⊢
  rw [← h.len]
  cases q : ixN as.length i with
  | none => rw [q] at e; cases e
  | some j => rw [q] at e; exact h.get e
/-- a part of a list -/
def cutA {α : Type} (xs : List α) (lo hi : Option Int) : List α := (xs.drop (HT.sIx xs.length 0 lo)).take (HT.sIx xs.length xs.length hi - HT.sIx xs.length 0 lo)
theorem Al.cut {α β : Type} {R : α → β → Prop} {as : List α} {bs : List β} (h : Al R as bs) (lo hi : Option Int) : Al R (cutA as lo hi) ((bs.drop (HT.sIx bs.length 0 lo)).take (HT.sIx bs.length bs.length hi - HT.sIx bs.length 0 lo)) := by
  unfold cutA
  rw [h.len]
  exact (h.drop _).take _
section
variable {α β γ : Type} {_ : Enc α} {_ : Enc β} {_ : Enc γ} {xs ys : List α} {a : α} {i j : Int}
theorem ev_ix (ha : Ev ta Γ Γ1 (Fz xs)) (hb : Ev tb Γ1 Γ2 (Fz i)) (h : atI xs i = some a) : Ev (tOp (rIxL K) ta tb) Γ Γ2 (Fz a) := ev_o2p ha hb fun Hb H v w s ⟨l, vs, e1, e2, e3⟩ e4 => by
  obtain ⟨u, h1, h2⟩ := e3.atI h
  exact ⟨u, h2, fun Q q => ⟨l, vs, i, u, e1, e4, SqL.of (s _ _ e2), h1, q⟩⟩
theorem ev_ixT {xs : Tp α} (ha : Ev ta Γ Γ1 (Fz xs)) (hb : Ev tb Γ1 Γ2 (Fz i)) (h : atI xs.l i = some a) : Ev (tOp (rIxT K) ta tb) Γ Γ2 (Fz a) := ev_o2p ha hb fun Hb H v w s ⟨l, vs, e1, e2, e3⟩ e4 => by
  obtain ⟨u, h1, h2⟩ := e3.atI h
  exact ⟨u, h2, fun Q q => ⟨l, vs, i, u, e1, e4, SqT.of (s _ _ e2), h1, q⟩⟩
theorem ev_ixP0 {x : α × β} (ha : Ev ta Γ Γ1 (Fz x)) : Ev (tOp (rIxT K) ta (tC (.int 0))) Γ Γ1 (Fz x.1) := ev_o2p ha ev_int fun Hb H v w s ⟨t, y, z, e1, e2, e3, e4⟩ e5 => ⟨y, e3, fun Q q => ⟨t, _, 0, y, e1, e5, SqT.of (s _ _ e2), rfl, q⟩⟩
theorem ev_ixP1 {x : α × β} (ha : Ev ta Γ Γ1 (Fz x)) : Ev (tOp (rIxT K) ta (tC (.int 1))) Γ Γ1 (Fz x.2) := ev_o2p ha ev_int fun Hb H v w s ⟨t, y, z, e1, e2, e3, e4⟩ e5 => ⟨z, e4, fun Q q => ⟨t, _, 1, z, e1, e5, SqT.of (s _ _ e2), rfl, q⟩⟩
theorem ev_ixT0 {x : T3 α β γ} (ha : Ev ta Γ Γ1 (Fz x)) : Ev (tOp (rIxT K) ta (tC (.int 0))) Γ Γ1 (Fz x.a) := ev_o2p ha ev_int fun Hb H v w s ⟨t, y, z, u, e1, e2, e3, e4, e6⟩ e5 => ⟨y, e3, fun Q q => ⟨t, _, 0, y, e1, e5, SqT.of (s _ _ e2), rfl, q⟩⟩
theorem ev_ixT1 {x : T3 α β γ} (ha : Ev ta Γ Γ1 (Fz x)) : Ev (tOp (rIxT K) ta (tC (.int 1))) Γ Γ1 (Fz x.b) := ev_o2p ha ev_int fun Hb H v w s ⟨t, y, z, u, e1, e2, e3, e4, e6⟩ e5 => ⟨z, e4, fun Q q => ⟨t, _, 1, z, e1, e5, SqT.of (s _ _ e2), rfl, q⟩⟩
theorem ev_ixT2 {x : T3 α β γ} (ha : Ev ta Γ Γ1 (Fz x)) : Ev (tOp (rIxT K) ta (tC (.int 2))) Γ Γ1 (Fz x.c) := ev_o2p ha ev_int fun Hb H v w s ⟨t, y, z, u, e1, e2, e3, e4, e6⟩ e5 => ⟨u, e6, fun Q q => ⟨t, _, 2, u, e1, e5, SqT.of (s _ _ e2), rfl, q⟩⟩
theorem ev_len (ha : Ev ta Γ Γ1 (Fz xs)) : Ev (tCB (qLen K) (tCons ta tNil)) Γ Γ1 (Fz (xs.length : Int)) := ev_c1p ha fun Hb H v s ⟨l, vs, e1, e2, e3⟩ => ⟨_, rfl, fun Q q => ⟨l, vs, by rw [e1], .inl (SqL.of (s _ _ e2)), by rw [← e3.len]; exact q⟩⟩
theorem ev_list (ha : Ev ta Γ Γ1 (Fz xs)) : Ev (tCB (qList K) (tCons ta tNil)) Γ Γ1 (Ow xs) := ev_c1l ha fun Hb H v s ⟨l, vs, e1, e2, e3⟩ => ⟨vs, e3, fun Q q => ⟨l, vs, by rw [e1], .inl (SqL.of (s _ _ e2)), q⟩⟩
theorem ev_cat (ha : Ev ta Γ Γ1 (Fz xs)) (hb : Ev tb Γ1 Γ2 (Fz ys)) (h : xs.length + ys.length ≤ 100000) : Ev (tOp rCat ta tb) Γ Γ2 (Ow (xs ++ ys)) := ev_o2l ha hb fun Hb H v w s ⟨l, vs, e1, e2, e3⟩ ⟨l', vs', e1', e2', e3'⟩ =>
  ⟨vs ++ vs', e3.app e3', fun Q q => ⟨l, l', vs, vs', e1, e1', s _ _ e2, s _ _ e2', sz (by rw [← e3.len, ← e3'.len]; exact h), q⟩⟩
theorem ev_rev (ha : Ev ta Γ Γ1 (Fz xs)) : Ev (tRevL K ta) Γ Γ1 (Ow xs.reverse) := ev_o1l (r := fun x H1 Q => ∃ a xs, x = V.ref a ∧ SqL K H1 a xs ∧ ∀ p, H1 p = none → Q (.ref p) (upd H1 p (.lst xs.reverse))) ha fun Hb H v s ⟨l, vs, e1, e2, e3⟩ => ⟨_, e3.rev, fun Q q => ⟨l, vs, e1, SqL.of (s _ _ e2), q⟩⟩
theorem ev_slN (ha : Ev ta Γ Γ1 (Fz xs)) : Ev (L2.tSl (rSlL K) ta tNoPart tNoPart) Γ Γ1 (Ow (cutA xs none none)) := ev_o1l (r := fun x H Q => rSlL K x none none H Q) ha fun Hb H v s ⟨l, vs, e1, e2, e3⟩ => ⟨_, e3.cut _ _, fun Q q => ⟨l, vs, e1, SqL.of (s _ _ e2), q⟩⟩
theorem ev_slH (ha : Ev ta Γ Γ1 (Fz xs)) (hb : Ev tb Γ1 Γ2 (Fz i)) : Ev (L2.tSl (rSlL K) ta tNoPart (tPart tb)) Γ Γ2 (Ow (cutA xs none (some i))) := ev_o2l (r := fun x y H Q => ∃ i, y = .int i ∧ rSlL K x none (some i) H Q) ha hb fun Hb H v w s ⟨l, vs, e1, e2, e3⟩ e4 => ⟨_, e3.cut _ _, fun Q q => ⟨i, e4, l, vs, e1, SqL.of (s _ _ e2), q⟩⟩
theorem ev_slL (ha : Ev ta Γ Γ1 (Fz xs)) (hb : Ev tb Γ1 Γ2 (Fz i)) : Ev (L2.tSl (rSlL K) ta (tPart tb) tNoPart) Γ Γ2 (Ow (cutA xs (some i) none)) := ev_o2l (r := fun x y H Q => ∃ i, y = .int i ∧ rSlL K x (some i) none H Q) ha hb fun Hb H v w s ⟨l, vs, e1, e2, e3⟩ e4 => ⟨_, e3.cut _ _, fun Q q => ⟨i, e4, l, vs, e1, SqL.of (s _ _ e2), q⟩⟩
/-- x * n -/
theorem ev_rep1 (ha : Ev ta Γ Γ1 (Fz [a])) (hb : Ev tb Γ1 Γ2 (Fz j)) (h1 : 0 ≤ j) (h2 : j ≤ 100000) : Ev (tOp rRep ta tb) Γ Γ2 (Ow (List.replicate j.toNat a)) := ev_o2l ha hb fun Hb H v w s ⟨l, vs, e1, e2, e3⟩ e4 => by
  cases e3 with
  | cons r t =>
    cases t
    rename_i u
    refine ⟨_, Al.rep (R := fun (a : α) v => Enc.is a Hb v) r _, fun Q q => ⟨l, j, [u], e1, e4, s _ _ e2, by omega, by omega, sz (by simp; omega), ?_⟩⟩
    rw [show (List.replicate j.toNat [u]).flatten = List.replicate j.toNat u by
      induction j.toNat with
      | zero => rfl
      | succ n ih => rw [List.replicate_succ, List.replicate_succ, List.flatten_cons, ih]; rfl]
    exact q
end
section
variable {xs : List Int} {bs : List Bool} {i : Int}
theorem al_int {H : Hp} {xs : List Int} {vs : List V} (h : Al (fun a v => Enc.is a H v) xs vs) : vs = xs.map V.int := by
  induction h with
  | nil => rfl
  | cons r _ ih => rw [ih]; have r : _ = V.int _ := r; rw [r]; rfl
theorem al_bl {H : Hp} {xs : List Bool} {vs : List V} (h : Al (fun a v => Enc.is a H v) xs vs) : vs = xs.map V.bl := by
  induction h with
  | nil => rfl
  | cons r _ ih => rw [ih]; have r : _ = V.bl _ := r; rw [r]; rfl
theorem al_ofI {H : Hp} (xs : List Int) : Al (fun a v => Enc.is a H v) xs (xs.map V.int) := by
  induction xs with
  | nil => exact .nil
  | cons x xs ih => exact .cons rfl ih
theorem is_ofI {H : Hp} {p : Addr} {xs : List Int} (h : H p = some (intsO xs)) : Enc.is xs H (.ref p) := ⟨p, _, rfl, h, al_ofI xs⟩
theorem is_toI {H : Hp} {v : V} {xs : List Int} (h : Enc.is xs H v) : ∃ p, v = .ref p ∧ H p = some (intsO xs) := by
  obtain ⟨p, vs, e1, e2, e3⟩ := h
  rw [al_int e3] at e2
  exact ⟨p, e1, e2⟩
theorem is_ofLL {H : Hp} {p : Addr} {ps : List Addr} {rs : List (List Int)} (R : Rows H p ps rs) : Enc.is rs H (.ref p) := ⟨p, _, rfl, R.top, Al.of_get (by rw [List.length_map]; exact R.len.symm) fun i a b e1 e2 => by
  obtain ⟨q, e3, rfl⟩ := mapA_get e2
  exact is_ofI (R.row e3 e1)⟩
theorem is_toLL {H : Hp} {v : V} {rs : List (List Int)} (h : Enc.is rs H v) : ∃ p ps, v = .ref p ∧ Rows H p ps rs := by
  obtain ⟨p, vs, e1, e2, e3⟩ := h
  have : ∃ ps : List Addr, vs = ps.map V.ref ∧ ps.length = rs.length ∧ ∀ {i : Nat} {q : Addr} {r : List Int}, ps[i]? = some q → rs[i]? = some r → H q = some (intsO r) := by
    clear e2
    induction e3 with
    | nil => exact ⟨[], rfl, rfl, fun h => by simp at h⟩
    | cons r _ ih =>
      obtain ⟨q, rfl, hq⟩ := is_toI r
      obtain ⟨ps, rfl, h2, h3⟩ := ih
      refine ⟨q :: ps, rfl, by simp [h2], fun {i q' r'} e1 e2 => ?_⟩
      cases i with
      | zero => cases e1; cases e2; exact hq
      | succ i => exact h3 (i := i) e1 e2
  obtain ⟨ps, rfl, h2, h3⟩ := this
  exact ⟨p, ps, e1, e2, h2, h3⟩
theorem ev_sum (ha : Ev ta Γ Γ1 (Fz xs)) : Ev (tCB (rSum K) (tCons ta tNil)) Γ Γ1 (Fz xs.sum) := ev_c1p ha fun Hb H v s h => by
  obtain ⟨l, e1, e2⟩ := is_toI h
  exact ⟨_, rfl, fun Q q => ⟨l, xs, by rw [e1], SqL.of (s _ _ e2), q⟩⟩
theorem ev_max (ha : Ev ta Γ Γ1 (Fz xs)) (h1 : i ∈ xs) (h2 : ∀ y ∈ xs, y ≤ i) : Ev (tCB (rMax K) (tCons ta tNil)) Γ Γ1 (Fz i) := ev_c1p ha fun Hb H v s h => by
  obtain ⟨l, e1, e2⟩ := is_toI h
  exact ⟨_, rfl, fun Q q => ⟨l, xs, by rw [e1], SqL.of (s _ _ e2), List.length_pos_of_mem h1, fun m hm hx => by
    rw [show m = i from Int.le_antisymm (h2 m hm) (hx i h1)]; exact q⟩⟩
theorem ev_sorted (ha : Ev ta Γ Γ1 (Fz xs)) : Ev (tCB (rSortedI K) (tCons ta tNil)) Γ Γ1 (Ow (sortI xs)) := ev_c1l ha fun Hb H v s h => by
  obtain ⟨l, e1, e2⟩ := is_toI h
  exact ⟨_, al_ofI _, fun Q q => ⟨l, xs, by rw [e1], SqL.of (s _ _ e2), fun ns p h1 h2 hp => by rw [sortI_eq h1 h2]; exact q p hp⟩⟩
theorem ev_all (ha : Ev ta Γ Γ1 (Fz bs)) : Ev (tCB (rAll K) (tCons ta tNil)) Γ Γ1 (Fz (bs.all id)) := ev_c1p ha fun Hb H v s ⟨l, vs, e1, e2, e3⟩ => by
  rw [al_bl e3] at e2
  exact ⟨_, rfl, fun Q q => ⟨l, bs, by rw [e1], SqL.of (s _ _ e2), q⟩⟩
theorem ev_any (ha : Ev ta Γ Γ1 (Fz bs)) : Ev (tCB (rAny K) (tCons ta tNil)) Γ Γ1 (Fz (bs.any id)) := ev_c1p ha fun Hb H v s ⟨l, vs, e1, e2, e3⟩ => by
  rw [al_bl e3] at e2
  exact ⟨_, rfl, fun Q q => ⟨l, bs, by rw [e1], SqL.of (s _ _ e2), q⟩⟩
theorem inV_ints (x : Int) (xs : List Int) : inV (.int x) (xs.map V.int) = decide (x ∈ xs) := by
  unfold inV
  rw [List.any_map, Bool.eq_iff_iff, List.any_eq_true, decide_eq_true_eq]
  constructor
  · rintro ⟨y, hy, e⟩
    have e : eqV (.int y) (.int x) = true := e
    have : y = x := by simpa [eqV] using e
    rw [← this]; exact hy
  · intro h
    exact ⟨x, h, by show eqV (.int x) (.int x) = true; simp [eqV]⟩
theorem flat_intsV (xs : List Int) : (xs.map V.int).all flatV = true := by
  rw [List.all_map, List.all_eq_true]
  exact fun _ _ => rfl
theorem ev_in (ha : Ev ta Γ Γ1 (Fz i)) (hb : Ev tb Γ1 Γ2 (Fz xs)) : Ev (tOp (rIn K false) ta tb) Γ Γ2 (Fz (decide (i ∈ xs))) := ev_o2p ha hb fun Hb H v w s e1 h => by
  obtain ⟨l, e2, e3⟩ := is_toI h
  have e1 : v = .int i := e1
  subst e1
  exact ⟨_, rfl, fun Q q => ⟨l, _, e2, .inl (SqL.of (s _ _ e3)), rfl, flat_intsV xs, by rw [inV_ints]; exact q⟩⟩
theorem ev_notin (ha : Ev ta Γ Γ1 (Fz i)) (hb : Ev tb Γ1 Γ2 (Fz xs)) : Ev (tOp (rIn K true) ta tb) Γ Γ2 (Fz (decide (i ∉ xs))) := ev_o2p ha hb fun Hb H v w s e1 h => by
  obtain ⟨l, e2, e3⟩ := is_toI h
  have e1 : v = .int i := e1
  subst e1
  refine ⟨_, rfl, fun Q q => ⟨l, _, e2, .inl (SqL.of (s _ _ e3)), rfl, flat_intsV xs, ?_⟩⟩
  rw [inV_ints, if_pos rfl, show (!decide (i ∈ xs)) = decide (i ∉ xs) by simp]
  exact q
end
/-! == of data -/
section
variable {α : Type} {_ : Enc α} {_ : EncD α} {_ : DecidableEq α} {a b : α} {d e : PyData} {n m : Nat}
theorem ev_eqD {_ : EncQ α} (ha : Ev ta Γ Γ1 (Fz a)) (hb : Ev tb Γ1 Γ2 (Fz b)) (hn : EncD.dep α ≤ 64 := by decide) : Ev (tOp (rEqD K) ta tb) Γ Γ2 (Fz (decide (a = b))) := ev_o2p ha hb fun Hb H v w s e1 e2 =>
  ⟨_, rfl, fun Q q => ⟨_, _, EncD.dp (Enc.mo e1 s), EncD.dp (Enc.mo e2 s), (EncD.sh a).shaped hn, (EncD.sh b).shaped hn, by rw [EncQ.eqv]; exact q⟩⟩
theorem ev_neD {_ : EncQ α} (ha : Ev ta Γ Γ1 (Fz a)) (hb : Ev tb Γ1 Γ2 (Fz b)) (hn : EncD.dep α ≤ 64 := by decide) : Ev (tOp (rNeD K) ta tb) Γ Γ2 (Fz (!decide (a = b))) := ev_o2p ha hb fun Hb H v w s e1 e2 =>
  ⟨_, rfl, fun Q q => ⟨_, _, EncD.dp (Enc.mo e1 s), EncD.dp (Enc.mo e2 s), (EncD.sh a).shaped hn, (EncD.sh b).shaped hn, by rw [EncQ.eqv]; exact q⟩⟩
/-- data of any sorts -/
theorem ev_o2D {r : R2} {c : Bool} (ha : Ev ta Γ Γ1 A) (ca : Cv A (FzD d)) (hb : Ev tb Γ1 Γ2 B) (cb : Cv B (FzD e)) (h : ∀ H v w, Dp K H v d → Dp K H w e → ∀ Q : VK, Q (.bl c) H → r v w H Q) : Ev (tOp r ta tb) Γ Γ2 (Fz c) := fun Hs G σ H F X Cs I Q q =>
  ev_frz ha ca Hs G σ H F X Cs I _ fun v H1 ⟨F1, C1, Cs1, I1, e1, r1⟩ => by
    subst e1
    refine ev_frz hb cb Hs G σ H1 _ _ Cs1 I1 _ fun w H2 ⟨F2, C2, Cs2, I2, e2, r2⟩ => ?_
    subst e2
    exact h H2 v w (r1 K _ (I2.up.trans I2.b)) (r2 K _ I2.b) Q (q _ _ ⟨F2 ++ F1, [], Cs2, by rw [List.append_assoc]; exact I2, rfl, rfl⟩)
theorem ev_eqDD (ha : Ev ta Γ Γ1 A) (ca : Cv A (FzD d)) (hb : Ev tb Γ1 Γ2 B) (cb : Cv B (FzD e)) (sd : Shp d n) (se : Shp e m) (hn : n ≤ 64 := by decide) (hm : m ≤ 64 := by decide) : Ev (tOp (rEqD K) ta tb) Γ Γ2 (Fz (PyData.eqv d e)) :=
  ev_o2D (K := K) ha ca hb cb fun H v w h1 h2 Q q => ⟨d, e, h1, h2, sd.shaped hn, se.shaped hm, q⟩
theorem ev_neDD (ha : Ev ta Γ Γ1 A) (ca : Cv A (FzD d)) (hb : Ev tb Γ1 Γ2 B) (cb : Cv B (FzD e)) (sd : Shp d n) (se : Shp e m) (hn : n ≤ 64 := by decide) (hm : m ≤ 64 := by decide) : Ev (tOp (rNeD K) ta tb) Γ Γ2 (Fz (!PyData.eqv d e)) :=
  ev_o2D (K := K) ha ca hb cb fun H v w h1 h2 Q q => ⟨d, e, h1, h2, sd.shaped hn, se.shaped hm, q⟩
theorem ev_isN {α : Type} {_ : Enc α} {o : Option α} (hz : ∀ (a : α) H v, Enc.is a H v → v ≠ .non) (ha : Ev ta Γ Γ1 (Fz o)) : Ev (tOp qIsN ta (tC .non)) Γ Γ1 (Fz o.isNone) := ev_o1p (r := fun x H1 Q => V.non = .non ∧ Q (.bl (decide (x = .non))) H1) ha fun Hb H v s h => ⟨_, rfl, fun Q q => ⟨rfl, by
  rw [show decide (v = .non) = o.isNone from ?_]
  · exact q
  · cases o with
    | none => exact decide_eq_true h
    | some a => exact decide_eq_false (hz a Hb v h)⟩⟩
theorem ev_notN {α : Type} {_ : Enc α} {o : Option α} (hz : ∀ (a : α) H v, Enc.is a H v → v ≠ .non) (ha : Ev ta Γ Γ1 (Fz o)) : Ev (tOp qNotN ta (tC .non)) Γ Γ1 (Fz o.isSome) := ev_o1p (r := fun x H1 Q => V.non = .non ∧ Q (.bl (!decide (x = .non))) H1) ha fun Hb H v s h => ⟨_, rfl, fun Q q => ⟨rfl, by
  rw [show (!decide (v = .non)) = o.isSome from ?_]
  · exact q
  · cases o with
    | none => rw [decide_eq_true (show v = .non from h)]; rfl
    | some a => rw [decide_eq_false (hz a Hb v h)]; rfl⟩⟩
end
end
theorem nn_list {α : Type} [Enc α] (a : List α) (H : Hp) (v : V) (h : Enc.is a H v) : v ≠ .non := by
  obtain ⟨l, vs, e, _⟩ := h
  rw [e]; exact fun z => by cases z
theorem nn_pair {α β : Type} [Enc α] [Enc β] (a : α × β) (H : Hp) (v : V) (h : Enc.is a H v) : v ≠ .non := by
  obtain ⟨l, x, y, e, _⟩ := h
  rw [e]; exact fun z => by cases z
end Cc

namespace Cc
open PySem L2
/-! tests, argument lists, calls, comprehensions -/
def Fr (A : As) : Prop := ∀ H v C, A.p H v C → C = []
theorem fr_fz {α : Type} [Enc α] {a : α} : Fr (Fz a) := fun _ _ _ h => h.1
inductive FrL : List As → Prop
  | nil : FrL []
  | so {A : As} {Bs : List As} : Fr A → FrL Bs → FrL (A :: Bs)
theorem FrL.nils {Bs : List As} (h : FrL Bs) {H : Hp} {vs : List V} {Cs : List (List Cell)} (g : Al3 H Bs vs Cs) : Cs = Bs.map fun _ => [] := by
  induction g with
  | nil => rfl
  | cons r _ ih =>
    cases h with
    | so f h =>
      rw [f _ _ _ r, ih h]; rfl
theorem nils_flat (Bs : List As) : (Bs.map fun _ => ([] : List Cell)).flatten = [] := flat_none Bs
section
variable {te ta tb tc : TE} {tt tu : TT} {tr : TA} {Γ Γ1 Γ2 Γ3 Γ' : Env} {A B : As} {Bs : List As} {Hs G : Hp} {σ : L2.St} {H H' : Hp} {F F2 X C : List Cell} {Cs : List (List Cell)} {K : PySem.W.Frag} {b c : Bool}
theorem et_tt (h : Ev te Γ Γ' (Fz b)) : Et (tTest te) Γ Γ' b := fun Hs G σ H F X Cs I Q q => h Hs G σ H F X Cs I _ fun v H' ⟨F2, C, Cs', I2, e, r⟩ => by
  subst e
  exact ⟨b, r, q _ _ _ I2⟩
theorem et_b (h : Ev te Γ Γ' (Fz b)) : Et (tB te) Γ Γ' b := et_tt h
theorem et_not (h : Et tt Γ Γ' b) : Et (tNot tt) Γ Γ' (!b) := fun Hs G σ H F X Cs I Q q => h Hs G σ H F X Cs I _ q
theorem Iv.asc {F3 : List Cell} (I : Iv Hs G Γ σ H (F2 ++ (F3 ++ F)) X Cs) : Iv Hs G Γ σ H ((F2 ++ F3) ++ F) X Cs := by rw [List.append_assoc]; exact I
theorem et_and (h : Et tt Γ Γ b) (h' : b = true → Et tu Γ Γ c) : Et (tAnd tt tu) Γ Γ (b && c) := fun Hs G σ H F X Cs I Q q => h Hs G σ H F X Cs I _ fun H1 F1 Cs1 I1 => by
  cases b with
  | true => exact iteT (h' rfl Hs G σ H1 _ _ _ I1 _ fun H2 F2 Cs2 I2 => q _ _ _ I2.asc)
  | false => exact iteF (q _ _ _ I1)
theorem et_or (h : Et tt Γ Γ b) (h' : b = false → Et tu Γ Γ c) : Et (tOr tt tu) Γ Γ (b || c) := fun Hs G σ H F X Cs I Q q => h Hs G σ H F X Cs I _ fun H1 F1 Cs1 I1 => by
  cases b with
  | true => exact iteT (q _ _ _ I1)
  | false => exact iteF (h' rfl Hs G σ H1 _ _ _ I1 _ fun H2 F2 Cs2 I2 => q _ _ _ I2.asc)
theorem ev_andV (h : Ev ta Γ Γ (Fz b)) (h' : b = true → Ev tb Γ Γ (Fz c)) : Ev (tAndV ta tb) Γ Γ (Fz (b && c)) := fun Hs G σ H F X Cs I Q q => h Hs G σ H F X Cs I _ fun v H1 ⟨F1, C1, Cs1, I1, e, r⟩ => by
  subst e
  refine ⟨b, r, ?_⟩
  cases b with
  | true => exact iteT (h' rfl Hs G σ H1 _ _ _ I1 _ (ev_end (C1 := []) q))
  | false => exact iteF (q _ _ ⟨F1, [], _, I1, rfl, rfl⟩)
theorem ev_orV (h : Ev ta Γ Γ (Fz b)) (h' : b = false → Ev tb Γ Γ (Fz c)) : Ev (tOrV ta tb) Γ Γ (Fz (b || c)) := fun Hs G σ H F X Cs I Q q => h Hs G σ H F X Cs I _ fun v H1 ⟨F1, C1, Cs1, I1, e, r⟩ => by
  subst e
  refine ⟨b, r, ?_⟩
  cases b with
  | true => exact iteT (q _ _ ⟨F1, [], _, I1, rfl, rfl⟩)
  | false => exact iteF (h' rfl Hs G σ H1 _ _ _ I1 _ (ev_end (C1 := []) q))
theorem ev_if (h : Et tt Γ Γ1 b) (ha : b = true → Ev ta Γ1 Γ2 A) (hb : b = false → Ev tb Γ1 Γ2 A) : Ev (tIf tt ta tb) Γ Γ2 A := fun Hs G σ H F X Cs I Q q => h Hs G σ H F X Cs I _ fun H1 F1 Cs1 I1 => by
  cases b with
  | true => exact iteT (ha rfl Hs G σ H1 _ _ _ I1 _ (ev_end (C1 := []) q))
  | false => exact iteF (hb rfl Hs G σ H1 _ _ _ I1 _ (ev_end (C1 := []) q))
section
variable {i j k : Int}
/-- i op j op k -/
theorem ev_chn {r r' : R2} (ha : Ev ta Γ Γ1 (Fz i)) (hb : Ev tb Γ1 Γ2 (Fz j)) (h1 : ∀ H (Q : VK), Q (.bl b) H → r (.int i) (.int j) H Q) (hc : Ev tc Γ2 Γ2 (Fz k)) (h2 : ∀ H (Q : VK), Q (.bl c) H → r' (.int j) (.int k) H Q) : Ev (tChain r r' ta tb tc) Γ Γ2 (Fz (b && c)) := fun Hs G σ H F X Cs I Q q =>
  ha Hs G σ H F X Cs I _ fun v H1 ⟨F1, C1, Cs1, I1, e1, r1⟩ => by
    subst e1
    have r1 : v = .int i := r1
    subst r1
    refine hb Hs G σ H1 _ _ Cs1 I1 _ fun w H2 ⟨F2, C2, Cs2, I2, e2, r2⟩ => ?_
    subst e2
    have r2 : w = .int j := r2
    subst r2
    refine h1 _ _ ⟨b, rfl, ?_⟩
    cases b with
    | false => exact iteF (ev_end (C1 := []) q _ _ ⟨F2, [], _, I2, rfl, rfl⟩)
    | true =>
      refine iteT (hc Hs G σ H2 _ _ Cs2 I2 _ fun u H3 ⟨F3, C3, Cs3, I3, e3, r3⟩ => ?_)
      subst e3
      have r3 : u = .int k := r3
      subst r3
      exact h2 _ _ (ev_end (C1 := []) (ev_end (C1 := []) q) _ _ ⟨F3, [], _, I3, rfl, rfl⟩)
theorem cLe (H : Hp) (Q : VK) : Q (.bl (decide (i ≤ j))) H → qLe (.int i) (.int j) H Q := fun q => ⟨i, j, rfl, rfl, q⟩
theorem cLt (H : Hp) (Q : VK) : Q (.bl (decide (i < j))) H → qLt (.int i) (.int j) H Q := fun q => ⟨i, j, rfl, rfl, q⟩
end
/-! argument lists -/
theorem ea_nil : Ea tNil Γ Γ [] := fun Hs G σ H F X Cs I Q q => q [] H [] [] Cs I .nil
theorem ea_cons (h : Ev te Γ Γ1 A) (h' : Ea tr Γ1 Γ2 Bs) : Ea (tCons te tr) Γ Γ2 (A :: Bs) := fun Hs G σ H F X Cs I Q q => h Hs G σ H F X Cs I _ fun v H1 ⟨F1, C1, Cs1, I1, r1⟩ =>
  h' Hs G σ H1 _ _ _ I1 _ fun vs H2 F2 Cs0 Cs2 I2 r2 => q (v :: vs) H2 (F2 ++ F1) (C1 :: Cs0) Cs2
    ((I2.px (by rw [List.flatten_cons, ← List.append_assoc]; exact List.perm_append_comm.append_right _)).asc)
    (by rw [List.append_assoc]; exact .cons (As.mo _ r1 I2.up) r2)
theorem ea_1 (h : Ev te Γ Γ1 A) : Ea (tCons te tNil) Γ Γ1 [A] := ea_cons h ea_nil
theorem ea_2 (h : Ev ta Γ Γ1 A) (h' : Ev tb Γ1 Γ2 B) : Ea (tCons ta (tCons tb tNil)) Γ Γ2 [A, B] := ea_cons h (ea_1 h')
theorem ea_3 {D : As} (h : Ev ta Γ Γ1 A) (h' : Ev tb Γ1 Γ2 B) (h'' : Ev tc Γ2 Γ3 D) : Ea (tCons ta (tCons tb (tCons tc tNil))) Γ Γ3 [A, B, D] := ea_cons h (ea_2 h' h'')
/-- a list, a tuple -/
theorem ev_lst (hn : Bs.length ≤ 100000) (h : Ea tr Γ Γ' Bs) : Ev (tLst tr) Γ Γ' (OwL Bs) := fun Hs G σ H F X Cs I Q q => h Hs G σ H F X Cs I _ fun vs H1 F1 Cs0 Cs1 I1 r1 =>
  ⟨sz (by rw [r1.lenV]; exact hn), fun p hp => q _ _ ⟨F1, (p, .lst vs) :: Cs0.flatten, Cs1, I1.al hp _ (fun xs z => by cases z), p, vs, Cs0, rfl, rfl, r1⟩⟩
theorem ev_nil {α : Type} {_ : Enc α} : Ev (tLst tNil) Γ Γ (Ow ([] : List α)) := ev_lst (Nat.zero_le _) ea_nil
theorem ev_l1 {α : Type} {_ : Enc α} {a : α} (h : Ev te Γ Γ1 (Fz a)) : Ev (tLst (tCons te tNil)) Γ Γ1 (Ow [a]) := ev_lst (by simp) (ea_1 h)
theorem ev_l2 {α : Type} {_ : Enc α} {a b : α} (h : Ev ta Γ Γ1 (Fz a)) (h' : Ev tb Γ1 Γ2 (Fz b)) : Ev (tLst (tCons ta (tCons tb tNil))) Γ Γ2 (Ow [a, b]) := ev_lst (by simp) (ea_2 h h')
theorem ev_l3 {α : Type} {_ : Enc α} {a b c : α} (h : Ev ta Γ Γ1 (Fz a)) (h' : Ev tb Γ1 Γ2 (Fz b)) (h'' : Ev tc Γ2 Γ3 (Fz c)) : Ev (tLst (tCons ta (tCons tb (tCons tc tNil)))) Γ Γ3 (Ow [a, b, c]) := ev_lst (by simp) (ea_3 h h' h'')
/-- all of one sort -/
inductive Es {α : Type} [Enc α] : TA → Env → Env → List α → Prop
  | nil {Γ : Env} : Es tNil Γ Γ []
  | cons {te : TE} {tr : TA} {Γ Γ1 Γ2 : Env} {a : α} {as : List α} : Ev te Γ Γ1 (Fz a) → Es tr Γ1 Γ2 as → Es (tCons te tr) Γ Γ2 (a :: as)
theorem Es.ea {α : Type} {_ : Enc α} {as : List α} (h : Es tr Γ Γ' as) : Ea tr Γ Γ' (as.map Fz) := by
  induction h with
  | nil => exact ea_nil
  | cons h _ ih => exact ea_cons h ih
theorem ev_ls {α : Type} {_ : Enc α} {as : List α} (h : Es tr Γ Γ' as) (hn : as.length ≤ 100000) : Ev (tLst tr) Γ Γ' (Ow as) := ev_lst (by rw [List.length_map]; exact hn) h.ea
theorem ev_tp {α : Type} {_ : Enc α} {as : List α} (h : Es tr Γ Γ' as) (hn : as.length ≤ 100000) : Ev (tTup tr) Γ Γ' (Fz (Tp.mk as)) := fun Hs G σ H F X Cs I Q q => h.ea Hs G σ H F X Cs I _ fun vs H1 F1 Cs0 Cs1 I1 r1 => by
  obtain ⟨r2, r3⟩ := r1.fz'
  rw [r3] at I1
  refine ⟨sz (by rw [← r2.len]; exact hn), fun p hp => ?_⟩
  have I2 := I1.alF hp (.tup vs)
  refine q _ _ ⟨(p, .tup vs) :: F1, [], Cs1, I2, rfl, p, vs, rfl, I2.loF.pGc (c := (p, .tup vs)) List.mem_cons_self, r2.mp fun _ _ r => Enc.mo r (Iv.up (F2 := [(p, .tup vs)]) I2)⟩
theorem ev_p2 {α β : Type} {_ : Enc α} {_ : Enc β} {a : α} {b : β} (h : Ev ta Γ Γ1 (Fz a)) (h' : Ev tb Γ1 Γ2 (Fz b)) : Ev (tTup (tCons ta (tCons tb tNil))) Γ Γ2 (Fz (a, b)) := fun Hs G σ H F X Cs I Q q => h Hs G σ H F X Cs I _ fun v H1 ⟨F1, C1, Cs1, I1, e1, r1⟩ => by
  subst e1
  refine h' Hs G σ H1 _ _ Cs1 I1 _ fun w H2 ⟨F2, C2, Cs2, I2, e2, r2⟩ => ?_
  subst e2
  refine ⟨by show 2 ≤ sizeLine; decide, fun p hp => ?_⟩
  have I3 := I2.alF hp (.tup [v, w])
  have u : Same (plus Hs (F2 ++ (F1 ++ F))) (plus Hs ((p, .tup [v, w]) :: (F2 ++ (F1 ++ F)))) := Iv.up (F2 := [(p, .tup [v, w])]) I3
  exact ev_end (C1 := []) (ev_end (C1 := []) q) _ _ ⟨[(p, .tup [v, w])], [], Cs2, I3, rfl, p, v, w, rfl, I3.loF.pGc (c := (p, .tup [v, w])) List.mem_cons_self, Enc.mo (Enc.mo r1 I2.up) u, Enc.mo r2 u⟩
theorem ev_t3 {α β γ : Type} {_ : Enc α} {_ : Enc β} {_ : Enc γ} {a : α} {b : β} {c : γ} (h : Ev ta Γ Γ1 (Fz a)) (h' : Ev tb Γ1 Γ2 (Fz b)) (h'' : Ev tc Γ2 Γ3 (Fz c)) : Ev (tTup (tCons ta (tCons tb (tCons tc tNil)))) Γ Γ3 (Fz (T3.mk a b c)) := fun Hs G σ H F X Cs I Q q => h Hs G σ H F X Cs I _ fun v H1 ⟨F1, C1, Cs1, I1, e1, r1⟩ => by
  subst e1
  refine h' Hs G σ H1 _ _ Cs1 I1 _ fun w H2 ⟨F2, C2, Cs2, I2, e2, r2⟩ => ?_
  subst e2
  refine h'' Hs G σ H2 _ _ Cs2 I2 _ fun x H3 ⟨F3, C3, Cs3, I3, e3, r3⟩ => ?_
  subst e3
  refine ⟨by show 3 ≤ sizeLine; decide, fun p hp => ?_⟩
  have I4 := I3.alF hp (.tup [v, w, x])
  have u : Same (plus Hs (F3 ++ (F2 ++ (F1 ++ F)))) (plus Hs ((p, .tup [v, w, x]) :: (F3 ++ (F2 ++ (F1 ++ F))))) := Iv.up (F2 := [(p, .tup [v, w, x])]) I4
  exact ev_end (C1 := []) (ev_end (C1 := []) (ev_end (C1 := []) q)) _ _ ⟨[(p, .tup [v, w, x])], [], Cs3, I4, rfl, p, v, w, x, rfl, I4.loF.pGc (c := (p, .tup [v, w, x])) List.mem_cons_self, Enc.mo (Enc.mo (Enc.mo r1 I2.up) I3.up) u, Enc.mo (Enc.mo r2 I3.up) u, Enc.mo r3 u⟩
/-! calls -/
/-- a def's promise: what is handed in stands; what is told (A) is new, but for what it shows of it -/
def spG {ι : Type} (ok : ι → Prop) (Bs : ι → List As) (A : ι → As) : Sp := fun vs H Q _ => ∃ (i : ι) (Hs : Hp), ok i ∧ Same Hs H ∧ Al3 Hs (Bs i) vs ((Bs i).map fun _ => []) ∧ ∀ v H' F C, Lo H H' (F ++ C) → (A i).p (plus Hs F) v C → Q v H'
theorem ev_call {ι : Type} {ok : ι → Prop} {Bs : ι → List As} {A : ι → As} {i : ι} {E : XK} (ha : Ea tr Γ Γ' (Bs i)) (hok : ok i) (hz : FrL (Bs i) := by repeat (first | exact FrL.nil | refine FrL.so fr_fz ?_)) : Ev (tCall (spG ok Bs A) [] E tr) Γ Γ' (A i) := fun Hs G σ H F X Cs I Q q => ha Hs G σ H F X Cs I _ fun vs H1 F1 Cs0 Cs1 I1 r1 => by
  have e := hz.nils r1
  subst e
  rw [nils_flat] at I1
  rw [List.append_nil]
  refine ⟨i, _, hok, I1.b, r1, fun v H2 F2 C L r => q v H2 ⟨F2 ++ F1, C, Cs1, (I1.ext L (As.nt _ r)).asc, ?_⟩⟩
  rw [List.append_assoc, ← plus_plus]
  exact r
theorem spG_len {ι : Type} {ok : ι → Prop} {Bs : ι → List As} {A : ι → As} {vs : List V} {H : Hp} {Q : VK} {E : XK} {n : Nat} (h : spG ok Bs A vs H Q E) (hn : ∀ i, (Bs i).length = n) : vs.length = n := by
  obtain ⟨i, Hs, _, _, h, _⟩ := h
  rw [h.lenV, hn]
/-! what is walked -/
def Is {α : Type} [Enc α] (wi : TI) (Γ Γ' : Env) (xs : List α) : Prop := ∀ (Hs G : Hp) (σ : L2.St) (H : Hp) (F X : List Cell) (Cs : List (List Cell)), Iv Hs G Γ σ H F X Cs →
  ∀ R : It → Hp → Prop, (∀ J H' F2 Cs' Y, Iv Hs G Γ' σ H' (F2 ++ F) X Cs' → Wk J (plus Hs (F2 ++ F)) xs.length Y →
    (∀ i x C, Y i x C → ∃ a, xs[i]? = some a ∧ ∀ Hb, Same (plus Hs (F2 ++ F)) Hb → (∀ c ∈ C, Hb c.1 = some c.2) → Enc.is a Hb x) → R J H') → wi σ H R
def rangeI (a b : Int) : List Int := (List.range (b - a).toNat).map fun i => a + (i : Nat)
def enumI {α : Type} (xs : List α) : List (Int × α) := xs.mapIdx fun i a => ((i : Nat), a)
theorem rangeI_len (a b : Int) : (rangeI a b).length = (b - a).toNat := by unfold rangeI; simp
theorem rangeI_get {a b : Int} {i : Nat} (h : i < (b - a).toNat) : (rangeI a b)[i]? = some (a + i) := by unfold rangeI; simp [h]
theorem enumI_len {α : Type} (xs : List α) : (enumI xs).length = xs.length := by unfold enumI; simp
theorem enumI_get {α : Type} {xs : List α} {i : Nat} {a : α} (h : xs[i]? = some a) : (enumI xs)[i]? = some ((i : Int), a) := by unfold enumI; simp [h]
section
variable {α β : Type} {_ : Enc α} {_ : Enc β} {xs : List α} {ys : List β} {i j : Int}
theorem is_list (h : Ev te Γ Γ' (Fz xs)) : Is (iList K te) Γ Γ' xs := fun Hs G σ H F X Cs I R r => h Hs G σ H F X Cs I _ fun v H1 ⟨F1, C1, Cs1, I1, e1, l, vs, e2, e3, e4⟩ => by
  subst e1
  refine ⟨l, e2, ⟨vs, SqL.of (I1.b _ _ e3)⟩, r _ _ F1 Cs1 (fun i x C => vs[i]? = some x ∧ C = []) I1 (by rw [e4.len]; exact wk_list (K := K) (SqL.of e3)) fun k x C ⟨hx, hC⟩ => ?_⟩
  obtain ⟨a, h1, h2⟩ := e4.get' hx
  exact ⟨a, h1, fun Hb s _ => Enc.mo h2 s⟩
theorem sqt_same {H H' : Hp} {l : Addr} {vs : List V} (h : H l = some (.tup vs)) : ∀ H', Same H H' → SqT K H' l vs := fun H' s => SqT.of (s _ _ h)
theorem is_tup (h : Ev te Γ Γ' (Fz (Tp.mk xs))) : Is (iTup K te) Γ Γ' xs := fun Hs G σ H F X Cs I R r => h Hs G σ H F X Cs I _ fun v H1 ⟨F1, C1, Cs1, I1, e1, l, vs, e2, e3, e4⟩ => by
  subst e1
  have hl : xs.length = vs.length := e4.len
  refine ⟨l, e2, ⟨vs, SqT.of (I1.b _ _ e3)⟩, r _ _ F1 Cs1 (fun i x C => vs[i]? = some x ∧ C = []) I1 (by rw [hl]; exact wk_tup (K := K) (fun H' s => SqT.of (s _ _ e3))) fun k x C ⟨hx, hC⟩ => ?_⟩
  obtain ⟨a, h1, h2⟩ := e4.get' hx
  exact ⟨a, h1, fun Hb s _ => Enc.mo h2 s⟩
theorem is_rng1 (h : Ev te Γ Γ' (Fz i)) (h1 : -(2 ^ 62) ≤ i := by omega) (h2 : i < 2 ^ 62 := by omega) : Is (iRng1 (tCons te tNil)) Γ Γ' (rangeI 0 i) := fun Hs G σ H F X Cs I R r => h Hs G σ H F X Cs I _ fun v H1 ⟨F1, C1, Cs1, I1, e1, e2⟩ => by
  subst e1
  refine ⟨i, by rw [e2], h1, h2, r _ _ F1 Cs1 (fun k x C => k < i.toNat ∧ x = .int (0 + k) ∧ C = []) I1 ?_ fun k x C ⟨hk, hx, hC⟩ => ⟨0 + k, rangeI_get (by omega), fun Hb s _ => hx⟩⟩
  rw [rangeI_len, show (i - 0).toNat = i.toNat by omega]
  have w := wk_range (lo := 0) (n := i.toNat) (H := plus Hs (F1 ++ F))
  exact ⟨w.go, fun k H' x H'' s hk y => let ⟨C, h1, h2, h3⟩ := w.yld k H' x H'' s hk y; ⟨C, h1, hk, h2, h3⟩, w.stop⟩
theorem is_rng2 (h : Ev ta Γ Γ1 (Fz i)) (h' : Ev tb Γ1 Γ2 (Fz j)) (h1 : -(2 ^ 62) ≤ i ∧ i < 2 ^ 62 ∧ -(2 ^ 62) ≤ j ∧ j < 2 ^ 62 := by omega) : Is (iRng2 (tCons ta (tCons tb tNil))) Γ Γ2 (rangeI i j) := fun Hs G σ H F X Cs I R r => h Hs G σ H F X Cs I _ fun v H1 ⟨F1, C1, Cs1, I1, e1, e2⟩ => by
  subst e1
  refine h' Hs G σ H1 _ _ Cs1 I1 _ fun w H2 ⟨F2, C2, Cs2, I2, e3, e4⟩ => ?_
  subst e3
  refine ⟨i, j, by rw [e2, e4], h1, r _ _ (F2 ++ F1) Cs2 (fun k x C => k < (j - i).toNat ∧ x = .int (i + k) ∧ C = []) I2.asc ?_ fun k x C ⟨hk, hx, hC⟩ => ⟨i + k, rangeI_get hk, fun Hb s _ => hx⟩⟩
  rw [rangeI_len]
  have w := wk_range (lo := i) (n := (j - i).toNat) (H := plus Hs ((F2 ++ F1) ++ F))
  exact ⟨w.go, fun k H' x H'' s hk y => let ⟨C, h1, h2, h3⟩ := w.yld k H' x H'' s hk y; ⟨C, h1, hk, h2, h3⟩, w.stop⟩
theorem is_enum (h : Ev te Γ Γ' (Fz xs)) : Is (iEnum K (tCons te tNil)) Γ Γ' (enumI xs) := fun Hs G σ H F X Cs I R r => h Hs G σ H F X Cs I _ fun v H1 ⟨F1, C1, Cs1, I1, e1, l, vs, e2, e3, e4⟩ => by
  subst e1
  refine ⟨l, vs, by rw [e2], SqL.of (I1.b _ _ e3), r _ _ F1 Cs1 (fun i x C => ∃ T y, x = .ref T ∧ vs[i]? = some y ∧ C = [(T, .tup [.int (i : Nat), y])]) I1 (by rw [enumI_len, e4.len]; exact wk_enum (K := K) (SqL.of e3)) fun k x C ⟨T, y, hx, hy, hC⟩ => ?_⟩
  obtain ⟨a, h1, h2⟩ := e4.get' hy
  exact ⟨_, enumI_get h1, fun Hb s hc => ⟨T, _, y, hx, hc _ (by rw [hC]; exact List.mem_cons_self), rfl, Enc.mo h2 s⟩⟩
theorem is_zip (h : Ev ta Γ Γ1 (Fz xs)) (h' : Ev tb Γ1 Γ2 (Fz ys)) : Is (iZip K (tCons ta (tCons tb tNil))) Γ Γ2 (xs.zip ys) := fun Hs G σ H F X Cs I R r => h Hs G σ H F X Cs I _ fun v H1 ⟨F1, C1, Cs1, I1, e1, l, vs, e2, e3, e4⟩ => by
  subst e1
  refine h' Hs G σ H1 _ _ Cs1 I1 _ fun w H2 ⟨F2, C2, Cs2, I2, e5, l', vs', e6, e7, e8⟩ => ?_
  subst e5
  have e3 := I2.up _ _ e3
  have e4 := e4.mp (S := fun a v => Enc.is a (plus Hs (F2 ++ (F1 ++ F))) v) fun _ _ r => Enc.mo r I2.up
  refine ⟨l, l', vs, vs', by rw [e2, e6], SqL.of (I2.b _ _ e3), SqL.of (I2.b _ _ e7), r _ _ (F2 ++ F1) Cs2 (fun i x C => ∃ T y z, x = .ref T ∧ vs[i]? = some y ∧ vs'[i]? = some z ∧ C = [(T, .tup [y, z])]) I2.asc (by rw [List.length_zip, e4.len, e8.len, List.append_assoc]; exact wk_zip (K := K) (SqL.of e3) (SqL.of e7)) fun k x C ⟨T, y, z, hx, hy, hz, hC⟩ => ?_⟩
  obtain ⟨a, h1, h2⟩ := e4.get' hy
  obtain ⟨b, h3, h4⟩ := e8.get' hz
  rw [List.append_assoc]
  exact ⟨(a, b), by simp [List.getElem?_zip_eq_some, h1, h3], fun Hb s hc => ⟨T, y, z, hx, hc _ (by rw [hC]; exact List.mem_cons_self), Enc.mo h2 s, Enc.mo h4 s⟩⟩
/-- list(range(..)) -/
theorem ev_rg1 (h : Ev te Γ Γ' (Fz i)) (h1 : -(2 ^ 62) ≤ i := by omega) (h2 : i ≤ 1000000 := by omega) : Ev (tLstRg (tRg1 te)) Γ Γ' (Ow (rangeI 0 i)) := ev_o1l (r := fun x H Q => ∃ n, x = .int n ∧ RgOk 0 n ∧ ∀ q, H q = none → Q (.ref q) (upd H q (.lst (rgV 0 n)))) h fun Hb H v s e => ⟨rgV 0 i, by
  unfold rgV rangeI
  exact Al.ofMap (T := fun (a : Int) v => Enc.is a Hb v) (fun k => rfl) _, fun Q q => ⟨i, e, ⟨by omega, by omega, by omega, by omega, by omega⟩, q⟩⟩
theorem ev_rg2 (h : Ev ta Γ Γ1 (Fz i)) (h' : Ev tb Γ1 Γ2 (Fz j)) (h1 : -1000000 ≤ i ∧ i ≤ 1000000 ∧ -1000000 ≤ j ∧ j ≤ 1000000 := by omega) : Ev (tLstRg (tRg2 ta tb)) Γ Γ2 (Ow (rangeI i j)) := ev_o2l (r := fun x y H Q => ∃ i j, x = .int i ∧ y = .int j ∧ RgOk i j ∧ ∀ q, H q = none → Q (.ref q) (upd H q (.lst (rgV i j)))) h h' fun Hb H v w s e e' => ⟨rgV i j, by
  unfold rgV rangeI
  exact Al.ofMap (T := fun (a : Int) v => Enc.is a Hb v) (fun k => rfl) _, fun Q q => ⟨i, j, e, e', ⟨by omega, by omega, by omega, by omega, by omega⟩, q⟩⟩
end
/-! targets -/
theorem fzp {α : Type} {_ : Enc α} {a : α} {H : Hp} {v : V} (h : Enc.is a H v) : (Fz a).p H v [] := ⟨rfl, h⟩
def Bd {α : Type} [Enc α] (g : TG) (ws : List Nat) (a : α) (Δ : Env → Env) : Prop := ∀ (Hs G : Hp) (Γ : Env) (σ : L2.St) (H : Hp) (F X : List Cell) (Cs : List (List Cell)) (v : V), Iv Hs G Γ σ H F X Cs → Enc.is a (plus Hs F) v →
  ∀ Q : L2.St → Hp → Prop, (∀ σ' Cs', wipe σ' ws = wipe σ ws → Iv Hs G (Δ Γ) σ' H F X Cs' → Q σ' H) → g v σ H Q
theorem wipe_get (σ : L2.St) (ws : List Nat) (k : Nat) : (wipe σ ws)[k]? = if k ∈ ws then (σ[k]?).map (fun _ => none) else σ[k]? := by
  induction ws with
  | nil => simp [wipe]
  | cons w ws ih =>
    unfold wipe
    by_cases h : w = k
    · subst h
      rw [if_pos List.mem_cons_self]
      by_cases hl : w < σ.length
      · rw [List.getElem?_set_self (by rw [wipe_length]; exact hl), List.getElem?_eq_getElem hl]; rfl
      · rw [List.getElem?_eq_none (by rw [List.length_set, wipe_length]; omega), List.getElem?_eq_none (by omega)]; rfl
    · rw [List.getElem?_set_ne h, ih]
      have : k ∈ w :: ws ↔ k ∈ ws := by rw [List.mem_cons]; exact ⟨fun z => z.elim (fun e => absurd e.symm h) id, .inr⟩
      by_cases hk : k ∈ ws
      · rw [if_pos hk, if_pos (this.mpr hk)]
      · rw [if_neg hk, if_neg (fun z => hk (this.mp z))]
theorem wipe_eq {σ σ' : L2.St} {ws : List Nat} (hl : σ.length = σ'.length) (h : ∀ k, k ∉ ws → σ[k]? = σ'[k]?) : wipe σ ws = wipe σ' ws := by
  refine List.ext_getElem? fun k => ?_
  rw [wipe_get, wipe_get]
  by_cases hk : k ∈ ws
  · rw [if_pos hk, if_pos hk]
    by_cases hx : k < σ.length
    · rw [List.getElem?_eq_getElem hx, List.getElem?_eq_getElem (by omega)]; rfl
    · rw [List.getElem?_eq_none (by omega), List.getElem?_eq_none (by omega)]
  · rw [if_neg hk, if_neg hk, h k hk]
section
variable {α β γ : Type} {_ : Enc α} {_ : Enc β} {_ : Enc γ}
theorem bd_n {j : Nat} (a : α) : Bd (gName j) [j] a (fun Γ => Γ.set j (some (Fz a))) := fun Hs G Γ σ H F X Cs v I h Q q => q _ _ (wipe_eq (by simp) fun k hk => by
  rw [List.getElem?_set_ne (fun e => hk (by rw [e]; exact List.mem_cons_self))]) (Iv.set (C := []) I (fzp h) j)
theorem bd_2 {i j : Nat} (a : α × β) : Bd (gTup K 2 (gCons (gName i) (gCons (gName j) gNil))) [i, j] a (fun Γ => (Γ.set i (some (Fz a.1))).set j (some (Fz a.2))) := fun Hs G Γ σ H F X Cs v I ⟨t, x, y, e, h, g1, g2⟩ Q q =>
  ⟨t, _, e, SqT.of (I.b _ _ h), rfl, x, _, rfl, y, _, rfl, rfl, q _ _ (wipe_eq (by simp) fun k hk => by
    simp only [List.mem_cons, List.not_mem_nil, or_false, not_or] at hk
    rw [List.getElem?_set_ne (fun e => hk.2 e.symm), List.getElem?_set_ne (fun e => hk.1 e.symm)]) (Iv.set (C := []) (Iv.set (C := []) I (fzp g1) i) (fzp g2) j)⟩
theorem bd_3 {i j l : Nat} (a : T3 α β γ) : Bd (gTup K 3 (gCons (gName i) (gCons (gName j) (gCons (gName l) gNil)))) [i, j, l] a (fun Γ => ((Γ.set i (some (Fz a.a))).set j (some (Fz a.b))).set l (some (Fz a.c))) := fun Hs G Γ σ H F X Cs v I ⟨t, x, y, z, e, h, g1, g2, g3⟩ Q q =>
  ⟨t, _, e, SqT.of (I.b _ _ h), rfl, x, _, rfl, y, _, rfl, z, _, rfl, rfl, q _ _ (wipe_eq (by simp) fun k hk => by
    simp only [List.mem_cons, List.not_mem_nil, or_false, not_or] at hk
    rw [List.getElem?_set_ne (fun e => hk.2.2 e.symm), List.getElem?_set_ne (fun e => hk.2.1 e.symm), List.getElem?_set_ne (fun e => hk.1 e.symm)]) (Iv.set (C := []) (Iv.set (C := []) (Iv.set (C := []) I (fzp g1) i) (fzp g2) j) (fzp g3) l)⟩
end
/-! comprehensions -/
/-- what stands of the names -/
inductive Kp : Env → Env → Prop
  | nil : Kp [] []
  | no {Γ Γ' : Env} {x : Option As} : Kp Γ Γ' → Kp (x :: Γ) (none :: Γ')
  | so {Γ Γ' : Env} {A : As} : Fr A → Kp Γ Γ' → Kp (some A :: Γ) (some A :: Γ')
theorem Kp.ok (k : Kp Γ Γ') {Hb : Hp} (h : EnvOk Hb Γ σ Cs) : EnvOk Hb Γ' σ (Γ'.map fun _ => []) := by
  induction k generalizing σ Cs with
  | nil => cases h; exact .nil
  | no _ ih =>
    cases h with
    | no y h => exact .no _ (ih h)
    | so r h => exact .no _ (ih h)
  | so f _ ih =>
    cases h with
    | so r h => exact .so (by have e := f _ _ _ r; rw [e] at r; exact r) (ih h)
def wipeE (Γ : Env) : List Nat → Env
  | [] => Γ
  | v :: vs => (wipeE Γ vs).set v none
theorem nils_set (Γ : Env) (v : Nat) (x : Option As) : (Γ.map fun _ => ([] : List Cell)).set v [] = (Γ.set v x).map fun _ => [] := by
  rw [List.map_set]
theorem wip_nils (Γ : Env) : ∀ ws, (wipeE Γ ws).map (fun _ => ([] : List Cell)) = Γ.map fun _ => []
  | [] => rfl
  | v :: ws => by
    unfold wipeE
    rw [← nils_set, wip_nils Γ ws]
    refine List.ext_getElem? fun k => ?_
    by_cases h : v = k
    · subst h
      by_cases hl : v < Γ.length
      · rw [List.getElem?_set_self (by simpa using hl)]; simp [hl]
      · rw [List.getElem?_eq_none (by simp; omega), List.getElem?_eq_none (by simp; omega)]
    · rw [List.getElem?_set_ne h]
theorem EnvOk.wipN {Hb : Hp} (h : EnvOk Hb Γ σ (Γ.map fun _ => [])) (ws : List Nat) : EnvOk Hb (wipeE Γ ws) (wipe σ ws) (Γ.map fun _ => []) := by
  induction ws with
  | nil => exact h
  | cons v ws ih =>
    unfold wipeE wipe
    have := ih.wip v none
    rw [← wip_nils Γ ws, nils_set _ v none] at this
    rw [← wip_nils Γ (v :: ws)]
    exact this
end
end Cc

namespace Cc
open PySem L2
section
variable {te ta tb tc : TE} {tt tu : TT} {tr : TA} {wi : TI} {g : TG} {Γ Γ1 Γ2 Γ3 Γ' Γb : Env} {A B : As} {Bs : List As} {Hs G : Hp} {σ : L2.St} {H H' : Hp} {F F2 X C : List Cell} {Cs : List (List Cell)} {K : PySem.W.Frag} {b c : Bool}
/-- [e for .. in .. if ..] -/
theorem ev_lc {α : Type} {_ : Enc α} {xs : List α} {ws : List Nat} {Δ : α → Env → Env} (q : α → Bool) (B : α → As) (hs : Is wi Γ Γ1 xs) (hk : Kp Γ1 Γb) (hb : ∀ a, Bd g ws a (Δ a)) (hn : xs.length ≤ 50000)
    (ht : ∀ a ∈ xs, ∃ Γx, Et tt (Δ a (wipeE Γb ws)) Γx (q a) ∧ (q a = true → ∃ Γy, Ev te Γx Γy (B a))) : Ev (tLc wi g tt te ws) Γ Γ1 (OwL ((xs.filter q).map B)) := fun Hs G σ H F X Cs I Q kq => by
  refine hs Hs G σ H F X Cs I _ fun J H1 F1 Cs1 Y I1 w hY => ?_
  intro D hD
  have hb1 := I1.b
  refine ⟨fun i m H' => m = xs.length - i ∧ i ≤ xs.length ∧ ∃ (F' : List Cell) (vs : List V) (Co : List (List Cell)), Lo H1 H' ((D, .lst vs) :: (F' ++ Co.flatten)) ∧ Al3 (plus (plus Hs (F1 ++ F)) F') (((xs.take i).filter q).map B) vs Co,
    ⟨xs.length, by simp, Nat.zero_le _, [], [], [], (Lo.nil H1).al hD _, .nil⟩, ?_⟩
  rintro i m H' ⟨rfl, hi, F', vs, Co, L, r⟩
  have sb : Same (plus Hs (F1 ++ F)) H' := hb1.trans L.sm
  by_cases hlt : i < xs.length
  · refine .inr ⟨w.go i H' sb hlt, fun H' => i + 1 ≤ xs.length ∧ ∃ (F' : List Cell) (vs : List V) (Co : List (List Cell)), Lo H1 H' ((D, .lst vs) :: (F' ++ Co.flatten)) ∧ Al3 (plus (plus Hs (F1 ++ F)) F') (((xs.take (i + 1)).filter q).map B) vs Co,
      fun H'' p' => ⟨xs.length - (i + 1), by omega, rfl, p'⟩, fun x H'' y => ?_⟩
    obtain ⟨Cy, LC, yy⟩ := w.yld i H' x H'' sb hlt y
    obtain ⟨a, ea, isa⟩ := hY i x Cy yy
    have L2 : Lo H1 H'' ((Cy ++ F') ++ ((D, .lst vs) :: Co.flatten)) := (L.ca LC).pk [Cy, [(D, .lst vs)], F', Co.flatten] [0, 1, 2, 3] [0, 2, 1, 3]
    have L2F : Lo H1 H'' (Cy ++ F') := L2.sub (List.sublist_append_left _ _)
    -- the base of this turn
    have s1 : Same (plus Hs (F1 ++ F)) (plus (plus Hs (F1 ++ F)) (Cy ++ F')) := L2F.pSame hb1
    have s2 : Same (plus (plus Hs (F1 ++ F)) (Cy ++ F')) H'' := L2F.pLe hb1
    have s3 : Same (plus (plus Hs (F1 ++ F)) F') (plus (plus Hs (F1 ++ F)) (Cy ++ F')) := L2F.pUp hb1 fun c hc => List.mem_append_right _ hc
    have I0 : Iv (plus (plus Hs (F1 ++ F)) (Cy ++ F')) H'' (wipeE Γb ws) (wipe σ ws) H'' [] [] (Γb.map fun _ => []) :=
      ⟨s2, by rw [nils_flat' Γb]; exact Lo.nil _, (hk.ok (I1.ok.mo s1)).wipN ws, fun c hc => nomatch hc⟩
    obtain ⟨Γx, hx, hy⟩ := ht a (List.mem_of_getElem? ea)
    refine hb a _ _ _ _ _ _ _ _ x I0 (isa _ s1 fun c hc => L2F.pGc (List.mem_append_left _ hc)) _ fun σ2 Cs2 e2 I2 => ⟨by rw [e2]; exact wipe_wipe σ ws, ?_⟩
    refine hx _ _ _ _ _ _ _ I2 _ fun H3 F3 Cs3 I3 => ?_
    have et : (xs.take (i + 1)).filter q = (xs.take i).filter q ++ (if q a = true then [a] else []) := by
      rw [List.take_add_one, ea, List.filter_append]
      show _ ++ [a].filter q = _
      rw [List.filter_cons]
      rfl
    have vlen : vs.length ≤ i := by
      rw [r.lenV, List.length_map]
      exact Nat.le_trans (List.length_filter_le _ _) (by rw [List.length_take]; omega)
    cases hq : q a with
    | false =>
      refine iteF ⟨hlt, F3 ++ (Cy ++ F'), vs, Co, ?_, ?_⟩
      · have L3 : Lo H'' H3 F3 := I3.lo.pk [F3, Cs3.flatten] [0, 1] [0] [1]
        exact (L2.ca L3).pk [F3, Cy, F', [(D, .lst vs)], Co.flatten] [0, 1, 2, 3, 4] [3, 0, 1, 2, 4]
      · rw [et, hq, if_neg (by decide), List.append_nil]
        have L3 : Lo H'' H3 F3 := I3.lo.pk [F3, Cs3.flatten] [0, 1] [0] [1]
        have L4 : Lo H1 H3 (F3 ++ (Cy ++ F')) := L2F.ca L3
        exact r.mo (L4.pUp hb1 fun c hc => List.mem_append_right _ (List.mem_append_right _ hc))
    | true =>
      obtain ⟨Γy, hy⟩ := hy hq
      refine iteT (hy _ _ _ _ _ _ _ I3 _ fun y H4 ⟨F4, C4, Cs4, I4, r4⟩ => ?_)
      have L3 : Lo H'' H4 ((F4 ++ F3) ++ C4) := I4.lo.pk [F4, F3, C4, Cs4.flatten] [0, 1, 2, 3] [0, 1, 2] [3]
      have L4 : Lo H1 H4 ((D, .lst vs) :: (((F4 ++ F3) ++ (Cy ++ F')) ++ (Co.flatten ++ C4))) := (L2.ca L3).pk [F4, F3, C4, Cy, F', [(D, .lst vs)], Co.flatten] [0, 1, 2, 3, 4, 5, 6] [5, 0, 1, 3, 4, 6, 2]
      refine ⟨vs, L4.get List.mem_cons_self, szl (by omega), hlt, (F4 ++ F3) ++ (Cy ++ F'), vs ++ [y], Co ++ [C4], ?_, ?_⟩
      · have := L4.wr0 (.lst (vs ++ [y]))
        rw [List.flatten_append]
        simpa using this
      · rw [et, hq, if_pos rfl, List.map_append]
        have L4F : Lo H1 H4 ((F4 ++ F3) ++ (Cy ++ F')) := L4.pk [[(D, .lst vs)], F4, F3, Cy, F', Co.flatten, C4] [0, 1, 2, 3, 4, 5, 6] [1, 2, 3, 4] [0, 5, 6]
        refine (r.mo (L4F.pUp hb1 fun c hc => List.mem_append_right _ (List.mem_append_right _ hc))).app (.cons ?_ .nil)
        rw [List.append_nil, plus_plus] at r4
        exact r4
  · have e : i = xs.length := by omega
    subst e
    rw [List.take_length] at r
    refine .inl ⟨w.stop H' sb, kq _ _ ⟨F' ++ F1, (D, .lst vs) :: Co.flatten, Cs1, ?_, D, vs, Co, rfl, rfl, ?_⟩⟩
    · refine (I1.ext (F2 := F') (C := (D, .lst vs) :: Co.flatten) (L.pk [[(D, .lst vs)], F', Co.flatten] [0, 1, 2] [1, 0, 2]) fun c hc => ?_).asc
      rcases List.mem_cons.mp hc with rfl | hc
      · exact fun xs z => by cases z
      · exact r.nt c hc
    · rw [List.append_assoc, ← plus_plus]
      exact r
where
  nils_flat' (Γ : Env) : [] ++ ([] ++ (Γ.map fun _ => ([] : List Cell)).flatten) = [] := by rw [flat_none]; rfl
  wipe_wipe (σ : L2.St) (ws : List Nat) : wipe (wipe σ ws) ws = wipe σ ws := wipe_eq (by rw [wipe_length]) fun k hk => by rw [wipe_get, if_neg hk]
end
end Cc

namespace Cc
open PySem L2
/-! statements -/
structure Post where
  nx : Env → Prop
  rt : As → Prop
  bk : Env → Prop := fun _ => False
  ct : Env → Prop := fun _ => False
def Wp (ts : TS) (Γ : Env) (R : Post) : Prop := ∀ (Hs G : Hp) (σ : L2.St) (H : Hp) (F X : List Cell) (Cs : List (List Cell)) (D : Ends), Iv Hs G Γ σ H F X Cs →
  (∀ Γ' σ' H' F2 Cs', R.nx Γ' → Iv Hs G Γ' σ' H' (F2 ++ F) X Cs' → D.nx σ' H') →
  (∀ A v H' F2 C, R.rt A → Lo G H' ((F2 ++ F) ++ (C ++ X)) → A.p (plus Hs (F2 ++ F)) v C → D.rt v H') →
  (∀ Γ' σ' H' F2 Cs', R.bk Γ' → Iv Hs G Γ' σ' H' (F2 ++ F) X Cs' → D.bk σ' H') →
  (∀ Γ' σ' H' F2 Cs', R.ct Γ' → Iv Hs G Γ' σ' H' (F2 ++ F) X Cs' → D.ct σ' H') → ts D σ H
section
variable {te ta tb tc ty tv : TE} {tt tu : TT} {tr : TA} {wi : TI} {g : TG} {ts tz tw : TS} {Γ Γ1 Γ2 Γ3 Γ' Γb : Env} {A B : As} {Bs : List As} {K : PySem.W.Frag} {b c : Bool} {R R' : Post} {i j l : Nat}
theorem wp_seq (h : Wp ts Γ { R with nx := fun Γ' => Wp tz Γ' R }) : Wp (tSeq ts tz) Γ R := fun Hs G σ H F X Cs D I nx rt bk ct =>
  h Hs G σ H F X Cs { D with nx := tz D } I (fun Γ' σ' H' F2 Cs' h' I' => h' Hs G σ' H' _ X Cs' D I' (fun Γ2 σ2 H2 F3 Cs2 r2 I2 => nx Γ2 σ2 H2 _ Cs2 r2 I2.asc)
    (fun A v H2 F3 C r2 L2 p2 => rt A v H2 (F3 ++ F2) C r2 (by rw [List.append_assoc F3]; exact L2) (by rw [List.append_assoc F3]; exact p2))
    (fun Γ2 σ2 H2 F3 Cs2 r2 I2 => bk Γ2 σ2 H2 _ Cs2 r2 I2.asc) (fun Γ2 σ2 H2 F3 Cs2 r2 I2 => ct Γ2 σ2 H2 _ Cs2 r2 I2.asc)) rt bk ct
theorem wp_w (h : Wp ts Γ R) (n : ∀ Γ, R.nx Γ → R'.nx Γ) (r : ∀ A, R.rt A → R'.rt A) (b : ∀ Γ, R.bk Γ → R'.bk Γ) (c : ∀ Γ, R.ct Γ → R'.ct Γ) : Wp ts Γ R' := fun Hs G σ H F X Cs D I nx rt bk ct =>
  h Hs G σ H F X Cs D I (fun Γ' σ' H' F2 Cs' q => nx Γ' σ' H' F2 Cs' (n _ q)) (fun A v H' F2 C q => rt A v H' F2 C (r _ q)) (fun Γ' σ' H' F2 Cs' q => bk Γ' σ' H' F2 Cs' (b _ q)) (fun Γ' σ' H' F2 Cs' q => ct Γ' σ' H' F2 Cs' (c _ q))
theorem wp_next (h : R.nx Γ) : Wp tNext Γ R := fun Hs G σ H F X Cs D I nx rt bk ct => nx Γ σ H [] Cs h I
theorem wp_brk (h : R.bk Γ) : Wp tBreak Γ R := fun Hs G σ H F X Cs D I nx rt bk ct => bk Γ σ H [] Cs h I
theorem wp_cont (h : R.ct Γ) : Wp tCont Γ R := fun Hs G σ H F X Cs D I nx rt bk ct => ct Γ σ H [] Cs h I
theorem wp_ret (h : Ev te Γ Γ1 A) (r : R.rt A) : Wp (tRet te) Γ R := fun Hs G σ H F X Cs D I nx rt bk ct => h Hs G σ H F X Cs I _ fun v H' ⟨F2, C, Cs', I', p⟩ =>
  rt A v H' F2 C r (I'.lo.pk [F2, F, C, X, Cs'.flatten] [0, 1, 2, 3, 4] [0, 1, 2, 3] [4]) p
theorem wp_retN (r : R.rt (Fz ())) : Wp tRetN Γ R := fun Hs G σ H F X Cs D I nx rt bk ct => rt _ _ H [] [] r (I.lo.pk [F, X, Cs.flatten] [0, 1, 2] [0, 1] [2]) ⟨rfl, rfl⟩
theorem wp_asg (h : Ev te Γ Γ1 A) (n : R.nx (Γ1.set i (some A))) : Wp (tAsg te (gName i)) Γ R := fun Hs G σ H F X Cs D I nx rt bk ct => h Hs G σ H F X Cs I _ fun v H' ⟨F2, C, Cs', I', p⟩ => nx _ _ H' F2 _ n (I'.set p i)
theorem wp_bnd {α : Type} {_ : Enc α} {a : α} {ws : List Nat} {Δ : Env → Env} (h : Ev te Γ Γ1 (Fz a)) (hb : Bd g ws a Δ) (n : R.nx (Δ Γ1)) : Wp (tAsg te g) Γ R := fun Hs G σ H F X Cs D I nx rt bk ct => h Hs G σ H F X Cs I _ fun v H' ⟨F2, C, Cs', I', e, p⟩ => by
  subst e
  exact hb Hs G Γ1 σ H' _ _ _ v I' p _ fun σ2 Cs2 _ I2 => nx _ _ H' F2 _ n I2
theorem wp_drop (h : Ev te Γ Γ1 A) (n : R.nx Γ1) : Wp (tDrop te) Γ R := fun Hs G σ H F X Cs D I nx rt bk ct => h Hs G σ H F X Cs I _ fun v H' ⟨F2, C, Cs', I', p⟩ => nx _ _ H' F2 _ n I'.drop
theorem wp_if (h : Et tt Γ Γ1 b) (h1 : b = true → Wp ts Γ1 R) (h2 : b = false → Wp tz Γ1 R) : Wp (tIfS tt ts tz) Γ R := fun Hs G σ H F X Cs D I nx rt bk ct => h Hs G σ H F X Cs I _ fun H1 F1 Cs1 I1 => by
  have k : ∀ tw, Wp tw Γ1 R → tw D σ H1 := fun tw hw => hw Hs G σ H1 _ X Cs1 D I1 (fun Γ2 σ2 H2 F3 Cs2 r2 I2 => nx Γ2 σ2 H2 _ Cs2 r2 I2.asc)
    (fun A v H2 F3 C r2 L2 p2 => rt A v H2 (F3 ++ F1) C r2 (by rw [List.append_assoc F3]; exact L2) (by rw [List.append_assoc F3]; exact p2))
    (fun Γ2 σ2 H2 F3 Cs2 r2 I2 => bk Γ2 σ2 H2 _ Cs2 r2 I2.asc) (fun Γ2 σ2 H2 F3 Cs2 r2 I2 => ct Γ2 σ2 H2 _ Cs2 r2 I2.asc)
  cases b with
  | true => exact iteT (k _ (h1 rfl))
  | false => exact iteF (k _ (h2 rfl))
theorem wp_par (h : Ev ta Γ Γ1 A) (h' : Ev tb Γ1 Γ2 B) (n : R.nx ((Γ2.set i (some A)).set j (some B))) : Wp (tPar i j (tCons ta (tCons tb tNil))) Γ R := fun Hs G σ H F X Cs D I nx rt bk ct => h Hs G σ H F X Cs I _ fun v H1 ⟨F1, C1, Cs1, I1, p1⟩ =>
  h' Hs G σ H1 _ _ Cs1 I1 _ fun w H2 ⟨F2, C2, Cs2, I2, p2⟩ => by
    have I3 := (I2.px (X' := C1 ++ (C2 ++ X)) (by rw [← List.append_assoc, ← List.append_assoc]; exact List.perm_append_comm.append_right _)).set (As.mo _ p1 I2.up) i
    exact ⟨v, w, rfl, nx _ _ H2 _ _ n (I3.set p2 j).asc⟩
theorem wp_par3 {A3 : As} (h : Ev ta Γ Γ1 A) (h' : Ev tb Γ1 Γ2 B) (h'' : Ev tc Γ2 Γ3 A3) (n : R.nx (((Γ3.set i (some A)).set j (some B)).set l (some A3))) : Wp (tPar3 i j l (tCons ta (tCons tb (tCons tc tNil)))) Γ R := fun Hs G σ H F X Cs D I nx rt bk ct => h Hs G σ H F X Cs I _ fun v H1 ⟨F1, C1, Cs1, I1, p1⟩ =>
  h' Hs G σ H1 _ _ Cs1 I1 _ fun w H2 ⟨F2, C2, Cs2, I2, p2⟩ => h'' Hs G σ H2 _ _ Cs2 I2 _ fun u H3 ⟨F3, C3, Cs3, I3, p3⟩ => by
    have J1 : Iv Hs G Γ3 σ H3 (F3 ++ (F2 ++ (F1 ++ F))) (C1 ++ (C2 ++ (C3 ++ X))) Cs3 := ⟨I3.ls, I3.lo.pk [F3, F2, F1, F, C3, C2, C1, X, Cs3.flatten] [0, 1, 2, 3, 4, 5, 6, 7, 8] [0, 1, 2, 3, 6, 5, 4, 7, 8], I3.ok, fun c hc => I3.nx c (by
      simp only [List.mem_append] at hc ⊢
      rcases hc with h | h | h | h
      · exact .inr (.inr (.inl h))
      · exact .inr (.inl h)
      · exact .inl h
      · exact .inr (.inr (.inr h)))⟩
    have J2 := J1.set (As.mo _ (As.mo _ p1 I2.up) I3.up) i
    have J3 := J2.set (As.mo _ p2 I3.up) j
    have J4 := (J3.set p3 l).asc.asc
    exact ⟨v, w, u, rfl, nx _ _ H3 _ _ n (by rw [List.append_assoc, List.append_assoc] at J4; exact J4.asc.asc)⟩
theorem wp_aug {x y : Int} {f : Int → Int → Int} (e : Γ[i]? = some (some (Fz x))) (h : Ev te Γ Γ1 (Fz y)) (n : R.nx (Γ1.set i (some (Fz (f x y))))) : Wp (tAug i te (ipI f)) Γ R := fun Hs G σ H F X Cs D I nx rt bk ct => by
  obtain ⟨v, C, C1, C2, h1, h2, h3, h4, h5⟩ := I.ok.get e
  refine ⟨v, h1, h Hs G σ H F X Cs I _ fun w H' ⟨F2, C, Cs', I', e', p⟩ => ⟨x, y, h5, p, ?_⟩⟩
  subst e'
  exact nx _ _ H' F2 _ n (Iv.set (C := []) I' (fzp (a := f x y) rfl) i)
/-! own lists changed -/
theorem Iv.lst {Hs G : Hp} {σ : L2.St} {H : Hp} {F X : List Cell} {Cs : List (List Cell)} (I : Iv Hs G Γ σ H F X Cs) (e : Γ[i]? = some (some (OwL Bs))) : ∃ l vs Co, σ[i]? = some (some (.ref l)) ∧ H l = some (.lst vs) ∧ Al3 (plus Hs F) Bs vs Co ∧
    ∀ {Bs' : List As} {vs' : List V} {Co' : List (List Cell)} {Y : List Cell}, (Co.flatten ++ X).Perm (Co'.flatten ++ Y) → Al3 (plus Hs F) Bs' vs' Co' → ∃ Cs', Iv Hs G (Γ.set i (some (OwL Bs'))) σ (upd H l (.lst vs')) F Y Cs' := by
  obtain ⟨v, C, h1, ⟨l, vs, Co, e1, e2, r⟩, I2⟩ := I.out e
  subst e1 e2
  refine ⟨l, vs, Co, h1, I2.gX (c := (l, .lst vs)) List.mem_cons_self, r, fun {Bs' vs' Co' Y} hp r' => ?_⟩
  have L : Lo G (upd H l (.lst vs')) (F ++ (l, .lst vs') :: ((Co.flatten ++ X) ++ (Cs.set i []).flatten)) := Lo.wr (A := F) (by have := I2.lo; simpa using this) (.lst vs')
  have L2 : Lo G (upd H l (.lst vs')) (F ++ ((((l, .lst vs') :: Co'.flatten) ++ Y) ++ (Cs.set i []).flatten)) := L.perm (by
    refine List.Perm.append_left _ ?_
    simp only [List.cons_append]
    exact List.Perm.cons _ (hp.append_right _))
  have I3 : Iv Hs G (Γ.set i none) σ (upd H l (.lst vs')) F (((l, .lst vs') :: Co'.flatten) ++ Y) (Cs.set i []) := ⟨I2.ls, L2, I2.ok, fun c hc => by
    rcases List.mem_append.mp hc with hc | hc
    · rcases List.mem_cons.mp hc with rfl | hc
      · exact fun xs z => by cases z
      · exact r'.nt c hc
    · have : c ∈ Co.flatten ++ X := hp.mem_iff.mpr (List.mem_append_right _ hc)
      exact I2.nx c (by rw [List.cons_append]; exact List.mem_cons_of_mem _ this)⟩
  have I4 := I3.put (A := OwL Bs') h1 ⟨l, vs', Co', rfl, rfl, r'⟩
  rw [List.set_set] at I4
  exact ⟨_, I4⟩
theorem wp_app (e : Γ[i]? = some (some (OwL Bs))) (h : Ev te Γ Γ1 A) (e1 : Γ1[i]? = some (some (OwL Bs'))) (hn : Bs'.length < 99999) (n : R.nx (Γ1.set i (some (OwL (Bs' ++ [A]))))) : Wp (tDrop (tBM K "list" rAppend (tVar i) (tCons te tNil))) Γ R := fun Hs G σ H F X Cs D I nx rt bk ct => by
  obtain ⟨l, vs, Co, h1, h2, h3, _⟩ := I.lst e
  refine ⟨_, h1, .inl ⟨rfl, _, SqL.of h2⟩, h Hs G σ H F X Cs I _ fun w H' ⟨F2, C, Cs', I', p⟩ => ?_⟩
  obtain ⟨l', vs', Co', h1', h2', h3', k⟩ := I'.lst e1
  rw [h1] at h1'
  cases h1'
  obtain ⟨Cs2, I2⟩ := k (Bs' := Bs' ++ [A]) (vs' := vs' ++ [w]) (Co' := Co' ++ [C]) (Y := X) (by rw [List.flatten_append]; simp) (h3'.app (.cons p .nil))
  exact ⟨l, vs', w, rfl, rfl, h2', szl (by rw [h3'.lenV]; omega), nx _ _ _ F2 _ n I2⟩
theorem wp_appF {α : Type} {_ : Enc α} {xs : List α} {a : α} (e : Γ[i]? = some (some (Ow xs))) (h : Ev te Γ Γ1 (Fz a)) (e1 : Γ1[i]? = some (some (Ow xs))) (hn : xs.length < 99999) (n : R.nx (Γ1.set i (some (Ow (xs ++ [a]))))) : Wp (tDrop (tBM K "list" rAppend (tVar i) (tCons te tNil))) Γ R :=
  wp_app e h e1 (by rw [List.length_map]; exact hn) (by rw [show xs.map Fz ++ [Fz a] = (xs ++ [a]).map Fz by simp]; exact n)
theorem wp_ext {α : Type} {_ : Enc α} {xs ys : List α} (e : Γ[i]? = some (some (Ow xs))) (h : Ev te Γ Γ1 (Fz ys)) (e1 : Γ1[i]? = some (some (Ow xs))) (hn : xs.length + ys.length ≤ 99999) (n : R.nx (Γ1.set i (some (Ow (xs ++ ys))))) : Wp (tDrop (tBM K "list" rExtend (tVar i) (tCons te tNil))) Γ R := fun Hs G σ H F X Cs D I nx rt bk ct => by
  obtain ⟨l, vs, Co, h1, h2, h3, _⟩ := I.lst e
  refine ⟨_, h1, .inl ⟨rfl, _, SqL.of h2⟩, h Hs G σ H F X Cs I _ fun w H' ⟨F2, C, Cs', I', e', lb, zs, q1, q2, q3⟩ => ?_⟩
  subst e'
  obtain ⟨l', vs', Co', h1', h2', h3', k⟩ := I'.lst e1
  rw [h1] at h1'
  cases h1'
  obtain ⟨r1, r2⟩ := h3'.fz'
  obtain ⟨Cs2, I2⟩ := k (Bs' := (xs ++ ys).map Fz) (vs' := vs' ++ zs) (Co' := (xs ++ ys).map fun _ => []) (Y := X) (by rw [r2, flat_none]; exact List.Perm.refl _) (Al3.fz (r1.app q3))
  exact ⟨l, lb, vs', zs, rfl, by rw [q1], h2', I'.b _ _ q2, sz (by rw [← r1.len, ← q3.len]; omega), nx _ _ _ F2 _ n I2⟩
theorem wp_ins {α : Type} {_ : Enc α} {xs : List α} {k : Int} {a : α} (e : Γ[i]? = some (some (Ow xs))) (h : Ev ta Γ Γ1 (Fz k)) (h' : Ev tb Γ1 Γ2 (Fz a)) (e1 : Γ2[i]? = some (some (Ow xs))) (hn : xs.length < 99999) (k1 : 0 ≤ k) (k2 : k < 2 ^ 63) (n : R.nx (Γ2.set i (some (Ow (xs.take k.toNat ++ [a] ++ xs.drop k.toNat))))) :
    Wp (tDrop (tBM K "list" qInsert (tVar i) (tCons ta (tCons tb tNil)))) Γ R := fun Hs G σ H F X Cs D I nx rt bk ct => by
  obtain ⟨l, vs, Co, h1, h2, h3, _⟩ := I.lst e
  refine ⟨_, h1, .inl ⟨rfl, _, SqL.of h2⟩, h Hs G σ H F X Cs I _ fun w H' ⟨F1, C1, Cs', I', e', p⟩ => ?_⟩
  subst e'
  refine h' Hs G σ H' _ _ _ I' _ fun u H2 ⟨F2, C2, Cs2, I2, e2, p2⟩ => ?_
  subst e2
  obtain ⟨l', vs', Co', h1', h2', h3', kk⟩ := I2.lst e1
  rw [h1] at h1'
  cases h1'
  obtain ⟨r1, r2⟩ := h3'.fz'
  have r3 := ((r1.take k.toNat).app (Al.cons p2 .nil)).app (r1.drop k.toNat)
  obtain ⟨Cs2, I3⟩ := kk (Co' := (xs.take k.toNat ++ [a] ++ xs.drop k.toNat).map fun _ => []) (Y := X) (by rw [r2, flat_none]; exact List.Perm.refl _) (Al3.fz r3)
  have p : w = .int k := p
  exact ⟨l, vs', k, u, rfl, by rw [p], h2', szl (by rw [← r1.len]; omega), k1, k2, nx _ _ _ _ _ n I3.asc⟩
/-- xs[k] = e -/
theorem wp_six {k : Int} {m : Nat} (h : Ev te Γ Γ1 A) (h' : Ev tb Γ1 Γ2 (Fz k)) (e0 : Γ1[i]? = some (some B)) (e1 : Γ2[i]? = some (some (OwL Bs))) (hk : ixN Bs.length k = some m) (n : R.nx (Γ2.set i (some (OwL (Bs.set m A))))) :
    Wp (tAsg te (gSub (tVar i) tb rSetL)) Γ R := fun Hs G σ H F X Cs D I nx rt bk ct => h Hs G σ H F X Cs I _ fun w H1 ⟨F1, C1, Cs1, I1, p1⟩ => by
  obtain ⟨v, _, _, _, h1, _⟩ := I1.ok.get e0
  refine ⟨v, h1, h' Hs G σ H1 _ _ _ I1 _ fun u H2 ⟨F2, C2, Cs2, I2, e2, p2⟩ => ?_⟩
  subst e2
  obtain ⟨l, vs, Co, g1, g2, g3, kk⟩ := I2.lst e1
  rw [h1] at g1
  cases g1
  have hm : m < Bs.length := by
    unfold ixN at hk
    split at hk
    · split at hk
      · cases hk; omega
      · cases hk
    · split at hk
      · cases hk; omega
      · cases hk
  have hC : Co[m]? = some (Co[m]'(by rw [g3.lenC]; exact hm)) := get_some _
  obtain ⟨R0, q1, q2⟩ := flat_set_perm (C := C1) hC
  obtain ⟨Cs3, I3⟩ := kk (Bs' := Bs.set m A) (vs' := vs.set m w) (Co' := Co.set m C1) (Y := (Co[m]'(by rw [g3.lenC]; exact hm)) ++ X) (by
    refine ((q1.append_right _).trans ?_).trans ((q2.symm.append_right _))
    generalize Co[m]'(by rw [g3.lenC]; exact hm) = Dm
    show ((Dm ++ R0) ++ (C1 ++ X)).Perm ((C1 ++ R0) ++ (Dm ++ X))
    simp only [List.append_assoc]
    have a1 : (Dm ++ (R0 ++ (C1 ++ X))).Perm ((R0 ++ (C1 ++ X)) ++ Dm) := List.perm_append_comm
    have a2 : (C1 ++ (R0 ++ (Dm ++ X))).Perm ((R0 ++ (Dm ++ X)) ++ C1) := List.perm_append_comm
    refine a1.trans (List.Perm.trans ?_ a2.symm)
    simp only [List.append_assoc]
    refine List.Perm.append_left _ ?_
    have a3 : (C1 ++ (X ++ Dm)).Perm ((X ++ Dm) ++ C1) := List.perm_append_comm
    refine a3.trans ?_
    simpa only [List.append_assoc] using (List.perm_append_comm (l₁ := X) (l₂ := Dm)).append_right C1) (g3.set (As.mo _ p1 I2.up) m)
  have p2 : u = .int k := p2
  exact ⟨l, vs, k, m, rfl, p2, g2, by rw [g3.lenV]; exact hk, nx _ _ _ _ _ n (Iv.drop I3).asc⟩
end
end Cc

namespace Cc
open PySem L2
section
variable {te ta tb tc ty tv : TE} {tt tu : TT} {tr : TA} {wi : TI} {g : TG} {ts tz tw tbd : TS} {Γ Γ1 Γ2 Γ3 Γ' Γb : Env} {A B : As} {Bs : List As} {K : PySem.W.Frag} {b c : Bool} {R R' : Post} {i j l : Nat}
/-! loops -/
theorem wp_for {α : Type} {_ : Enc α} {xs : List α} {ws : List Nat} {Δ : α → Env → Env} (hs : Is wi Γ Γ1 xs) (hb : ∀ a, Bd g ws a (Δ a)) (P : Nat → Env → Prop) (h0 : P 0 Γ1)
    (ht : ∀ i a Γ, xs[i]? = some a → P i Γ → Wp tbd (Δ a Γ) { nx := P (i + 1), ct := P (i + 1), bk := R.nx, rt := R.rt }) (hd : ∀ Γ, P xs.length Γ → R.nx Γ) : Wp (tFor wi g tbd) Γ R := fun Hs G σ H F X Cs D I nx rt bk ct => by
  refine hs Hs G σ H F X Cs I _ fun J H1 F1 Cs1 Y I1 w hY => ?_
  refine ⟨fun i m σ' H' => m = xs.length - i ∧ i ≤ xs.length ∧ ∃ Γ' F2 Cs', P i Γ' ∧ Iv Hs G Γ' σ' H' (F2 ++ (F1 ++ F)) X Cs', ⟨xs.length, by simp, Nat.zero_le _, Γ1, [], Cs1, h0, I1⟩, ?_⟩
  rintro i m σ' H' ⟨rfl, hi, Γ', F2, Cs', hp, I'⟩
  have sb : Same (plus Hs (F1 ++ F)) H' := I'.up.trans I'.b
  by_cases hlt : i < xs.length
  · refine .inr ⟨w.go i H' sb hlt, fun σ' H' => ∃ Γ' F2 Cs', P (i + 1) Γ' ∧ Iv Hs G Γ' σ' H' (F2 ++ (F1 ++ F)) X Cs', fun σ2 H2 p2 => ⟨xs.length - (i + 1), by omega, rfl, hlt, p2⟩, fun x H2 y => ?_⟩
    obtain ⟨Cy, LC, yy⟩ := w.yld i H' x H2 sb hlt y
    obtain ⟨a, ea, isa⟩ := hY i x Cy yy
    have I2 : Iv Hs G Γ' σ' H2 (Cy ++ (F2 ++ (F1 ++ F))) X Cs' := I'.ext (F2 := Cy) (C := []) (by rw [List.append_nil]; exact LC) (fun c hc => nomatch hc)
    have s2 : Same (plus Hs (F1 ++ F)) (plus Hs (Cy ++ (F2 ++ (F1 ++ F)))) := I'.up.trans I2.up
    refine hb a Hs G Γ' σ' H2 _ X Cs' x I2 (isa _ s2 fun c hc => I2.loF.pGc (List.mem_append_left _ hc)) _ fun σ3 Cs3 _ I3 => ?_
    refine ht i a Γ' ea hp Hs G σ3 H2 _ X Cs3 _ I3 (fun Γ4 σ4 H4 F4 Cs4 r4 I4 => ⟨Γ4, F4 ++ (Cy ++ F2), Cs4, r4, by simpa only [List.append_assoc] using I4⟩) (fun A v H4 F4 C4 r4 L4 p4 => rt A v H4 (F4 ++ (Cy ++ (F2 ++ F1))) C4 r4 (by simpa only [List.append_assoc] using L4) (by simpa only [List.append_assoc] using p4))
      (fun Γ4 σ4 H4 F4 Cs4 r4 I4 => nx Γ4 σ4 H4 (F4 ++ (Cy ++ (F2 ++ F1))) Cs4 r4 (by simpa only [List.append_assoc] using I4)) (fun Γ4 σ4 H4 F4 Cs4 r4 I4 => ⟨Γ4, F4 ++ (Cy ++ F2), Cs4, r4, by simpa only [List.append_assoc] using I4⟩)
  · have e : i = xs.length := by omega
    subst e
    exact .inl ⟨w.stop H' sb, nx Γ' σ' H' _ Cs' (hd _ hp) I'.asc⟩
theorem wp_while (P : Nat → Env → Prop) (m0 : Nat) (h0 : P m0 Γ)
    (ht : ∀ m Γ, P m Γ → ∃ b Γ1, Et tt Γ Γ1 b ∧ (b = true → Wp tbd Γ1 { nx := fun Γ' => ∃ m', m' < m ∧ P m' Γ', ct := fun Γ' => ∃ m', m' < m ∧ P m' Γ', bk := R.nx, rt := R.rt }) ∧ (b = false → R.nx Γ1)) : Wp (tWhile tt tbd) Γ R := fun Hs G σ H F X Cs D I nx rt bk ct => by
  refine ⟨fun m σ' H' => ∃ Γ' F2 Cs', P m Γ' ∧ Iv Hs G Γ' σ' H' (F2 ++ F) X Cs', ⟨m0, Γ, [], Cs, h0, I⟩, ?_⟩
  rintro m σ' H' ⟨Γ', F2, Cs', hp, I'⟩
  obtain ⟨b, Γ1, h1, h2, h3⟩ := ht m Γ' hp
  refine h1 Hs G σ' H' _ X Cs' I' _ fun H2 F3 Cs2 I2 => ?_
  cases b with
  | true =>
    refine iteT ⟨fun σ' H' => ∃ m', m' < m ∧ ∃ Γ' F2 Cs', P m' Γ' ∧ Iv Hs G Γ' σ' H' (F2 ++ F) X Cs', fun _ _ h => h, ?_⟩
    exact h2 rfl Hs G σ' H2 _ X Cs2 _ I2 (fun Γ4 σ4 H4 F4 Cs4 ⟨m', hm, r4⟩ I4 => ⟨m', hm, Γ4, F4 ++ (F3 ++ F2), Cs4, r4, by simpa only [List.append_assoc] using I4⟩) (fun A v H4 F4 C4 r4 L4 p4 => rt A v H4 (F4 ++ (F3 ++ F2)) C4 r4 (by simpa only [List.append_assoc] using L4) (by simpa only [List.append_assoc] using p4))
      (fun Γ4 σ4 H4 F4 Cs4 r4 I4 => nx Γ4 σ4 H4 (F4 ++ (F3 ++ F2)) Cs4 r4 (by simpa only [List.append_assoc] using I4)) (fun Γ4 σ4 H4 F4 Cs4 ⟨m', hm, r4⟩ I4 => ⟨m', hm, Γ4, F4 ++ (F3 ++ F2), Cs4, r4, by simpa only [List.append_assoc] using I4⟩)
  | false => exact iteF (nx Γ1 σ' H2 (F3 ++ F2) Cs2 (h3 rfl) (by simpa only [List.append_assoc] using I2))
/-! dicts -/
section
variable {α : Type} {_ : Enc α} {N : List (Int × α)} {k : Int} {a : α}
theorem Al.val {H : Hp} {kvs : List (Key × V)} (h : Al (kvR H) N kvs) (e : gVal N k = some a) : ∃ v, valV kvs (.inl k) = some v ∧ Enc.is a H v := by
  induction h with
  | nil => cases e
  | @cons x kv xs kvs r t ih =>
    rw [gVal_cons] at e
    by_cases hk : x.1 = k
    · rw [if_pos hk] at e
      cases e
      exact ⟨kv.2, valV_pos (by rw [r.1, hk]), r.2⟩
    · rw [if_neg hk] at e
      obtain ⟨v, h1, h2⟩ := ih e
      exact ⟨v, by rw [valV_neg (fun z => hk (Sum.inl.inj (r.1.symm.trans z)))]; exact h1, h2⟩
theorem Al.valN {H : Hp} {kvs : List (Key × V)} (h : Al (kvR H) N kvs) (e : gVal N k = none) : valV kvs (.inl k) = none := by
  induction h with
  | nil => rfl
  | @cons x kv xs kvs r t ih =>
    rw [gVal_cons] at e
    by_cases hk : x.1 = k
    · rw [if_pos hk] at e; cases e
    · rw [if_neg hk] at e
      rw [valV_neg (fun z => hk (Sum.inl.inj (r.1.symm.trans z)))]
      exact ih e
theorem Al.mapK {xs : List (Int × α)} {H : Hp} {kvs : List (Key × V)} {v : V} (t : Al (kvR H) xs kvs) (r : Enc.is a H v) : Al (kvR H) (xs.map fun e => if e.1 = k then (e.1, a) else e) (kvs.map fun kv => if kv.1 = (.inl k : Key) then (kv.1, v) else kv) := by
  induction t with
  | nil => exact .nil
  | @cons x kv xs kvs q t ih =>
    refine .cons ?_ ih
    show kvR H (if x.1 = k then (x.1, a) else x) (if kv.1 = (.inl k : Key) then (kv.1, v) else kv)
    by_cases hk : x.1 = k
    · rw [if_pos hk, if_pos (by rw [q.1, hk])]
      exact ⟨q.1, r⟩
    · rw [if_neg hk, if_neg (fun z => hk (Sum.inl.inj (q.1.symm.trans z)))]
      exact q
theorem Al.anyK {N : List (Int × α)} {H : Hp} {kvs : List (Key × V)} (h : Al (kvR H) N kvs) (k : Int) : (N.any fun e => decide (e.1 = k)) = (kvs.any fun kv => decide (kv.1 = (.inl k : Key))) := by
  induction h with
  | nil => rfl
  | @cons x kv xs kvs r t ih =>
    rw [List.any_cons, List.any_cons, ih, r.1]
    congr 1
    by_cases hk : x.1 = k
    · simp [hk]
    · rw [decide_eq_false hk, decide_eq_false fun z => hk (Sum.inl.inj z)]
theorem Al.putK {H : Hp} {kvs : List (Key × V)} (h : Al (kvR H) N kvs) {v : V} (r : Enc.is a H v) : Al (kvR H) (gPut N k a) (L2.putK kvs (.inl k) v) := by
  unfold gPut L2.putK
  rw [h.anyK k]
  split
  · exact h.mapK r
  · exact h.app (.cons ⟨rfl, r⟩ .nil)
theorem Iv.dct {Hs G : Hp} {σ : L2.St} {H : Hp} {F X : List Cell} {Cs : List (List Cell)} (I : Iv Hs G Γ σ H F X Cs) (e : Γ[i]? = some (some (OwD N))) : ∃ d kvs, σ[i]? = some (some (.ref d)) ∧ H d = some (.dK kvs) ∧ Al (kvR (plus Hs F)) N kvs ∧
    ∀ {N' : List (Int × α)} {kvs' : List (Key × V)}, Al (kvR (plus Hs F)) N' kvs' → ∃ Cs', Iv Hs G (Γ.set i (some (OwD N'))) σ (upd H d (.dK kvs')) F X Cs' := by
  obtain ⟨v, C, h1, ⟨d, kvs, e1, e2, r⟩, I2⟩ := I.out e
  subst e1 e2
  refine ⟨d, kvs, h1, I2.gX (c := (d, .dK kvs)) List.mem_cons_self, r, fun {N' kvs'} r' => ?_⟩
  have L : Lo G (upd H d (.dK kvs')) (F ++ (d, .dK kvs') :: (X ++ (Cs.set i []).flatten)) := Lo.wr (A := F) (by have := I2.lo; simpa using this) (.dK kvs')
  have I3 : Iv Hs G (Γ.set i none) σ (upd H d (.dK kvs')) F ([(d, .dK kvs')] ++ X) (Cs.set i []) := ⟨I2.ls, by simpa using L, I2.ok, fun c hc => by
    rcases List.mem_append.mp hc with hc | hc
    · rw [List.mem_singleton.mp hc]; exact fun xs z => by cases z
    · exact I2.nx c (List.mem_append_right _ hc)⟩
  have I4 := I3.put (A := OwD N') h1 ⟨d, kvs', rfl, rfl, r'⟩
  rw [List.set_set] at I4
  exact ⟨_, I4⟩
theorem ev_dnew : Ev tDNewK Γ Γ (OwD ([] : List (Int × α))) := fun Hs G σ H F X Cs I Q q p hp => q _ _ ⟨[], [(p, .dK [])], Cs, I.al hp _ (fun xs z => by cases z), p, [], rfl, rfl, .nil⟩
/-- d[k] of an own dict -/
theorem ev_dgO (e : Γ[i]? = some (some (OwD N))) (h : Ev ty Γ Γ1 (Fz k)) (e1 : Γ1[i]? = some (some (OwD N))) (hv : gVal N k = some a) : Ev (tDGet (tVar i) ty) Γ Γ1 (Fz a) := fun Hs G σ H F X Cs I Q q => by
  obtain ⟨d, kvs, h1, h2, h3, _⟩ := I.dct e
  refine ⟨_, h1, h Hs G σ H F X Cs I _ fun w H' ⟨F2, C, Cs', I', e', p⟩ => ?_⟩
  subst e'
  obtain ⟨d', kvs', h1', h2', h3', _⟩ := I'.dct e1
  rw [h1] at h1'
  cases h1'
  obtain ⟨v, g1, g2⟩ := h3'.val hv
  have p : w = .int k := p
  subst p
  exact ⟨d, v, rfl, .inl ⟨_, .inl k, .inl h2', rfl, g1.symm⟩, q _ _ ⟨F2, [], Cs', I', rfl, g2⟩⟩
/-- d[k] of one that stands -/
theorem ev_dg (h0 : Ev ta Γ Γ1 (Fz (Dc.mk N))) (h : Ev ty Γ1 Γ2 (Fz k)) (hv : gVal N k = some a) : Ev (tDGet ta ty) Γ Γ2 (Fz a) := ev_o2p (r := fun x y H2 Q => ∃ a v, x = .ref a ∧ DGet H2 a y (some v) ∧ Q v H2) h0 h fun Hb H v w s ⟨d, kvs, e1, e2, e3⟩ e4 => by
  obtain ⟨u, g1, g2⟩ := e3.val hv
  have e4 : w = .int k := e4
  subst e4
  exact ⟨u, g2, fun Q q => ⟨d, u, e1, .inl ⟨_, .inl k, .inl (s _ _ e2), rfl, g1.symm⟩, q⟩⟩
/-- d.get(k) -/
theorem ev_dg1 (h0 : Ev ta Γ Γ1 (Fz (Dc.mk N))) (h : Ev ty Γ1 Γ2 (Fz k)) : Ev (tDGet1 ta ty) Γ Γ2 (Fz (gVal N k)) := fun Hs G σ H F X Cs I Q q => h0 Hs G σ H F X Cs I _ fun x H1 ⟨F1, C1, Cs1, I1, e1, d, kvs, e2, e3, e4⟩ => by
  subst e1
  refine ⟨d, e2, .inl ⟨kvs, .inl (I1.b _ _ e3)⟩, h Hs G σ H1 _ _ _ I1 _ fun w H2 ⟨F2, C2, Cs2, I2, e5, e6⟩ => ?_⟩
  subst e5
  have e6 : w = .int k := e6
  subst e6
  have e3' := I2.b _ _ (I2.up _ _ e3)
  cases hv : gVal N k with
  | none => exact ⟨none, .inl ⟨_, .inl k, .inl e3', rfl, (e4.valN hv).symm⟩, q _ _ ⟨F2 ++ F1, [], Cs2, I2.asc, rfl, by rw [hv]; rfl⟩⟩
  | some a =>
    obtain ⟨u, g1, g2⟩ := e4.val hv
    exact ⟨some u, .inl ⟨_, .inl k, .inl e3', rfl, g1.symm⟩, q _ _ ⟨F2 ++ F1, [], Cs2, I2.asc, rfl, by rw [List.append_assoc, hv]; exact Enc.mo (a := a) g2 I2.up⟩⟩
theorem Al.keys {N : List (Int × α)} {H : Hp} {kvs : List (Key × V)} (h : Al (kvR H) N kvs) : Al (fun (a : Int) v => Enc.is a H v) (N.map (·.1)) (kvs.map fun kv => kV kv.1) := by
  induction h with
  | nil => exact .nil
  | cons r _ ih => exact .cons (by show kV _ = _; rw [r.1]; rfl) ih
/-- list(d) -/
theorem ev_listD (h : Ev ta Γ Γ1 (Fz (Dc.mk N))) : Ev (tCB qListD (tCons ta tNil)) Γ Γ1 (Ow (N.map (·.1))) := ev_c1l h fun Hb H v s ⟨d, kvs, e1, e2, e3⟩ => ⟨kvs.map fun kv => kV kv.1, Al.keys e3, fun Q q => ⟨d, kvs, by rw [e1], .inl (s _ _ e2), q⟩⟩
theorem wp_dput (hv : Ev tv Γ Γ1 (Fz a)) (e : Γ1[i]? = some (some (OwD N))) (h : Ev ty Γ1 Γ2 (Fz k)) (e1 : Γ2[i]? = some (some (OwD N))) (hn : N.length < 99999) (n : R.nx (Γ2.set i (some (OwD (gPut N k a))))) : Wp (sDPut (tVar i) ty tv) Γ R := fun Hs G σ H F X Cs D I nx rt bk ct => hv Hs G σ H F X Cs I _ fun v H1 ⟨F1, C1, Cs1, I1, e', p1⟩ => by
  subst e'
  obtain ⟨d, kvs, h1, h2, h3, _⟩ := I1.dct e
  refine ⟨_, h1, h Hs G σ H1 _ _ _ I1 _ fun w H2 ⟨F2, C2, Cs2, I2, e2, p2⟩ => ?_⟩
  subst e2
  obtain ⟨d', kvs', h1', h2', h3', kk⟩ := I2.dct e1
  rw [h1] at h1'
  cases h1'
  have p2 : w = .int k := p2
  subst p2
  obtain ⟨Cs3, I3⟩ := kk (h3'.putK (k := k) (Enc.mo p1 I2.up))
  exact ⟨d, _, rfl, DPut.k (k := .inl k) h2' (szl (by rw [← h3'.len]; omega)), nx _ _ _ _ _ n I3.asc⟩
end
/-! the def -/
def Rt (A : As) : Post := { nx := fun _ => False, rt := fun A' => A' = A }
def EnvN (Bs : List As) (n : Nat) : Env := Bs.map some ++ List.replicate (n - Bs.length) none
theorem EnvOk.start {Hb : Hp} {Bs : List As} {vs : List V} {Cs : List (List Cell)} (h : Al3 Hb Bs vs Cs) (m : Nat) : EnvOk Hb (Bs.map some ++ List.replicate m none) (vs.map some ++ List.replicate m none) (Cs ++ List.replicate m []) := by
  induction h with
  | nil =>
    show EnvOk Hb (List.replicate m none) (List.replicate m none) (List.replicate m [])
    induction m with
    | zero => exact .nil
    | succ m ih => exact .no _ ih
  | cons r _ ih => exact .so r ih
theorem rep_flat (m : Nat) : (List.replicate m ([] : List Cell)).flatten = [] := by
  induction m with
  | zero => rfl
  | succ m ih => rw [List.replicate_succ, List.flatten_cons, ih]; rfl
/-- a def that has walked so keeps its promise -/
theorem v_of {ι : Type} {ok : ι → Prop} {Bs : ι → List As} {A : ι → As} {t : TS} {n : Nat} (h : ∀ i, ok i → Wp t (EnvN (Bs i) n) (Rt (A i))) {vs : List V} {H : Hp} {Q : VK} {E : XK} (hs : spG ok Bs A vs H Q E) : t (fin Q) (st0 n vs) H := by
  obtain ⟨i, Hs, hok, s, hv, k⟩ := hs
  have hl := hv.lenV
  refine h i hok Hs H _ H [] [] _ (fin Q) ⟨s, ?_, by
    have := EnvOk.start hv (n - (Bs i).length)
    rw [← hl] at this
    show EnvOk Hs (EnvN (Bs i) n) _ _
    unfold EnvN
    rw [← hl]
    exact this, fun c hc => nomatch hc⟩ (fun Γ' σ' H' F2 Cs' z => z.elim) (fun A' v H' F2 C e L p => ?_) (fun Γ' σ' H' F2 Cs' z => z.elim) (fun Γ' σ' H' F2 Cs' z => z.elim)
  · rw [List.flatten_append, nils_flat, rep_flat]
    exact Lo.nil H
  · have e : A' = A i := e
    subst e
    rw [List.append_nil, List.append_nil] at L
    rw [List.append_nil] at p
    exact k v H' F2 C L p
/-- a def without a return at its end -/
def RtN : Post := { nx := fun _ => True, rt := fun A' => A' = Fz () }
theorem v_ofN {ι : Type} {ok : ι → Prop} {Bs : ι → List As} {t : TS} {n : Nat} (h : ∀ i, ok i → Wp t (EnvN (Bs i) n) RtN) {vs : List V} {H : Hp} {Q : VK} {E : XK} (hs : spG ok Bs (fun _ => Fz ()) vs H Q E) : t (fin Q) (st0 n vs) H := by
  obtain ⟨i, Hs, hok, s, hv, k⟩ := hs
  have hl := hv.lenV
  refine h i hok Hs H _ H [] [] _ (fin Q) ⟨s, ?_, by
    have := EnvOk.start hv (n - (Bs i).length)
    rw [← hl] at this
    show EnvOk Hs (EnvN (Bs i) n) _ _
    unfold EnvN
    rw [← hl]
    exact this, fun c hc => nomatch hc⟩ (fun Γ' σ' H' F2 Cs' _ I' => ?_) (fun A' v H' F2 C e L p => ?_) (fun Γ' σ' H' F2 Cs' z => z.elim) (fun Γ' σ' H' F2 Cs' z => z.elim)
  · rw [List.flatten_append, nils_flat, rep_flat]
    exact Lo.nil H
  · refine k .non H' F2 [] (I'.lo.pk [F2, Cs'.flatten] [0, 1] [0] [1]) ⟨rfl, rfl⟩
  · have e : A' = Fz () := e
    subst e
    rw [List.append_nil, List.append_nil] at L
    rw [List.append_nil] at p
    exact k v H' F2 C L p
end
end Cc

namespace Cc
open PySem L2
/-! rules told so that they can be tried in turn -/
class EncV (α : Type) [Enc α] where
  toV : α → V
  is : ∀ {a : α} {H : Hp} {v : V}, Enc.is a H v → v = toV a
  sc : ∀ a b : α, scal (toV a) (toV b) = true
  inj : ∀ a b : α, toV a = toV b → a = b
instance : EncV Int := ⟨V.int, fun h => h, fun _ _ => rfl, fun _ _ e => by cases e; rfl⟩
instance : EncV Bool := ⟨V.bl, fun h => h, fun _ _ => rfl, fun _ _ e => by cases e; rfl⟩
section
variable {te ta tb tc ty tv : TE} {tt tu : TT} {tr : TA} {wi : TI} {g : TG} {ts tz tw tbd : TS} {Γ Γ1 Γ2 Γ3 Γ' Γb : Env} {A B : As} {Bs : List As} {K : PySem.W.Frag} {b c : Bool} {R R' : Post} {i j l : Nat}
theorem dV_enc {α : Type} [Enc α] [EncV α] [DecidableEq α] (a b : α) : decide (EncV.toV a = EncV.toV b) = decide (a = b) := by
  by_cases h : a = b
  · simp [h]
  · rw [decide_eq_false h, decide_eq_false fun z => h (EncV.inj _ _ z)]
theorem ev_eqS {α : Type} {_ : Enc α} {_ : EncV α} {_ : DecidableEq α} {a b : α} (ha : Ev ta Γ Γ1 (Fz a)) (hb : Ev tb Γ1 Γ2 (Fz b)) : Ev (tOp rEq ta tb) Γ Γ2 (Fz (decide (a = b))) := ev_o2p ha hb fun Hb H v w s e1 e2 => by
  have e1 := EncV.is e1
  have e2 := EncV.is e2
  subst e1 e2
  exact ⟨_, rfl, fun Q q => ⟨EncV.sc _ _, by rw [dV_enc]; exact q⟩⟩
theorem ev_neS {α : Type} {_ : Enc α} {_ : EncV α} {_ : DecidableEq α} {a b : α} (ha : Ev ta Γ Γ1 (Fz a)) (hb : Ev tb Γ1 Γ2 (Fz b)) : Ev (tOp rNe ta tb) Γ Γ2 (Fz (!decide (a = b))) := ev_o2p ha hb fun Hb H v w s e1 e2 => by
  have e1 := EncV.is e1
  have e2 := EncV.is e2
  subst e1 e2
  exact ⟨_, rfl, fun Q q => ⟨EncV.sc _ _, by rw [dV_enc]; exact q⟩⟩
theorem atI_getD {α : Type} (xs : List α) (i : Int) (d : α) (h : 0 ≤ i ∧ i < xs.length) : atI xs i = some (xs.getD i.toNat d) := by
  have h1 : i.toNat < xs.length := by omega
  have := atI_nat (xs := xs) (j := i.toNat) (v := xs.getD i.toNat d) (by rw [List.getD_eq_getElem?_getD, List.getElem?_eq_getElem h1]; rfl)
  rwa [show ((i.toNat : Nat) : Int) = i by omega] at this
theorem ev_ixD {α : Type} {_ : Enc α} {_ : Inhabited α} {xs : List α} {i : Int} (ha : Ev ta Γ Γ1 (Fz xs)) (hb : Ev tb Γ1 Γ2 (Fz i)) (h : 0 ≤ i ∧ i < xs.length) : Ev (tOp (rIxL K) ta tb) Γ Γ2 (Fz (xs.getD i.toNat default)) := ev_ix ha hb (atI_getD xs i default h)
theorem ev_ixDT {α : Type} {_ : Enc α} {_ : Inhabited α} {xs : Tp α} {i : Int} (ha : Ev ta Γ Γ1 (Fz xs)) (hb : Ev tb Γ1 Γ2 (Fz i)) (h : 0 ≤ i ∧ i < xs.l.length) : Ev (tOp (rIxT K) ta tb) Γ Γ2 (Fz (xs.l.getD i.toNat default)) := ev_ixT ha hb (atI_getD xs.l i default h)
/-- a comprehension without a test, with one -/
theorem ev_map {α β : Type} [Enc α] [Enc β] {xs : List α} {ws : List Nat} {Δ : α → Env → Env} (f : α → β) (hs : Is wi Γ Γ1 xs) (hk : Kp Γ1 Γb) (hb : ∀ a, Bd g ws a (Δ a)) (hn : xs.length ≤ 50000) (ht : ∀ a ∈ xs, ∃ Γy, Ev te (Δ a (wipeE Γb ws)) Γy (Fz (f a))) : Ev (tLc wi g tYes te ws) Γ Γ1 (Ow (xs.map f)) := by
  have := ev_lc (tt := tYes) (fun _ => true) (fun a => Fz (f a)) hs hk hb hn fun a ha => ⟨_, fun Hs G σ H F X Cs I Q q => q _ [] _ I, fun _ => ht a ha⟩
  rw [show xs.filter (fun _ => true) = xs from List.filter_eq_self.mpr fun _ _ => rfl] at this
  rw [show xs.map (fun a => Fz (f a)) = (xs.map f).map Fz by rw [List.map_map]; rfl] at this
  exact this
theorem ev_fil {α β : Type} [Enc α] [Enc β] {xs : List α} {ws : List Nat} {Δ : α → Env → Env} (q : α → Bool) (f : α → β) (hs : Is wi Γ Γ1 xs) (hk : Kp Γ1 Γb) (hb : ∀ a, Bd g ws a (Δ a)) (hn : xs.length ≤ 50000) (ht : ∀ a ∈ xs, ∃ Γx, Et tt (Δ a (wipeE Γb ws)) Γx (q a) ∧ (q a = true → ∃ Γy, Ev te Γx Γy (Fz (f a)))) : Ev (tLc wi g tt te ws) Γ Γ1 (Ow ((xs.filter q).map f)) := by
  have := ev_lc q (fun a => Fz (f a)) hs hk hb hn ht
  rw [show (xs.filter q).map (fun a => Fz (f a)) = ((xs.filter q).map f).map Fz by rw [List.map_map]; rfl] at this
  exact this
/-- own rows -/
theorem ev_mapO {α β : Type} [Enc α] [Enc β] {xs : List α} {ws : List Nat} {Δ : α → Env → Env} (f : α → List β) (hs : Is wi Γ Γ1 xs) (hk : Kp Γ1 Γb) (hb : ∀ a, Bd g ws a (Δ a)) (hn : xs.length ≤ 50000) (ht : ∀ a ∈ xs, ∃ Γy, Ev te (Δ a (wipeE Γb ws)) Γy (Ow (f a))) : Ev (tLc wi g tYes te ws) Γ Γ1 (OwL ((xs.map f).map Ow)) := by
  have := ev_lc (tt := tYes) (fun _ => true) (fun a => Ow (f a)) hs hk hb hn fun a ha => ⟨_, fun Hs G σ H F X Cs I Q q => q _ [] _ I, fun _ => ht a ha⟩
  rw [show xs.filter (fun _ => true) = xs from List.filter_eq_self.mpr fun _ _ => rfl] at this
  rw [show xs.map (fun a => Ow (f a)) = (xs.map f).map Ow by rw [List.map_map]; rfl] at this
  exact this
theorem wq_asg {α : Type} {_ : Enc α} {a : α} (h : Ev te Γ Γ1 (Fz a)) (n : Wp tz (Γ1.set i (some (Fz a))) R) : Wp (tSeq (tAsg te (gName i)) tz) Γ R := wp_seq (wp_asg h n)
theorem wq_asgO (h : Ev te Γ Γ1 A) (n : Wp tz (Γ1.set i (some A)) R) : Wp (tSeq (tAsg te (gName i)) tz) Γ R := wp_seq (wp_asg h n)
theorem wq_drop (h : Ev te Γ Γ1 A) (n : Wp tz Γ1 R) : Wp (tSeq (tDrop te) tz) Γ R := wp_seq (wp_drop h n)
/-- if test: return .. (or so); the test is False -/
theorem wq_no (h : Et tt Γ Γ1 b) (e : b = false) (n : Wp tz Γ1 R) : Wp (tSeq (tIfS tt ts tNext) tz) Γ R := wp_seq (wp_if h (fun z => by rw [e] at z; cases z) fun _ => wp_next n)
theorem wn_no (h : Et tt Γ Γ1 b) (e : b = false) (n : R.nx Γ1) : Wp (tIfS tt ts tNext) Γ R := wp_if h (fun z => by rw [e] at z; cases z) fun _ => wp_next n
theorem wq_par {α β : Type} {_ : Enc α} {_ : Enc β} {x : α} {y : β} (h : Ev ta Γ Γ1 (Fz x)) (h' : Ev tb Γ1 Γ2 (Fz y)) (n : Wp tz ((Γ2.set i (some (Fz x))).set j (some (Fz y))) R) : Wp (tSeq (tPar i j (tCons ta (tCons tb tNil))) tz) Γ R := wp_seq (wp_par h h' n)
theorem wq_parO (h : Ev ta Γ Γ1 A) (h' : Ev tb Γ1 Γ2 B) (n : Wp tz ((Γ2.set i (some A)).set j (some B)) R) : Wp (tSeq (tPar i j (tCons ta (tCons tb tNil))) tz) Γ R := wp_seq (wp_par h h' n)
theorem wq_if (h : Et tt Γ Γ1 b) (h1 : b = true → Wp ts Γ1 { R with nx := fun Γ' => Wp tz Γ' R }) (h2 : b = false → Wp tw Γ1 { R with nx := fun Γ' => Wp tz Γ' R }) : Wp (tSeq (tIfS tt ts tw) tz) Γ R := wp_seq (wp_if h h1 h2)
theorem wr (h : Ev te Γ Γ1 A) : Wp (tRet te) Γ (Rt A) := wp_ret h rfl
theorem ev_chLL {i j k : Int} (ha : Ev ta Γ Γ1 (Fz i)) (hb : Ev tb Γ1 Γ2 (Fz j)) (hc : Ev tc Γ2 Γ2 (Fz k)) : Ev (tChain qLe qLe ta tb tc) Γ Γ2 (Fz (decide (i ≤ j) && decide (j ≤ k))) := ev_chn ha hb cLe hc cLe
theorem ev_chll {i j k : Int} (ha : Ev ta Γ Γ1 (Fz i)) (hb : Ev tb Γ1 Γ2 (Fz j)) (hc : Ev tc Γ2 Γ2 (Fz k)) : Ev (tChain qLt qLt ta tb tc) Γ Γ2 (Fz (decide (i < j) && decide (j < k))) := ev_chn ha hb cLt hc cLt
/-- the same, by hand -/
theorem ev_eqM {α : Type} [Enc α] [EncD α] [DecidableEq α] [EncQ α] {a b : α} (ha : Ev ta Γ Γ1 (Fz a)) (hb : Ev tb Γ1 Γ2 (Fz b)) (hn : EncD.dep α ≤ 64 := by decide) : Ev (tOp (rEqD K) ta tb) Γ Γ2 (Fz (decide (a = b))) := @ev_eqD _ _ _ _ _ _ _ _ _ _ _ _ inferInstance ha hb hn
theorem ev_neM {α : Type} [Enc α] [EncD α] [DecidableEq α] [EncQ α] {a b : α} (ha : Ev ta Γ Γ1 (Fz a)) (hb : Ev tb Γ1 Γ2 (Fz b)) (hn : EncD.dep α ≤ 64 := by decide) : Ev (tOp (rNeD K) ta tb) Γ Γ2 (Fz (!decide (a = b))) := @ev_neD _ _ _ _ _ _ _ _ _ _ _ _ inferInstance ha hb hn
/-! isinstance -/
class EncTy (α : Type) [Enc α] where
  ty : String
  tyx : ∀ {K : PySem.W.Frag} {a : α} {H : Hp} {v : V}, Enc.is a H v → TyX K H v (.type ty)
instance : EncTy Int := ⟨"int", fun h => by have h : _ = V.int _ := h; subst h; exact .base (.int _)⟩
instance : EncTy Bool := ⟨"bool", fun h => by have h : _ = V.bl _ := h; subst h; exact .base (.bl _)⟩
instance {α : Type} [Enc α] : EncTy (List α) := ⟨"list", fun ⟨l, vs, e, h, _⟩ => by subst e; exact .base (.lst h)⟩
instance {α β : Type} [Enc α] [Enc β] : EncTy (α × β) := ⟨"tuple", fun ⟨l, x, y, e, h, _⟩ => by subst e; exact .base (.tup h)⟩
instance {α β γ : Type} [Enc α] [Enc β] [Enc γ] : EncTy (T3 α β γ) := ⟨"tuple", fun ⟨l, x, y, z, e, h, _⟩ => by subst e; exact .base (.tup h)⟩
theorem ev_isi {α : Type} {_ : Enc α} {_ : EncTy α} {a : α} {T : String} (ha : Ev ta Γ Γ1 (Fz a)) (h : kitB (EncTy.ty α) T = some b) : Ev (tCB (rIsi K) (tCons ta (tCons (tC (.ty T)) tNil))) Γ Γ1 (Fz b) := ev_o1p (r := fun v H Q => rIsi K [v, .ty T] H Q) ha fun Hb H v s e => ⟨_, rfl, fun Q q => ⟨v, .ty T, _, _, b, rfl, .ty _, EncTy.tyx (Enc.mo e s), kit_ty h, q⟩⟩
theorem ev_isM {α : Type} [Enc α] [EncTy α] {a : α} {T : String} (ha : Ev ta Γ Γ1 (Fz a)) (h : kitB (EncTy.ty α) T = some b) : Ev (tCB (rIsi K) (tCons ta (tCons (tC (.ty T)) tNil))) Γ Γ1 (Fz b) := ev_isi ha h
/-- is_whole, is_between, _law_number -/
theorem ev_whole {i : Int} (ha : Ev ta Γ Γ1 (Fz i)) : Ev (tCall sp_is_whole [] E0 (tCons ta tNil)) Γ Γ1 (Fz true) := fun Hs G σ H F X Cs I Q q => ha Hs G σ H F X Cs I _ fun v H1 ⟨F1, C1, Cs1, I1, e1, r1⟩ => by
  subst e1
  have r1 : v = .int i := r1
  subst r1
  exact ⟨_, rfl, .int i, fun H' s => q _ _ ⟨F1, [], Cs1, I1.sm s, rfl, rfl⟩⟩
theorem ev_betw {i lo hi : Int} (ha : Ev ta Γ Γ1 (Fz i)) (hb : Ev tb Γ1 Γ2 (Fz lo)) (hc : Ev tc Γ2 Γ3 (Fz hi)) : Ev (tCall sp_is_between [] E0 (tCons ta (tCons tb (tCons tc tNil)))) Γ Γ3 (Fz (decide (lo ≤ i) && decide (i ≤ hi))) := fun Hs G σ H F X Cs I Q q => ea_3 ha hb hc Hs G σ H F X Cs I _ fun vs H1 F1 Cs0 Cs1 I1 r1 => by
  cases r1 with
  | cons r1 r2 => cases r2 with
    | cons r2 r3 => cases r3 with
      | cons r3 r4 =>
        cases r4
        obtain ⟨e1, r1⟩ := r1
        obtain ⟨e2, r2⟩ := r2
        obtain ⟨e3, r3⟩ := r3
        subst e1 e2 e3
        have r1 : _ = V.int i := r1
        have r2 : _ = V.int lo := r2
        have r3 : _ = V.int hi := r3
        subst r1 r2 r3
        exact ⟨_, lo, hi, rfl, .int i, fun H' s => q _ _ ⟨F1, [], Cs1, I1.sm s, rfl, rfl⟩⟩
theorem ev_num {i lo hi : Int} (ha : Ev ta Γ Γ1 (Fz i)) (hb : Ev tb Γ1 Γ2 (Fz lo)) (hc : Ev tc Γ2 Γ3 (Fz hi)) (h : 0 ≤ lo ∧ lo ≤ 1000000) : Ev (tCall sp__law_number [] E0 (tCons ta (tCons tb (tCons tc tNil)))) Γ Γ3 (Fz (numberM i lo hi)) := fun Hs G σ H F X Cs I Q q => ea_3 ha hb hc Hs G σ H F X Cs I _ fun vs H1 F1 Cs0 Cs1 I1 r1 => by
  cases r1 with
  | cons r1 r2 => cases r2 with
    | cons r2 r3 => cases r3 with
      | cons r3 r4 =>
        cases r4
        obtain ⟨e1, r1⟩ := r1
        obtain ⟨e2, r2⟩ := r2
        obtain ⟨e3, r3⟩ := r3
        subst e1 e2 e3
        have r1 : _ = V.int i := r1
        have r2 : _ = V.int lo := r2
        have r3 : _ = V.int hi := r3
        subst r1 r2 r3
        exact ⟨i, lo, hi, rfl, h.1, h.2, fun H' s => q _ _ ⟨F1, [], Cs1, I1.sm s, rfl, rfl⟩⟩
end
end Cc

namespace Cc
open PySem L2
/-! own things within own things -/
def Fo (te : TE) (Γ : Env) (i : Nat) (B : As) (bk : As → As) : Prop := ∀ (Hs G : Hp) (σ : L2.St) (H : Hp) (F X : List Cell) (Cs : List (List Cell)), Iv Hs G Γ σ H F X Cs → ∃ v C, B.p (plus Hs F) v C ∧ (∀ c ∈ C, c ∈ Cs.flatten) ∧
  ∀ H' F2 X', Iv Hs G Γ σ H' (F2 ++ F) X' Cs → Va te σ H' v ∧ (∀ c ∈ C, H' c.1 = some c.2) ∧
    ∀ (B' : As) (C' : List Cell) (H2 : Hp), (∀ L, Lo G H' ((F2 ++ F) ++ (C ++ L)) → Lo G H2 ((F2 ++ F) ++ (C' ++ L))) → (∀ c ∈ C', NT c) → B'.p (plus Hs (F2 ++ F)) v C' → ∃ Cs', Iv Hs G (Γ.set i (some (bk B'))) σ H2 (F2 ++ F) X' Cs'
theorem EnvOk.len {Hb : Hp} {Γ : Env} {σ : L2.St} {Cs : List (List Cell)} (h : EnvOk Hb Γ σ Cs) : σ.length = Γ.length := by
  induction h with
  | nil => rfl
  | no _ _ ih => simp [ih]
  | so _ _ ih => simp [ih]
section
variable {te ta tb tc : TE} {tt : TT} {Γ Γ1 Γ2 Γb Γ' : Env} {A B : As} {Bs : List As} {K : PySem.W.Frag} {R : Post} {i j : Nat} {bk : As → As}
theorem fo_var (e : Γ[i]? = some (some A)) : Fo (tVar i) Γ i A id := fun Hs G σ H F X Cs I => by
  obtain ⟨v, C, C1, C2, h1, h2, h3, h4⟩ := I.ok.get e
  have eC : Cs[i]? = some C := by rw [h2, ← h3]; simp
  obtain ⟨R0, g1, g2⟩ := flat_set_perm (C := []) eC
  refine ⟨v, C, h4, fun c hc => g1.mem_iff.mpr (List.mem_append_left _ hc), fun H' F2 X' I' => ⟨va_var h1, fun c hc => I'.gC (g1.mem_iff.mpr (List.mem_append_left _ hc)), fun B' C' H2 T nt r => ?_⟩⟩
  have L1 : Lo G H' ((F2 ++ F) ++ (C ++ (X' ++ R0))) := (I'.lo.perm ((g1.append_left _).append_left _)).pk [F2, F, X', C, R0] [0, 1, 2, 3, 4] [0, 1, 3, 2, 4]
  have L2 := T _ L1
  have L3 : Lo G H2 ((F2 ++ F) ++ ((C' ++ X') ++ (Cs.set i []).flatten)) := by
    have := L2.perm (((g2.symm.append_left X').append_left C').append_left (F2 ++ F))
    simpa only [List.append_assoc, List.nil_append] using this
  have I3 : Iv Hs G (Γ.set i none) σ H2 (F2 ++ F) (C' ++ X') (Cs.set i []) := ⟨I'.ls, L3, I'.ok.off i, fun c hc => (List.mem_append.mp hc).elim (nt c) (I'.nx c)⟩
  have I4 := I3.put h1 r
  rw [List.set_set] at I4
  exact ⟨_, I4⟩
theorem fo_ixV {k : Int} {m : Nat} (f : Fo te Γ i (OwL Bs) bk) (hk : ∀ Hs G σ H F X Cs, Iv Hs G Γ σ H F X Cs → Va tb σ H (.int k)) (h1 : ixN Bs.length k = some m) (h2 : Bs[m]? = some B) : Fo (tOp (rIxL K) te tb) Γ i B (fun B' => bk (OwL (Bs.set m B'))) := fun Hs G σ H F X Cs I => by
  obtain ⟨v, C, ⟨l, vs, Co, e1, e2, r⟩, kc, k0⟩ := f Hs G σ H F X Cs I
  subst e1 e2
  obtain ⟨w, D, C1, C2, g1, g2, g3, g4⟩ := r.get h2
  have eC : Co[m]? = some D := by rw [g2, ← g3]; simp
  refine ⟨w, D, g4, fun c hc => kc c (List.mem_cons_of_mem _ (by rw [g2, List.flatten_append, List.flatten_cons]; exact List.mem_append_right _ (List.mem_append_left _ hc))), fun H' F2 X' I' => ?_⟩
  obtain ⟨q1, q2, q3⟩ := k0 H' F2 X' I'
  have hl : H' l = some (.lst vs) := q2 (l, .lst vs) List.mem_cons_self
  refine ⟨fun Q q => q1 _ (hk _ _ _ _ _ _ _ I' _ ⟨l, vs, k, w, rfl, rfl, SqL.of hl, ?_, q⟩), fun c hc => q2 c (List.mem_cons_of_mem _ ?_), fun B' D' H2 T nt r' => ?_⟩
  · unfold atI
    rw [r.lenV, h1]
    exact g1
  · rw [g2, List.flatten_append, List.flatten_cons]
    exact List.mem_append_right _ (List.mem_append_left _ hc)
  · obtain ⟨R0, p1, p2⟩ := flat_set_perm (C := D') eC
    refine q3 (OwL (Bs.set m B')) ((l, .lst vs) :: (Co.set m D').flatten) H2 (fun L LL => ?_) (fun c hc => ?_) ⟨l, vs, Co.set m D', rfl, rfl, ?_⟩
    · have L1 : Lo G H' ((F2 ++ F) ++ (D ++ ((l, .lst vs) :: (R0 ++ L)))) := by
        have a1 : ((F2 ++ F) ++ (((l, .lst vs) :: Co.flatten) ++ L)).Perm ((F2 ++ F) ++ (((l, .lst vs) :: (D ++ R0)) ++ L)) := ((p1.cons _).append_right L).append_left _
        exact (LL.perm a1).pk [F2, F, [(l, .lst vs)], D, R0, L] [0, 1, 2, 3, 4, 5] [0, 1, 3, 2, 4, 5]
      have L2 := T _ L1
      have L3 : Lo G H2 ((F2 ++ F) ++ (((l, .lst vs) :: (D' ++ R0)) ++ L)) := L2.pk [F2, F, D', [(l, .lst vs)], R0, L] [0, 1, 2, 3, 4, 5] [0, 1, 3, 2, 4, 5]
      exact L3.perm (((p2.symm.cons _).append_right L).append_left _)
    · rcases List.mem_cons.mp hc with rfl | hc
      · exact fun xs z => by cases z
      · have hm := p2.mem_iff.mp hc
        rcases List.mem_append.mp hm with h | h
        · exact nt c h
        · exact r.nt c (p1.mem_iff.mpr (List.mem_append_right _ h))
    · have r2 := (r.mo I'.up).set r' m
      rwa [show vs.set m w = vs from by
        refine List.ext_getElem? fun x => ?_
        by_cases hx : m = x
        · subst hx
          rw [List.getElem?_set_self (lt_of_get g1), g1]
        · rw [List.getElem?_set_ne hx]] at r2
theorem fo_ix {k : Int} {m : Nat} (f : Fo te Γ i (OwL Bs) bk) (h1 : ixN Bs.length k = some m) (h2 : Bs[m]? = some B) : Fo (tOp (rIxL K) te (tC (.int k))) Γ i B (fun B' => bk (OwL (Bs.set m B'))) := fo_ixV f (fun _ _ _ _ _ _ _ _ => va_c) h1 h2
theorem va_fz {x : Int} {Hs G : Hp} {σ : L2.St} {H : Hp} {F X : List Cell} {Cs : List (List Cell)} (e : Γ[j]? = some (some (Fz x))) (I : Iv Hs G Γ σ H F X Cs) : Va (tVar j) σ H (.int x) := by
  obtain ⟨v, C, C1, C2, h1, h2, h3, h4, h5⟩ := I.ok.get e
  have h5 : v = .int x := h5
  subst h5
  exact va_var h1
theorem va_ixF {a c : Nat} {xs : List Int} {k x : Int} {Hs G : Hp} {σ : L2.St} {H : Hp} {F X : List Cell} {Cs : List (List Cell)} (e1 : Γ[a]? = some (some (Fz xs))) (e2 : Γ[c]? = some (some (Fz k))) (h : atI xs k = some x) (I : Iv Hs G Γ σ H F X Cs) : Va (tOp (rIxL K) (tVar a) (tVar c)) σ H (.int x) := fun Q q => by
  obtain ⟨v, C, C1, C2, h1, h2, h3, h4, l, vs, h5, h6, h7⟩ := I.ok.get e1
  obtain ⟨w, h8, h9⟩ := h7.atI h
  have h9 : w = .int x := h9
  subst h9
  exact ⟨v, h1, va_fz e2 I _ ⟨l, vs, k, _, h5, rfl, SqL.of (I.b _ _ h6), h8, q⟩⟩
/-- the same cells behind what was borrowed, whatever the names were meanwhile -/
theorem Iv.unb2 {Hs G : Hp} {σ σ' : L2.St} {H H' : Hp} {F F2 X C : List Cell} {Cs Cs' : List (List Cell)} {Γ'' : Env} (I : Iv Hs G Γ σ H F X Cs) (I2 : Iv Hs G Γ'' σ' H' (F2 ++ (F ++ (X ++ Cs.flatten))) (C ++ []) Cs') : Iv Hs G Γ σ H' (F2 ++ F) (C ++ X) Cs := by
  have L : Lo G H' ((F2 ++ F) ++ ((C ++ X) ++ Cs.flatten)) := I2.lo.pk [F2, F, X, Cs.flatten, C, Cs'.flatten] [0, 1, 2, 3, 4, 5] [0, 1, 4, 2, 3] [5]
  exact ⟨I.ls, L, I.ok.mo ((L.sub (List.sublist_append_left _ _)).pUp I.ls fun c hc => List.mem_append_right _ hc), fun c h => (List.mem_append.mp h).elim (fun h => I2.nx c (List.mem_append_left _ h)) (I.nx c)⟩
/-- one cell written -/
theorem Lo.wrF {G H : Hp} {F D L : List Cell} {q : Addr} {o o' : HO} (h : Lo G H (F ++ (((q, o) :: D) ++ L))) : Lo G (upd H q o') (F ++ (((q, o') :: D) ++ L)) := Lo.wr (A := F) h o'
theorem wp_rev0 {r : List Int} (f : Fo te Γ i (Ow r) bk) (n : R.nx (Γ.set i (some (bk (Ow r.reverse))))) : Wp (tDrop (tBM0 K "list" rReverse te)) Γ R := fun Hs G σ H F X Cs D I nx rt bk' ct => by
  obtain ⟨v, C, rr, kc, k0⟩ := f Hs G σ H F X Cs I
  obtain ⟨l, vs, e1, e2, al⟩ := Ow.to rr
  subst e1 e2
  obtain ⟨q1, q2, q3⟩ := k0 H [] X I
  have hl : H l = some (.lst vs) := q2 (l, .lst vs) List.mem_cons_self
  obtain ⟨Cs', I'⟩ := q3 (Ow r.reverse) [(l, .lst vs.reverse)] (upd H l (.lst vs.reverse)) (fun L LL => LL.wrF) (fun c hc => by rw [List.mem_singleton.mp hc]; exact fun xs z => by cases z) (Ow.of al.rev)
  exact q1 _ ⟨.inl ⟨rfl, _, SqL.of hl⟩, l, vs, rfl, rfl, hl, nx _ _ _ [] _ n I'⟩
theorem wp_clr0 {α : Type} {_ : Enc α} {r : List α} (f : Fo te Γ i (Ow r) bk) (n : R.nx (Γ.set i (some (bk (Ow ([] : List α)))))) : Wp (tDrop (tBM0 K "list" rClear te)) Γ R := fun Hs G σ H F X Cs D I nx rt bk' ct => by
  obtain ⟨v, C, rr, kc, k0⟩ := f Hs G σ H F X Cs I
  obtain ⟨l, vs, e1, e2, al⟩ := Ow.to rr
  subst e1 e2
  obtain ⟨q1, q2, q3⟩ := k0 H [] X I
  have hl : H l = some (.lst vs) := q2 (l, .lst vs) List.mem_cons_self
  obtain ⟨Cs', I'⟩ := q3 (Ow ([] : List α)) [(l, .lst [])] (upd H l (.lst [])) (fun L LL => LL.wrF) (fun c hc => by rw [List.mem_singleton.mp hc]; exact fun xs z => by cases z) (Ow.of .nil)
  exact q1 _ ⟨.inl ⟨rfl, _, SqL.of hl⟩, l, vs, rfl, rfl, hl, nx _ _ _ [] _ n I'⟩
/-- path.append(e): a thing that stands -/
theorem wp_appP {α : Type} {_ : Enc α} {r : List α} {a : α} (f : Fo te Γ i (Ow r) bk) (b : Brw Γ Γb) (h : Ev ta Γb Γ' (Fz a)) (tp : TpO (Fz a)) (hn : r.length < 99999) (n : R.nx (Γ.set i (some (bk (Ow (r ++ [a])))))) : Wp (tDrop (tBM K "list" rAppend te (tCons ta tNil))) Γ R := fun Hs G σ H F X Cs D I nx rt bk' ct => by
  obtain ⟨v, C, rr, kc, k0⟩ := f Hs G σ H F X Cs I
  obtain ⟨l, vs, e1, e2, al⟩ := Ow.to rr
  subst e1 e2
  obtain ⟨q1, q2, _⟩ := k0 H [] X I
  have hl : H l = some (.lst vs) := q2 (l, .lst vs) List.mem_cons_self
  refine q1 _ ⟨.inl ⟨rfl, _, SqL.of hl⟩, h Hs G σ H _ _ _ (I.brw b) _ fun w H2 ⟨F2, C2, Cs2, I2, r2⟩ => ?_⟩
  have r2 := tp _ _ _ _ (lookup_nt I.ntX) r2
  obtain ⟨e, r3⟩ := r2
  subst e
  have I3 := I.unb2 (C := []) I2
  obtain ⟨_, p2, p3⟩ := k0 H2 F2 X I3
  have hl2 : H2 l = some (.lst vs) := p2 (l, .lst vs) List.mem_cons_self
  obtain ⟨Cs', I'⟩ := p3 (Ow (r ++ [a])) [(l, .lst (vs ++ [w]))] (upd H2 l (.lst (vs ++ [w]))) (fun L LL => LL.wrF) (fun c hc => by rw [List.mem_singleton.mp hc]; exact fun xs z => by cases z) (Ow.of ((al.mp fun _ _ r => Enc.mo r I3.up).app (.cons r3 .nil)))
  exact ⟨l, vs, w, rfl, rfl, hl2, szl (by rw [← al.len]; omega), nx _ _ _ F2 _ n I'⟩
theorem wp_extP {α : Type} {_ : Enc α} {r ys : List α} (f : Fo te Γ i (Ow r) bk) (b : Brw Γ Γb) (h : Ev ta Γb Γ' (Ow ys)) (tp : TpO (Ow ys)) (hn : r.length + ys.length ≤ 99999) (n : R.nx (Γ.set i (some (bk (Ow (r ++ ys)))))) : Wp (tDrop (tBM K "list" rExtend te (tCons ta tNil))) Γ R := fun Hs G σ H F X Cs D I nx rt bk' ct => by
  obtain ⟨v, C, rr, kc, k0⟩ := f Hs G σ H F X Cs I
  obtain ⟨l, vs, e1, e2, al⟩ := Ow.to rr
  subst e1 e2
  obtain ⟨q1, q2, _⟩ := k0 H [] X I
  have hl : H l = some (.lst vs) := q2 (l, .lst vs) List.mem_cons_self
  refine q1 _ ⟨.inl ⟨rfl, _, SqL.of hl⟩, h Hs G σ H _ _ _ (I.brw b) _ fun w H2 ⟨F2, C2, Cs2, I2, r2⟩ => ?_⟩
  have r2 := tp _ _ _ _ (lookup_nt I.ntX) r2
  obtain ⟨lb, zs, e3, e4, al2⟩ := Ow.to r2
  subst e3 e4
  have I3 := I.unb2 I2
  obtain ⟨_, p2, p3⟩ := k0 H2 F2 _ I3
  have hl2 : H2 l = some (.lst vs) := p2 (l, .lst vs) List.mem_cons_self
  have hb2 : H2 lb = some (.lst zs) := I3.gX (c := (lb, .lst zs)) List.mem_cons_self
  obtain ⟨Cs', I'⟩ := p3 (Ow (r ++ ys)) [(l, .lst (vs ++ zs))] (upd H2 l (.lst (vs ++ zs))) (fun L LL => LL.wrF) (fun c hc => by rw [List.mem_singleton.mp hc]; exact fun xs z => by cases z) (Ow.of ((al.mp fun _ _ r => Enc.mo r I3.up).app al2))
  exact ⟨l, lb, vs, zs, rfl, rfl, hl2, hb2, sz (by rw [← al.len, ← al2.len]; omega), nx _ _ _ F2 _ n (Iv.drop I')⟩
/-- row = path; row.insert(a, b) -/
theorem wp_insR {r : List Int} {k a : Int} (f : Fo te Γ i (Ow r) bk) (hj : j < Γ.length) (b : Brw Γ Γb) (h : Ev ta (Γb.set j (some (Fz r))) Γ1 (Fz k)) (h' : Ev tb Γ1 Γ2 (Fz a)) (hn : r.length < 99999) (k1 : 0 ≤ k) (k2 : k < 2 ^ 63)
    (n : R.nx ((Γ.set i (some (bk (Ow (r.take k.toNat ++ [a] ++ r.drop k.toNat))))).set j none)) : Wp (tSeq (tAsg te (gName j)) (tDrop (tBM K "list" qInsert (tVar j) (tCons ta (tCons tb tNil))))) Γ R := fun Hs G σ H F X Cs D I nx rt bk' ct => by
  obtain ⟨v, C, rr, kc, k0⟩ := f Hs G σ H F X Cs I
  obtain ⟨l, vs, e1, e2, al⟩ := Ow.to rr
  subst e1 e2
  obtain ⟨q1, q2, _⟩ := k0 H [] X I
  have hl : H l = some (.lst vs) := q2 (l, .lst vs) List.mem_cons_self
  have hsl := I.ok.len
  refine q1 _ ⟨_, slot_set (by omega) _, .inl ⟨rfl, _, SqL.of hl⟩, ?_⟩
  have I0 := I.brw b
  have hcl : (l, HO.lst vs) ∈ F ++ (X ++ Cs.flatten) := List.mem_append_right _ (List.mem_append_right _ (kc _ List.mem_cons_self))
  have is1 : Enc.is r (plus Hs (F ++ (X ++ Cs.flatten))) (.ref l) := ⟨l, vs, rfl, I0.loF.pGc hcl, by rw [al_int al]; exact al_ofI r⟩
  have J0 := Iv.set (C := []) I0 (fzp is1) j
  refine h Hs G _ H _ _ _ J0 _ fun w H1 ⟨F1, C1, Cs1, I1, e1, r1⟩ => ?_
  subst e1
  refine h' Hs G _ H1 _ _ _ I1 _ fun u H2 ⟨F2, C2, Cs2, I2, e2, r2⟩ => ?_
  subst e2
  have r1 : w = .int k := r1
  have r2 : u = .int a := r2
  subst r1 r2
  have I3 := I.unb2 (C := []) (F2 := F2 ++ F1) (by rw [List.append_assoc]; exact I2)
  obtain ⟨_, p2, p3⟩ := k0 H2 (F2 ++ F1) X I3
  have hl2 : H2 l = some (.lst vs) := p2 (l, .lst vs) List.mem_cons_self
  have al2 := al.mp (S := fun (a : Int) v => Enc.is a (plus Hs ((F2 ++ F1) ++ F)) v) fun _ _ r => r
  obtain ⟨Cs', I'⟩ := p3 (Ow (r.take k.toNat ++ [a] ++ r.drop k.toNat)) [(l, .lst (vs.take k.toNat ++ [V.int a] ++ vs.drop k.toNat))] (upd H2 l (.lst (vs.take k.toNat ++ [V.int a] ++ vs.drop k.toNat))) (fun L LL => LL.wrF) (fun c hc => by rw [List.mem_singleton.mp hc]; exact fun xs z => by cases z)
    (Ow.of (((al2.take k.toNat).app (.cons rfl .nil)).app (al2.drop k.toNat)))
  exact ⟨l, vs, k, V.int a, rfl, rfl, hl2, szl (by rw [← al.len]; omega), k1, k2, nx _ _ _ (F2 ++ F1) _ n (I'.wip j _)⟩
end
end Cc

namespace Cc
open PySem L2
section
variable {te ta tb tc tv : TE} {tt : TT} {Γ Γ1 Γ2 Γb Γ' : Env} {A B : As} {Bs : List As} {K : PySem.W.Frag} {R : Post} {i j l : Nat} {bk : As → As}
/-- a cell of X is written -/
theorem Iv.wrX {Hs G : Hp} {σ : L2.St} {H : Hp} {F X : List Cell} {Cs : List (List Cell)} {q : Addr} {o o' : HO} (I : Iv Hs G Γ σ H F ((q, o) :: X) Cs) (ho : ∀ xs, o' ≠ HO.tup xs) : Iv Hs G Γ σ (upd H q o') F ((q, o') :: X) Cs :=
  ⟨I.ls, Lo.wr (A := F) I.lo o', I.ok, fun c hc => by
    rcases List.mem_cons.mp hc with rfl | hc
    · exact ho
    · exact I.nx c (List.mem_cons_of_mem _ hc)⟩
/-- {k: e} -/
theorem ev_disp1 {α : Type} {_ : Enc α} {k : Int} {a : α} (h : Ev ta Γ Γ1 (Fz k)) (h' : Ev tb Γ1 Γ2 (Fz a)) : Ev (tDisp [(ta, tb)]) Γ Γ2 (OwD [(k, a)]) := fun Hs G σ H F X Cs I Q q p hp => by
  have I0 := I.al hp (.dK []) (fun xs z => by cases z)
  refine h Hs G σ _ F _ Cs I0 _ fun x H1 ⟨F1, C1, Cs1, I1, e1, r1⟩ => ?_
  subst e1
  refine h' Hs G σ H1 _ _ Cs1 I1 _ fun y H2 ⟨F2, C2, Cs2, I2, e2, r2⟩ => ?_
  subst e2
  have r1 : x = .int k := r1
  subst r1
  refine ⟨I2.gX (c := (p, .dK [])) List.mem_cons_self, [(.inl k, y)], rfl, by show 1 ≤ 15; decide, ?_⟩
  have I3 : Iv Hs G Γ2 σ (upd H2 p (.dK (mergeK [] [(.inl k, y)]))) (F2 ++ (F1 ++ F)) ([(p, .dK (mergeK [] [(.inl k, y)]))] ++ X) Cs2 := Iv.wrX I2 (fun xs z => by cases z)
  refine q _ _ ⟨F2 ++ F1, [(p, .dK (mergeK [] [(.inl k, y)]))], Cs2, I3.asc, p, _, rfl, rfl, ?_⟩
  show Al (kvR (plus Hs ((F2 ++ F1) ++ F))) [(k, a)] [((Sum.inl k : Key), y)]
  rw [List.append_assoc]
  exact .cons ⟨rfl, r2⟩ .nil
/-- for k in d: e[k] = d[k] -/
def mergeD {α : Type} (N M : List (Int × α)) : List (Int × α) := M.foldl (fun N e => gPut N e.1 e.2) N
theorem mergeD_len {α : Type} (M N : List (Int × α)) : (mergeD N M).length ≤ N.length + M.length := by
  induction M generalizing N with
  | nil => exact Nat.le_refl _
  | cons e M ih =>
    have := ih (gPut N e.1 e.2)
    have h2 := gPut_len N e.1 e.2
    show (mergeD (gPut N e.1 e.2) M).length ≤ _
    simp only [List.length_cons]
    omega
where
  gPut_len (M : List (Int × α)) (k : Int) (a : α) : (gPut M k a).length ≤ M.length + 1 := by
    unfold gPut
    split
    · simp
    · simp
theorem wp_merge {α : Type} {_ : Enc α} {N M : List (Int × α)} (e1 : Γ[i]? = some (some (OwD M))) (e2 : Γ[j]? = some (some (OwD N))) (hij : i ≠ j) (hil : i ≠ l) (hjl : j ≠ l) (hM : (M.map (·.1)).Nodup) (hn : N.length + M.length < 99999) (hl : l < Γ.length)
    (n : ∀ x, R.nx ((Γ.set j (some (OwD (mergeD N M)))).set l x)) : Wp (tLock (tFor (iKeys (tVar i)) (gName l) (sDPut (tVar j) (tVar l) (tDGet (tVar i) (tVar l))))) Γ R := fun Hs G σ H F X Cs D I nx rt bk' ct => by
  obtain ⟨v, C, h1, ⟨d, kvs, e3, e4, al⟩, I1⟩ := I.out e1
  subst e3 e4
  have hd : H d = some (.dK kvs) := I1.gX (c := (d, .dK kvs)) List.mem_cons_self
  refine ⟨d, .dK kvs, hd, trivial, fun od => ?_⟩
  have I2 : Iv Hs G (Γ.set i none) σ (upd H d (.frz od (.dK kvs))) F ((d, .frz od (.dK kvs)) :: X) (Cs.set i []) := Iv.wrX I1 (fun xs z => by cases z)
  refine ⟨_, h1, d, od, rfl, .inl ⟨kvs, upd_same, ?_⟩⟩
  have hsl := I.ok.len
  have hj1 : j < Γ.length := lt_of_get e2
  have hmlen := al.len
  refine ⟨fun k m σ' H' => m = kvs.length - k ∧ k ≤ kvs.length ∧ ∃ (x : Option As) (Cs' : List (List Cell)), Iv Hs G (((Γ.set i none).set j (some (OwD (mergeD N (M.take k))))).set l x) σ' H' F ((d, .frz od (.dK kvs)) :: X) Cs' ∧ σ'[i]? = some (some (.ref d)), ⟨kvs.length, by simp, Nat.zero_le _, Γ.getD l none, Cs.set i [], ?_, h1⟩, ?_⟩
  · have e0 : ((Γ.set i none).set j (some (OwD (mergeD N (M.take 0))))).set l (Γ.getD l none) = Γ.set i none := by
      refine List.ext_getElem? fun x => ?_
      by_cases hx : l = x
      · subst hx
        rw [List.getElem?_set_self (by simpa using hl), List.getElem?_set_ne hil]
        rw [List.getD_eq_getElem?_getD, List.getElem?_eq_getElem hl]; rfl
      · rw [List.getElem?_set_ne hx]
        by_cases hy : j = x
        · subst hy
          rw [List.getElem?_set_self (by simpa using hj1), List.getElem?_set_ne hij, e2]; rfl
        · rw [List.getElem?_set_ne hy]
    rw [e0]
    exact I2
  rintro k m σ' H' ⟨rfl, hk, x, Cs', I', hσ⟩
  have hd' : H' d = some (.frz od (.dK kvs)) := I'.gX (c := (d, .frz od (.dK kvs))) List.mem_cons_self
  by_cases hlt : k < kvs.length
  · refine .inr ⟨⟨hd', hlt⟩, fun σ' H' => ∃ (x : Option As) (Cs' : List (List Cell)), Iv Hs G (((Γ.set i none).set j (some (OwD (mergeD N (M.take (k + 1)))))).set l x) σ' H' F ((d, .frz od (.dK kvs)) :: X) Cs' ∧ σ'[i]? = some (some (.ref d)), fun σ2 H2 p2 => ⟨kvs.length - (k + 1), by omega, rfl, hlt, p2⟩, ?_⟩
    rintro y H2 ⟨rfl, key, v, hkv, rfl⟩
    obtain ⟨a, ha, r⟩ := al.get' hkv
    have rk : key = .inl a.1 := r.1
    subst rk
    -- the key's name
    have I3 := Iv.set (C := []) I' (fzp (a := a.1) rfl) l
    have hsl2 := I3.ok.len
    have eg : ((((Γ.set i none).set j (some (OwD (mergeD N (M.take k))))).set l x).set l (some (Fz a.1)))[j]? = some (some (OwD (mergeD N (M.take k)))) := by
      rw [List.set_set, List.getElem?_set_ne hjl.symm, List.getElem?_set_self (by simpa using hj1)]
    have hσl : (σ'.set l (some (V.int a.1)))[l]? = some (some (.int a.1)) := by
      have := I'.ok.len
      exact slot_set (by rw [this]; simpa using hl) _
    have hσi : (σ'.set l (some (V.int a.1)))[i]? = some (some (.ref d)) := by rw [List.getElem?_set_ne hil.symm]; exact hσ
    obtain ⟨dj, kvj, g1, g2, g3, g4⟩ := I3.dct eg
    have hval : valV kvs (.inl a.1) = some v := by
      obtain ⟨u, q1, q2⟩ := al.val (k := a.1) (a := a.2) (gVal_nd hM (List.mem_of_getElem? ha))
      have := valV_nd al hM hkv
      exact this
    obtain ⟨Cs4, I4⟩ := g4 (g3.putK (k := a.1) (As.mo (Fz a.2) (fzp r.2) (Same.refl _)).2)
    refine ⟨_, hσi, _, hσl, d, v, rfl, .inl ⟨kvs, .inl a.1, .inr ⟨od, hd'⟩, rfl, hval.symm⟩, ?_⟩
    have ml := mergeD_len (M.take k) N
    rw [List.length_take] at ml
    refine ⟨_, g1, _, hσl, dj, _, rfl, DPut.k (k := .inl a.1) g2 (szl (by rw [← g3.len]; omega)), some (Fz a.1), Cs4, ?_, hσi⟩
    have em : mergeD N (M.take (k + 1)) = gPut (mergeD N (M.take k)) a.1 a.2 := by
      unfold mergeD
      rw [List.take_add_one, ha, List.foldl_append]
      rfl
    rw [em]
    have e5 : ((((Γ.set i none).set j (some (OwD (mergeD N (M.take k))))).set l x).set l (some (Fz a.1))).set j (some (OwD (gPut (mergeD N (M.take k)) a.1 a.2))) = ((Γ.set i none).set j (some (OwD (gPut (mergeD N (M.take k)) a.1 a.2)))).set l (some (Fz a.1)) := by
      rw [List.set_set, List.set_comm _ _ hjl.symm, List.set_set]
    rw [← e5]
    exact I4
  · have e : k = kvs.length := by omega
    subst e
    refine .inl ⟨⟨hd', Nat.le_refl _⟩, hd', ?_⟩
    have I5 : Iv Hs G (((Γ.set i none).set j (some (OwD (mergeD N (M.take kvs.length))))).set l x) σ' (upd H' d (.dK kvs)) F ([(d, .dK kvs)] ++ X) Cs' := Iv.wrX I' (fun xs z => by cases z)
    have I6 := I5.put (A := OwD M) hσ ⟨d, kvs, rfl, rfl, al⟩
    rw [← hmlen, List.take_length] at I6
    have e5 : ((((Γ.set i none).set j (some (OwD (mergeD N M)))).set l x).set i (some (OwD M))) = (Γ.set j (some (OwD (mergeD N M)))).set l x := by
      refine List.ext_getElem? fun y => ?_
      by_cases hy : i = y
      · subst hy
        rw [List.getElem?_set_self (by simpa using lt_of_get e1), List.getElem?_set_ne hil.symm, List.getElem?_set_ne hij.symm, e1]
      · rw [List.getElem?_set_ne hy]
        by_cases hz : l = y
        · subst hz
          rw [List.getElem?_set_self (by simpa using hl), List.getElem?_set_self (by simpa using hl)]
        · rw [List.getElem?_set_ne hz, List.getElem?_set_ne hz]
          by_cases hw : j = y
          · subst hw
            rw [List.getElem?_set_self (by simpa using hj1), List.getElem?_set_self hj1]
          · rw [List.getElem?_set_ne hw, List.getElem?_set_ne hw, List.getElem?_set_ne hy]
    rw [e5] at I6
    exact nx _ _ _ [] _ (n x) I6
where
  gVal_nd {α : Type} {M : List (Int × α)} (h : (M.map (·.1)).Nodup) {e : Int × α} (he : e ∈ M) : gVal M e.1 = some e.2 := by
    induction M with
    | nil => cases he
    | cons x M ih =>
      rw [gVal_cons]
      rw [List.map_cons, List.nodup_cons] at h
      rcases List.mem_cons.mp he with rfl | he
      · rw [if_pos rfl]
      · rw [if_neg (fun z : x.1 = e.1 => h.1 (by rw [z]; exact List.mem_map.mpr ⟨e, he, rfl⟩)), ih h.2 he]
  valV_nd {α : Type} {_ : Enc α} {Hb : Hp} {M : List (Int × α)} {kvs : List (Key × V)} (al : Al (kvR Hb) M kvs) (h : (M.map (·.1)).Nodup) {k : Nat} {key : Key} {v : V} (e : kvs[k]? = some (key, v)) : valV kvs key = some v := by
    induction al generalizing k with
    | nil => simp at e
    | @cons x kv xs kvs r t ih =>
      rw [List.map_cons, List.nodup_cons] at h
      cases k with
      | zero =>
        simp at e
        subst e
        exact valV_pos rfl
      | succ k =>
        simp at e
        obtain ⟨a, ha, r2⟩ := t.get' e
        rw [valV_neg]
        · exact ih h.2 e
        · intro z
          have z1 : kv.1 = .inl x.1 := r.1
          have z2 : key = .inl a.1 := r2.1
          have : x.1 = a.1 := Sum.inl.inj (z1.symm.trans (z.trans z2))
          exact h.1 (by rw [this]; exact List.mem_map.mpr ⟨a, List.mem_of_getElem? ha, rfl⟩)
end
end Cc
namespace Cc
open PySem L2
/-- a, b = x, y where a block reads a: by a tuple -/
theorem wp_tupO {ta tb : TE} {Γ Γ1 Γ2 : Env} {A B : As} {K : PySem.W.Frag} {R : Post} {i j : Nat} (h : Ev ta Γ Γ1 A) (h' : Ev tb Γ1 Γ2 B) (n : R.nx ((Γ2.set i (some A)).set j (some B))) : Wp (tAsg (tTup (tCons ta (tCons tb tNil))) (gTup K 2 (gCons (gName i) (gCons (gName j) gNil)))) Γ R := fun Hs G σ H F X Cs D I nx rt bk ct => h Hs G σ H F X Cs I _ fun v H1 ⟨F1, C1, Cs1, I1, p1⟩ =>
  h' Hs G σ H1 _ _ Cs1 I1 _ fun w H2 ⟨F2, C2, Cs2, I2, p2⟩ => by
    have I3 := (I2.px (X' := C1 ++ (C2 ++ X)) (by rw [← List.append_assoc, ← List.append_assoc]; exact List.perm_append_comm.append_right _)).set (As.mo _ p1 I2.up) i
    have I4 := (I3.set p2 j).asc
    exact ⟨by show 2 ≤ sizeLine; decide, fun p hp => ⟨p, _, rfl, SqT.of upd_same, rfl, v, _, rfl, w, _, rfl, rfl, nx _ _ _ _ _ n (I4.sm (Same.new hp _))⟩⟩
/-- an own list of whatever -/
def Lk (n : Nat) : As where
  p := fun H v C => ∃ (l : Addr) (vs : List V), v = .ref l ∧ C = [(l, HO.lst vs)] ∧ vs.length ≤ n
  mo := fun h _ => h
  nt := fun ⟨l, vs, e, c, h⟩ x hx => by
    rw [c] at hx
    rw [List.mem_singleton.mp hx]
    exact fun xs z => by cases z
/-- for row in xs: row.append(e) -/
theorem wp_appAll {te : TE} {Γ : Env} {K : PySem.W.Frag} {R : Post} {i j : Nat} {α : Type} {_ : Enc α} {rows : List (List α)} (e : Γ[i]? = some (some (OwL (rows.map Ow)))) (hij : i ≠ j) (hj : j < Γ.length) (he : ∀ Hs G σ H F X Cs Γ', Iv Hs G Γ' σ H F X Cs → Vr te σ H (fun _ H' => Same H H')) (hn : rows.length < 50000) (hr : ∀ r ∈ rows, r.length < 50000)
    (n : R.nx (((Γ.set i none).set j none).set i (some (Lk 50000)))) : Wp (tFor (iList K (tVar i)) (gName j) (tDrop (tBM K "list" rAppend (tVar j) (tCons te tNil)))) Γ R := fun Hs G σ H F X Cs D I nx rt bk ct => by
  obtain ⟨v, C, h1, ⟨l, vs, Co, e1, e2, al⟩, I1⟩ := I.out e
  subst e1 e2
  have hl : H l = some (.lst vs) := I1.gX (c := (l, .lst vs)) List.mem_cons_self
  have hvl : vs.length = rows.length := by rw [al.lenV, List.length_map]
  -- the rows' cells
  have key : ∃ (ps : List Addr) (wss : List (List V)), vs = ps.map V.ref ∧ Co.flatten = (ps.zip wss).map (fun x => (x.1, HO.lst x.2)) ∧ ps.length = wss.length ∧ ∀ ws ∈ wss, ws.length < 50000 := by
    clear hl I1 hvl n hn e h1
    generalize hb : plus Hs F = Hb at al
    clear hb I
    induction rows generalizing vs Co with
    | nil => cases al; exact ⟨[], [], rfl, rfl, rfl, fun _ h => nomatch h⟩
    | cons r rows ih =>
      cases al with
      | cons q t =>
        obtain ⟨p, ws, rfl, rfl, a2⟩ := Ow.to q
        obtain ⟨ps, wss, rfl, h2, h3, h4⟩ := ih (fun r hr' => hr r (List.mem_cons_of_mem _ hr')) _ _ t
        refine ⟨p :: ps, ws :: wss, rfl, by rw [List.flatten_cons, h2]; rfl, by simp [h3], fun w hw => ?_⟩
        rcases List.mem_cons.mp hw with rfl | hw
        · rw [← a2.len]; exact hr r List.mem_cons_self
        · exact h4 w hw
  obtain ⟨ps, wss, rfl, hco, hpw, hlw⟩ := key
  refine ⟨_, h1, l, rfl, ⟨_, SqL.of hl⟩, ?_⟩
  rw [List.length_map] at hvl
  refine ⟨fun k m σ' H' => m = ps.length - k ∧ k ≤ ps.length ∧ ∃ (us : List (List V)) (Cs' : List (List Cell)), us.length = ps.length ∧ (∀ x, k ≤ x → ∀ u, us[x]? = some u → u.length < 50000) ∧ Iv Hs G ((Γ.set i none).set j none) σ' H' F ((l, .lst (ps.map V.ref)) :: ((ps.zip us).map (fun x => (x.1, HO.lst x.2)) ++ X)) Cs' ∧ σ'[i]? = some (some (.ref l)),
    ⟨ps.length, by simp, Nat.zero_le _, wss, (Cs.set i []).set j [], hpw.symm, fun x _ u hu => hlw u (List.mem_of_getElem? hu), ?_, h1⟩, ?_⟩
  · have := I1.off j
    rw [hco] at this
    exact this
  rintro k m σ' H' ⟨rfl, hk, us, Cs', hul, hus, I', hσ⟩
  have hl' : H' l = some (.lst (ps.map V.ref)) := I'.gX (c := (l, .lst (ps.map V.ref))) List.mem_cons_self
  by_cases hlt : k < ps.length
  · refine .inr ⟨⟨_, _, SqL.of hl', by rw [List.getElem?_map, List.getElem?_eq_getElem hlt]; rfl⟩, _, fun σ2 H2 p2 => ⟨ps.length - (k + 1), by omega, rfl, hlt, p2⟩, ?_⟩
    rintro x H2 ⟨e0, hx⟩
    obtain rfl : H' = H2 := e0.symm
    have hx := hx _ (SqL.of hl')
    rw [List.getElem?_map, List.getElem?_eq_getElem hlt] at hx
    have hx : V.ref ps[k] = x := Option.some.inj hx
    subst hx
    have hsl := I'.ok.len
    have hul2 : k < us.length := by omega
    -- the cell of this row
    have hz : (ps.zip us)[k]? = some (ps[k], us[k]) := by simp [List.getElem?_zip_eq_some, hlt, hul2]
    obtain ⟨A, B, hAB, hAl⟩ : ∃ A B, ps.zip us = A ++ (ps[k], us[k]) :: B ∧ A.length = k := by
      refine ⟨(ps.zip us).take k, (ps.zip us).drop (k + 1), ?_, ?_⟩
      · have hkl : k < (ps.zip us).length := lt_of_get hz
        have e3 : (ps.zip us)[k] = (ps[k], us[k]) := by rw [List.getElem?_eq_getElem hkl] at hz; exact Option.some.inj hz
        rw [← e3, List.getElem_cons_drop, List.take_append_drop]
      · rw [List.length_take]
        have := lt_of_get hz
        omega
    have hq : H' ps[k] = some (.lst us[k]) := I'.gX (c := (ps[k], .lst us[k])) (List.mem_cons_of_mem _ (List.mem_append_left _ (List.mem_map.mpr ⟨(ps[k], us[k]), by rw [hAB]; exact List.mem_append_right _ List.mem_cons_self, rfl⟩)))
    refine ⟨_, slot_set (by rw [hsl]; simpa using hj) _, .inl ⟨rfl, _, SqL.of hq⟩, ?_⟩
    have I2 := I'.wip j (some (V.ref ps[k]))
    rw [List.set_set] at I2
    refine he _ _ _ _ _ _ _ _ I2 _ fun y H3 s3 => ?_
    refine ⟨ps[k], us[k], y, rfl, rfl, s3 _ _ hq, szl (by have := hus k (Nat.le_refl _) us[k] (List.getElem?_eq_getElem hul2); omega), us.set k (us[k] ++ [y]), Cs'.set j [], by simpa using hul, fun x hx u hu => ?_, ?_, by rw [List.getElem?_set_ne hij.symm]; exact hσ⟩
    · rw [List.getElem?_set_ne (by omega)] at hu
      exact hus x (by omega) u hu
    · have I3 := I2.sm s3
      have L := I3.lo
      have e4 : (ps.zip (us.set k (us[k] ++ [y]))).map (fun x => (x.1, HO.lst x.2)) = A.map (fun x => (x.1, HO.lst x.2)) ++ (ps[k], HO.lst (us[k] ++ [y])) :: B.map (fun x => (x.1, HO.lst x.2)) := by
        have e5 : ps.zip (us.set k (us[k] ++ [y])) = (ps.zip us).set k (ps[k], us[k] ++ [y]) := by
          refine List.ext_getElem? fun z => ?_
          by_cases hz2 : k = z
          · subst hz2
            rw [List.getElem?_set_self (lt_of_get hz)]
            simp [List.getElem?_zip_eq_some, hlt, hul2]
          · rw [List.getElem?_set_ne hz2]
            simp only [List.zip, List.getElem?_zipWith]
            rw [List.getElem?_set_ne hz2]
        have e6 : (A ++ (ps[k], us[k]) :: B).set k (ps[k], us[k] ++ [y]) = A ++ (ps[k], us[k] ++ [y]) :: B := by
          generalize (ps[k], us[k] ++ [y]) = z1
          generalize (ps[k], us[k]) = z2
          rw [← hAl, List.set_append_right _ _ (Nat.le_refl _), Nat.sub_self]
          rfl
        rw [e5, hAB, e6]
        simp
      rw [e4]
      rw [hAB] at L
      have L2 : Lo G H3 ((F ++ ((l, .lst (ps.map V.ref)) :: A.map (fun x => (x.1, HO.lst x.2)))) ++ (ps[k], .lst us[k]) :: (B.map (fun x => (x.1, HO.lst x.2)) ++ (X ++ (Cs'.set j []).flatten))) := L.to (by simp)
      have L3 := L2.wr (.lst (us[k] ++ [y]))
      refine ⟨I3.ls, L3.to (by simp), I3.ok, fun c hc => ?_⟩
      rcases List.mem_cons.mp hc with rfl | hc
      · exact fun xs z => by cases z
      · rcases List.mem_append.mp hc with hc | hc
        · rcases List.mem_append.mp hc with hc | hc
          · obtain ⟨z, _, rfl⟩ := List.mem_map.mp hc
            exact fun xs z => by cases z
          · rcases List.mem_cons.mp hc with rfl | hc
            · exact fun xs z => by cases z
            · obtain ⟨z, _, rfl⟩ := List.mem_map.mp hc
              exact fun xs z => by cases z
        · exact I3.nx c (List.mem_cons_of_mem _ (List.mem_append_right _ hc))
  · have e : k = ps.length := by omega
    subst e
    have I2 : Iv Hs G ((Γ.set i none).set j none) σ' H' F ((ps.zip us).map (fun x => (x.1, HO.lst x.2)) ++ ([(l, .lst (ps.map V.ref))] ++ X)) Cs' := I'.px (by
      have := List.perm_middle (a := (l, HO.lst (ps.map V.ref))) (l₁ := (ps.zip us).map (fun x => (x.1, HO.lst x.2))) (l₂ := X)
      exact this.symm)
    have I3 := Iv.put (A := Lk 50000) I2.drop hσ ⟨l, _, rfl, rfl, by rw [List.length_map]; omega⟩
    exact .inl ⟨⟨_, SqL.of hl', by simp⟩, nx _ _ _ [] _ n I3⟩
theorem wp_appLk {te : TE} {Γ Γ1 : Env} {A : As} {K : PySem.W.Frag} {R : Post} {i m : Nat} (e : Γ[i]? = some (some (Lk m))) (h : Ev te Γ Γ1 A) (e1 : Γ1[i]? = some (some (Lk m))) (hm : m < 99999) (n : R.nx (Γ1.set i (some (Lk (m + 1))))) : Wp (tDrop (tBM K "list" rAppend (tVar i) (tCons te tNil))) Γ R := fun Hs G σ H F X Cs D I nx rt bk ct => by
  obtain ⟨v, C, h1, ⟨l, vs, rfl, rfl, hl⟩, I1⟩ := I.out e
  have g1 : H l = some (.lst vs) := I1.gX (c := (l, .lst vs)) List.mem_cons_self
  refine ⟨_, h1, .inl ⟨rfl, _, SqL.of g1⟩, h Hs G σ H F X Cs I _ fun w H2 ⟨F2, C2, Cs2, I2, r2⟩ => ?_⟩
  obtain ⟨v', C', h1', ⟨l', vs', e2, rfl, hl'⟩, I3⟩ := I2.out e1
  rw [h1] at h1'
  have e3 := Option.some.inj (Option.some.inj h1')
  rw [e2] at e3
  cases e3
  have g2 : H2 l = some (.lst vs') := I3.gX (c := (l, .lst vs')) List.mem_cons_self
  have I4 : Iv Hs G (Γ1.set i none) σ (upd H2 l (.lst (vs' ++ [w]))) (F2 ++ F) ([(l, .lst (vs' ++ [w]))] ++ (C2 ++ X)) (Cs2.set i []) := Iv.wrX I3 (fun xs z => by cases z)
  have I5 := Iv.put (A := Lk (m + 1)) I4 h1 ⟨l, _, rfl, rfl, by simp; omega⟩
  rw [List.set_set] at I5
  exact ⟨l, vs', w, rfl, rfl, g2, szl (by omega), nx _ _ _ F2 _ n I5.drop⟩
/-! a list of two things of two sorts -/
structure H2 (α β : Type) where
  a : α
  b : β
  deriving DecidableEq
instance encH2 {α β : Type} [Enc α] [Enc β] : Enc (H2 α β) where
  is := fun a H v => ∃ t x y, v = .ref t ∧ H t = some (.lst [x, y]) ∧ Enc.is a.a H x ∧ Enc.is a.b H y
  mo := fun ⟨t, x, y, e, h, g1, g2⟩ s => ⟨t, x, y, e, s _ _ h, Enc.mo g1 s, Enc.mo g2 s⟩
instance encDH2 {α β : Type} [Enc α] [Enc β] [EncD α] [EncD β] : EncD (H2 α β) where
  dat := fun a => .list [EncD.dat a.a, EncD.dat a.b]
  dep := max (EncD.dep α) (EncD.dep β) + 1
  dp := fun ⟨t, x, y, e, h, g1, g2⟩ => by subst e; exact .lst (SqL.of h) (.cons (EncD.dp g1) (.cons (EncD.dp g2) .nil))
  sh := fun a => shp_list fun d hd => by
    rcases List.mem_cons.mp hd with rfl | hd
    · exact shp_up (EncD.sh _) (Nat.le_max_left _ _)
    · rw [List.mem_singleton.mp hd]; exact shp_up (EncD.sh _) (Nat.le_max_right _ _)
theorem eqv_lst2 (a b c d : PyData) : PyData.eqv (.list [a, b]) (.list [c, d]) = (PyData.eqv a c && PyData.eqv b d) := by simp [PyData.eqv, PyData.eqvAll]
instance {α β : Type} [DecidableEq α] [Enc α] [EncD α] [EncQ α] [DecidableEq β] [Enc β] [EncD β] [EncQ β] : EncQ (H2 α β) := ⟨fun a b => by
  show PyData.eqv (.list [EncD.dat a.a, EncD.dat a.b]) (.list [EncD.dat b.a, EncD.dat b.b]) = _
  rw [eqv_lst2, EncQ.eqv, EncQ.eqv, Bool.eq_iff_iff, Bool.and_eq_true, decide_eq_true_eq, decide_eq_true_eq, decide_eq_true_eq]
  obtain ⟨x, y⟩ := a
  obtain ⟨x', y'⟩ := b
  simp⟩
theorem cv_h2 {α β : Type} {_ : Enc α} {_ : Enc β} {A B : As} {a : α} {b : β} (h1 : Cv A (Fz a)) (h2 : Cv B (Fz b)) : Cv (OwL [A, B]) (Fz (H2.mk a b)) := fun Hb H v C ⟨l, vs, Cs, e, c, g⟩ s hc => by
  cases g with
  | cons r1 g => cases g with
    | cons r2 g =>
      cases g
      subst c
      refine ⟨rfl, l, _, _, e, hc _ List.mem_cons_self, (h1 _ _ _ _ r1 s fun c hm => hc c ?_).2, (h2 _ _ _ _ r2 s fun c hm => hc c ?_).2⟩
      · exact List.mem_cons_of_mem _ (by simp [hm])
      · exact List.mem_cons_of_mem _ (by simp [hm])
theorem ev_ixH0 {α β : Type} {_ : Enc α} {_ : Enc β} {x : H2 α β} {ta : TE} {Γ Γ1 : Env} {K : PySem.W.Frag} (ha : Ev ta Γ Γ1 (Fz x)) : Ev (tOp (rIxL K) ta (tC (.int 0))) Γ Γ1 (Fz x.a) := ev_o2p ha ev_int fun Hb H v w s ⟨t, y, z, e1, e2, e3, e4⟩ e5 => ⟨y, e3, fun Q q => ⟨t, _, 0, y, e1, e5, SqL.of (s _ _ e2), rfl, q⟩⟩
theorem ev_ixH1 {α β : Type} {_ : Enc α} {_ : Enc β} {x : H2 α β} {ta : TE} {Γ Γ1 : Env} {K : PySem.W.Frag} (ha : Ev ta Γ Γ1 (Fz x)) : Ev (tOp (rIxL K) ta (tC (.int 1))) Γ Γ1 (Fz x.b) := ev_o2p ha ev_int fun Hb H v w s ⟨t, y, z, e1, e2, e3, e4⟩ e5 => ⟨z, e4, fun Q q => ⟨t, _, 1, z, e1, e5, SqL.of (s _ _ e2), rfl, q⟩⟩
end Cc

namespace Cc
open PySem PySem.Spec PyProof.Rows L2
/-! sorted(set(xs)) of ints -/
/-- a set just made -/
abbrev oS (w : World) : Obj := { cls := .type "set", dict := none, data := .set #[] 0 (.fresh 0 0 (!w.params.followText "set-order")) }
section
variable {P : Program} {w : World} {A : Around} {E : Value → Shared → Prop} {s : Shared}
theorem set_ofL {l : Addr} {its : Array Value} (ns : List Int) {Q : Value → Shared → Prop} (ok : A.handled = none) (il : s.heap.IsList l its) (ii : IntsAre its.toList ns) (few : ns.length + 1 < scanBound)
    (k : ∀ (h' : Heap) (tk c : Nat), SetR w h' s.heap.objs.size (fun j => decide (j ∈ ns)) c → c ≤ ns.length → (∀ b o, s.heap.get? b = some o → h'.get? b = some o) → Q (.ref s.heap.objs.size) { s with heap := h', toks := tk }) :
    wpAny (model P w) A (call (.type "set") [.ref l]) Q E s := by
  have zl : its.size = ns.length := by have q := IntsAre.length ii; rwa [Array.length_toList] at q
  obtain ⟨c, tl, hmro⟩ := F.called_set.mro
  have hmade := F.called_set.made; have hsub := F.called_set.sub
  refine wpAny_call (codeAny_of_tree ?_); show wpAny _ _ (callAny (.type "set") _) _ _ _
  refine wpAny_pure ⟨Code.quiet_builtin _ (by decide +kernel), codeAny_builtin F.entry_type_call ?_⟩; rw [Around.under_plain (weight_type_call_type "set" [.ref l] []) rfl]
  have h1 := F.called_set.notType; have h2 := F.called_set.canCreate; have hct := F.typeCall_set_1 (.ref l)
  repeat (any_goals (first | assumption | wp_step))
  refine codeAny_mono (code_set_led1 (.ref l) (E := E) (Q₁ := fun obj s₁ => obj = .ref s.heap.objs.size ∧ s₁ = { s with heap := s.heap.push (oS w) }) ⟨rfl, rfl⟩) fun r s₁ hr => ?_
  cases r with
  | error e => exact hr
  | ok fl =>
    cases fl with
    | ret obj =>
      obtain ⟨rfl, rfl⟩ := hr
      have gS : (s.heap.push (oS w)).get? s.heap.objs.size = some (oS w) := Heap.get?_push_size _ rfl
      have hT : Shared.TypeIs { s with heap := s.heap.push (oS w) } (.ref s.heap.objs.size) "set" := ⟨_, gS, rfl⟩
      have hli := F.called_set.init.lookup; have hbi := F.called_set.init.bind (.ref s.heap.objs.size)
      repeat (any_goals (first | assumption | wp_step))
      refine codeAny_mono (codeAny_call_builtin (R := wants (fun r s₂ => r = .none ∧ ∃ h' tk c, s₂ = { s with heap := h', toks := tk } ∧ SetR w h' s.heap.objs.size (fun j => decide (j ∈ ns)) c ∧ c ≤ ns.length ∧ (∀ b o, s.heap.get? b = some o → h'.get? b = some o)) E) F.called_set.init.plain F.entry_set_init (check_set_init_1 hT ?_)) fun r₂ s₂ hr₂ => ?_
      · obtain ⟨⟨oc, od, oda, osl⟩, gl, hcl, nl, hdl⟩ := il
        simp only at hcl hdl
        subst hcl hdl
        have gl2 : (s.heap.push (oS w)).get? l = some { cls := .type "list", dict := od, data := .seq its nl, slots := osl } := Heap.get?_push_of_some _ gl
        have hsls := F.sub_list_set; have hslf := F.sub_list_frozenset
        have hne : (Value.type "list" == Value.type "dict") = false := by decide
        have il2 : (s.heap.push (oS w)).IsList l its := ⟨_, gl2, rfl, nl, rfl⟩
        unfold Builtin.«set.__init__» noKeywords Builtin.Frozenset.updateFrom; generalize hPI : pyIter = PI
        wp_walk
        subst hPI
        refine wpAny_pyIter_list il2 (wpAny_bind (wpAny_runValue ?_))
        have ltl : l < s.heap.objs.size := Heap.lt_size gl
        have ok3 : A.in1.in1.in1.handled = none := by simp [ok]
        have nel : l ≠ (s.heap.push (oS w)).objs.size := fun e => Nat.ne_of_lt (Nat.lt_succ_of_lt ltl) (e.trans (Heap.size_push ..))
        have nin : s.heap.objs.size ∉ [(s.heap.push (oS w)).objs.size, l] := by
          intro z
          rcases List.mem_cons.mp z with z | z
          · exact Nat.ne_of_lt (Nat.lt_succ_self _) (z.trans (Heap.size_push ..))
          · exact Nat.ne_of_gt ltl (List.mem_singleton.mp z)
        have val : ∀ (i : Nat) (v : Value), its[i]? = some v → ∃ k t, ns[i]? = some k ∧ v = .int k t := fun i v e => by
          have lt : i < ns.length := by rw [← zl]; exact (Array.getElem?_eq_some_iff.mp e).1
          obtain ⟨t, e2⟩ := PyProof.Rows.IntsAre.int_at ii i v (by rw [Array.getElem?_toList]; exact e)
          exact ⟨ns[i], t, List.getElem?_eq_getElem lt, by rw [e2, List.getD_eq_getElem?_getD, List.getElem?_eq_getElem lt] <;> rfl⟩
        refine set_update_ints ((Walks.list ok3 _ l nel its).toS) s.heap.objs.size nin ns zl few val (its.size - 0) 0 _ (by omega) (Nat.zero_le _) ⟨⟨_, Heap.get?_push_size _ rfl, rfl, rfl⟩, il2.push _⟩ ⟨0, Nat.le_refl 0, setR_new_at (Heap.get?_push_of_some _ gS)⟩ fun s' c' mv lc' st' => ?_
        obtain ⟨h', g2, d', tk', os'⟩ := s'
        have eg : g2 = s.gens := mv.gens; have ed : d' = s.drawn := mv.drawn; have eo : os' = s.os := mv.os
        subst eg ed eo
        show wpAny _ _ _ _ _ _
        refine wpAny_pure ?_
        show wpAny _ _ (ret Value.none) _ _ _
        rw [zl] at lc'
        refine wpAny_pure ⟨rfl, h', tk', c', rfl, st', lc', fun b o e => ?_⟩
        have lb : b < s.heap.objs.size := Heap.lt_size e
        exact mv.heap b o (by
          intro z
          rcases List.mem_cons.mp z with z | z
          · exact Nat.ne_of_lt lb z
          · exact Nat.ne_of_lt (Nat.lt_succ_of_lt lb) ((List.mem_singleton.mp z).trans (Heap.size_push ..))) (Heap.get?_push_of_some _ (Heap.get?_push_of_some _ e))
      · cases r₂ with
        | error e => exact hr₂
        | ok fl₂ =>
          cases fl₂ with
          | ret r =>
            obtain ⟨rfl, h', tk, c', rfl, st', lc', kp⟩ := hr₂
            repeat (any_goals (first | assumption | wp_step))
            exact k _ _ _ st' lc' kp
          | _ => exact hr₂.elim
    | _ => exact hr.elim
end
def tSortSet (K : PySem.W.Frag) (te : TE) : TE := fun σ H Q => te σ H fun x H1 => ∃ (l : Addr) (ns : List Int), x = .ref l ∧ SqL K H1 l (ns.map V.int) ∧ ns.length < 64 ∧ ∀ (out : List Int) (p : Addr), out.Pairwise (· < ·) → (∀ k, k ∈ out ↔ k ∈ ns) → H1 p = none → Q (.ref p) (upd H1 p (.lst (out.map V.int)))
theorem pe_sortSet {X : Cx} {a : Expr} {ta : TE} {p p2 q pos : Pos} (hg : Gl X "sorted") (hm : X.mg "sorted" = none) (hg2 : Gl X "set") (hm2 : X.mg "set" = none) (ha : PE X a ta) (hc : X.calm = true := by rfl)
    (na : starEach [a] X.env = (false, eval a X.env) :: starEach [] X.env := by rfl) : PE X (.Call (.Name "sorted" p) [.Call (.Name "set" p2) [a] [] q] [] pos) (tSortSet X.K ta) := by
  refine ⟨fun pins s σ H Q I h => ?_⟩
  have b1 : bootBuiltins "sorted" = some (.builtin "sorted") := by decide +kernel
  have b2 : bootBuiltins "set" = some (.type "set") := by decide +kernel
  refine Call_ (ld_blt I hg hm b1 (PyProof.Rows.callWith_builtin1 (PyProof.Rows.args_cons ?_ rfl) rfl rfl))
  refine Call_ (ld_blt I hg2 hm2 b2 (PyProof.Rows.callWith_type1 (PyProof.Rows.args_cons (thn (ha.run pins s σ H _ I h) fun v s1 ⟨x, H1, I1, r1, q1⟩ => PyProof.Rows.args_nil ?_) na) na rfl))
  obtain ⟨l, ns, rfl, hq, h64, k⟩ := q1
  cases r1
  obtain ⟨its, r, pl, hz⟩ := I1.list hq
  have lt := r.length
  rw [List.length_map] at lt
  refine set_ofL ns (I1.ok.hd hc) pl.isList (by simpa using ints_of_vals r) (by unfold scanBound; omega) fun h' tk c R lc kp => ?_
  refine PyProof.Rows.args_nil ?_
  have I2 : Inv X pins σ H1 { s1 with heap := h', toks := tk } := I1.kept fun b o e => kp b o e
  have R2 : SetR X.w ({ s1 with heap := h', toks := tk } : Shared).heap s1.heap.objs.size (fun j => decide (j ∈ ns)) c := R
  generalize s1.heap.objs.size = ad at R2 ⊢
  generalize ({ s1 with heap := h', toks := tk } : Shared) = s2 at I2 R2 ⊢
  refine sorted_set R2 (I2.ok.hd hc) (by omega) fun s' p out c2 ms k2 g o hp hgp hi hs hmm hl => ?_
  have hn : H1 p = none := I2.hok.fresh hp
  have J : Inv X pins σ (upd H1 p (.lst (ms.map V.int))) { s2 with heap := s'.heap, gens := s'.gens, drawn := s'.drawn, toks := s'.toks } :=
    I2.call (ch := []) (Un.laid k2 hp hn) (I2.hok.laid k2 hp ⟨by rw [List.length_map, hl, sizeLine_eq]; omega, out.toList, c2, vals_of_ints hi, hgp⟩) (by rw [g]; exact I2.bare) (fun _ z => nomatch z)
  have e : s' = { s2 with heap := s'.heap, gens := s'.gens, drawn := s'.drawn, toks := s'.toks } := by
    obtain ⟨_, _, _, _, _⟩ := s'
    obtain ⟨_, _, _, _, _⟩ := s2
    cases o
    rfl
  rw [e]
  exact ⟨.ref p, _, J, rfl, k ms p hs (fun z => (hmm z).trans decide_eq_true_iff) hn⟩
/-- it is the sorted list of what is in it, once each -/
def dedup : List Int → List Int
  | [] => []
  | x :: xs => if x ∈ xs then dedup xs else x :: dedup xs
theorem dedup_mem (xs : List Int) (k : Int) : k ∈ dedup xs ↔ k ∈ xs := by
  induction xs with
  | nil => exact Iff.rfl
  | cons x xs ih =>
    unfold dedup
    split
    · rename_i h
      rw [ih, List.mem_cons]
      exact ⟨.inr, fun z => z.elim (fun e => e ▸ h) id⟩
    · rw [List.mem_cons, List.mem_cons, ih]
theorem dedup_nd (xs : List Int) : (dedup xs).Nodup := by
  induction xs with
  | nil => exact List.nodup_nil
  | cons x xs ih =>
    unfold dedup
    split
    · exact ih
    · rename_i h
      rw [List.nodup_cons]
      exact ⟨fun z => h ((dedup_mem xs x).mp z), ih⟩
theorem sortD_eq {ns out : List Int} (h1 : out.Pairwise (· < ·)) (h2 : ∀ k, k ∈ out ↔ k ∈ ns) : out = sortI (dedup ns) :=
  sortI_eq ((List.perm_ext_iff_of_nodup (h1.imp fun h => by omega) (dedup_nd ns)).mpr fun a => (h2 a).trans (dedup_mem ns a).symm) (h1.imp fun h => by omega)
theorem sortD_lt (ns : List Int) : (sortI (dedup ns)).Pairwise (· < ·) :=
  (sortI_sorted _).imp₂ (fun x y h1 h2 => by omega) ((sortI_perm _).nodup_iff.mpr (dedup_nd ns))
theorem sortD_mem (ns : List Int) (k : Int) : k ∈ sortI (dedup ns) ↔ k ∈ ns := (sortI_perm _).mem_iff.trans (dedup_mem ns k)
theorem sortD_self {ns : List Int} (h : ns.Pairwise (· < ·)) : sortI (dedup ns) = ns := (sortD_eq h fun _ => Iff.rfl).symm
theorem ev_sset {ta : TE} {Γ Γ1 : Env} {K : PySem.W.Frag} {ns : List Int} (h : Ev ta Γ Γ1 (Fz ns)) (hn : ns.length < 64) : Ev (tSortSet K ta) Γ Γ1 (Ow (sortI (dedup ns))) :=
  ev_o1l (r := fun x H1 Q => ∃ (l : Addr) (ns : List Int), x = .ref l ∧ SqL K H1 l (ns.map V.int) ∧ ns.length < 64 ∧ ∀ (out : List Int) (p : Addr), out.Pairwise (· < ·) → (∀ k, k ∈ out ↔ k ∈ ns) → H1 p = none → Q (.ref p) (upd H1 p (.lst (out.map V.int)))) h fun Hb H v s e => by
    obtain ⟨l, e1, e2⟩ := is_toI e
    exact ⟨_, al_ofI _, fun Q q => ⟨l, ns, e1, SqL.of (s _ _ e2), hn, fun out p h1 h2 hp => by rw [sortD_eq h1 h2]; exact q p hp⟩⟩
end Cc

namespace Cc
open PySem L2
/-! News: the mirror -/
abbrev Nw := List (Int × List Int)
abbrev NwM := List (Int × Addr × List Int)
def rowsOf (M : NwM) : Nw := M.map fun e => (e.1, e.2.2)
def rowAt (N : Nw) (k : Int) : List Int := (gVal N k).getD []
def callersM (N : Nw) : List Int := (sortI (N.map (·.1))).filter fun p => decide (rowAt N p ≠ [])
def nextM (N : Nw) (c : Int) : Int := (rowAt N c).headD 0
def callM (os : List (List Int)) (N : Nw) (c : Int) (b : Bool) : Nw :=
  if b then gPut (gPut N c (rowAt N c).tail) (nextM N c) (os.getD (nextM N c).toNat []) else gPut N c (os.getD (nextM N c).toNat [] ++ (rowAt N c).tail)
/-! on the heap -/
structure KNews (K : PySem.W.Frag) (C : Addr) : Prop where
  cl : Cls K C
  nO : NoAttr K C "orders"
  nR : NoAttr K C "rows"
def newsF (p d : Addr) : List (Str × V) := putF "rows" (.ref d) (putF "orders" (.ref p) [])
theorem newsF_orders (p d : Addr) : (newsF p d).lookup ("orders" : Str) = some (.ref p) := by
  unfold newsF
  rw [lookup_putF, if_neg (by decide +kernel), lookup_putF, if_pos rfl]
theorem newsF_rows (p d : Addr) : (newsF p d).lookup ("rows" : Str) = some (.ref d) := by
  unfold newsF
  rw [lookup_putF, if_pos rfl]
theorem newsF_no (p d : Addr) {m : Str} (h1 : ¬ m = "rows") (h2 : ¬ m = "orders") : (newsF p d).lookup m = none := by
  unfold newsF
  rw [lookup_putF, if_neg h1, lookup_putF, if_neg h2]
  rfl
def Rm (H : Hp) (M : NwM) : Prop := ∀ e ∈ M, H e.2.1 = some (intsO e.2.2)
theorem Rm.same {H H' : Hp} {M : NwM} (h : Rm H M) (s : Same H H') : Rm H' M := fun e he => s _ _ (h e he)
/-- what is read of a News -/
structure NwR (H : Hp) (C x dx p : Addr) (ps : List Addr) (os : List (List Int)) (d : Addr) : Prop where
  x : H x = some (.ins C dx (newsF p d))
  R : Rows H p ps os
theorem NwR.same {H H' : Hp} {C x dx p : Addr} {ps : List Addr} {os : List (List Int)} {d : Addr} (h : NwR H C x dx p ps os d) (s : Same H H') : NwR H' C x dx p ps os d := ⟨s _ _ h.x, h.R.same s⟩
theorem gVal_mem {α : Type} {M : List (Int × α)} {k : Int} {a : α} (h : gVal M k = some a) : (k, a) ∈ M := by
  induction M with
  | nil => cases h
  | cons e M ih =>
    rw [gVal_cons] at h
    by_cases g : e.1 = k
    · rw [if_pos g] at h
      cases h
      subst g
      exact List.mem_cons_self
    · rw [if_neg g] at h
      exact List.mem_cons_of_mem _ (ih h)
theorem rowAt_of {M : NwM} {k : Int} {q : Addr} {r : List Int} (h : gVal M k = some (q, r)) : rowAt (rowsOf M) k = r := by
  unfold rowAt rowsOf
  rw [gVal_map (fun e : Addr × List Int => e.2), h]
  rfl
theorem rowsOf_keys (M : NwM) : (rowsOf M).map (·.1) = M.map (·.1) := by unfold rowsOf; rw [List.map_map]; rfl
theorem rowsOf_put (M : NwM) (k : Int) (q : Addr) (r : List Int) : rowsOf (gPut M k (q, r)) = gPut (rowsOf M) k r := (gPut_map (fun e : Addr × List Int => e.2) M k (q, r)).symm
theorem gVal_some {α : Type} {M : List (Int × α)} {k : Int} (h : k ∈ M.map (·.1)) : ∃ a, gVal M k = some a := by
  cases e : gVal M k with
  | none => exact absurd h (gVal_none.mp e)
  | some a => exact ⟨a, rfl⟩
theorem gPut_mem {α : Type} {M : List (Int × α)} {k : Int} {a : α} {e : Int × α} (h : e ∈ gPut M k a) : e ∈ M ∨ e.2 = a := by
  unfold gPut at h
  split at h
  · obtain ⟨x, hx, rfl⟩ := List.mem_map.mp h
    split
    · exact .inr rfl
    · exact .inl hx
  · rcases List.mem_append.mp h with h | h
    · exact .inl h
    · rw [List.mem_singleton.mp h]; exact .inr rfl
theorem gPut_len {α : Type} (M : List (Int × α)) (k : Int) (a : α) : (gPut M k a).length ≤ M.length + 1 := by
  unfold gPut
  split
  · simp
  · simp
theorem Rm.put {H : Hp} {M : NwM} {k : Int} {q : Addr} {r : List Int} (h : Rm H M) (hq : H q = some (intsO r)) : Rm H (gPut M k (q, r)) := fun e he => by
  rcases gPut_mem he with he | he
  · exact h e he
  · rw [he]; exact hq
/-! News.callers -/
def sp_News_callers (C : Addr) : Sp := fun vs H Q _ => ∃ (x dx p d : Addr) (M : NwM), vs = [.ref x] ∧ H x = some (.ins C dx (newsF p d)) ∧ H d = some (.dK (kvsOf M)) ∧ Rm H M ∧ M.length ≤ 10000 ∧
  ∀ l H', Lo H H' [(l, intsO (callersM (rowsOf M)))] → Q (.ref l) H'
def t_News_callers (K : PySem.W.Frag) : TS :=
(tRet (tLc (iList K (tCB (rSortedI K) (tCons (tCB qListD (tCons (tFld K (tVar 0) "rows") tNil)) tNil))) (gName 1) (tTest (tOp (rNeD K) (tDGet (tFld K (tVar 0) "rows") (tVar 1)) (tLst tNil))) (tVar 1) [1]))
theorem fm_eq {P : Int → Bool} : ∀ l : List Int, (l.map fun x => if P x then some (V.int x) else none).filterMap id = (l.filter P).map V.int
  | [] => rfl
  | x :: l => by
    have ih := fm_eq (P := P) l
    by_cases h : P x
    · simp [h] at ih ⊢; exact ih
    · simp [h] at ih ⊢; exact ih
theorem v_News_callers {K : PySem.W.Frag} {C : Addr} (T : KNews K C) {vs : List V} {H : Hp} {Q : VK} {E : XK} (h : sp_News_callers C vs H Q E) : t_News_callers K (fin Q) (st0 2 vs) H := by
  obtain ⟨x, dx, p, d, M, rfl, hx, hd, hM, hl, k⟩ := h
  refine ⟨_, rfl, x, C, dx, _, _, rfl, hx, T.cl, T.nR, newsF_rows _ _, d, _, rfl, .inl hd, fun z hz => ?_⟩
  have ek : ((kvsOf M).map fun kv => kV kv.1) = (M.map (·.1)).map V.int := by unfold kvsOf; rw [List.map_map, List.map_map]; rfl
  rw [ek]
  refine ⟨z, _, rfl, SqL.of upd_same, fun ns l h1 h2 hl2 => ?_⟩
  have e := sortI_eq h1 h2
  subst e
  have s2 := (Same.new hz (.lst ((M.map (·.1)).map V.int))).trans (Same.new hl2 (.lst ((sortI (M.map (·.1))).map V.int)))
  generalize hH2 : upd (upd H z (.lst ((M.map (·.1)).map V.int))) l (.lst ((sortI (M.map (·.1))).map V.int)) = H2 at s2
  have hl3 : H2 l = some (.lst ((sortI (M.map (·.1))).map V.int)) := by rw [← hH2]; exact upd_same
  refine ⟨l, rfl, ⟨_, SqL.of hl3⟩, fun D hD => ?_⟩
  refine lcT ((sortI (M.map (·.1))).map fun x => if decide (rowAt (rowsOf M) x ≠ []) then some (V.int x) else none) (by simp) (wk_list (SqL.of hl3)) (by rw [List.length_map, sortI_len, List.length_map]; omega) hD ?_ ?_ (gN_mono _) ?_
  · rintro i y C' w H3 s3 ⟨hy, rfl⟩ _ hw Nx kn
    obtain ⟨c, hc, rfl⟩ := mapV_get hy
    rw [List.getElem?_map, hc] at hw
    have hw : (if decide (rowAt (rowsOf M) c ≠ []) then some (V.int c) else none) = w := Option.some.inj hw
    have hk : c ∈ M.map (·.1) := (sortI_perm _).mem_iff.mp (List.mem_of_getElem? hc)
    obtain ⟨⟨q, r⟩, hv⟩ := gVal_some hk
    rw [rowAt_of hv] at hw
    have hq : H3 q = some (intsO r) := s3 _ _ (s2 _ _ (hM _ (gVal_mem hv)))
    have hd3 := s3 _ _ (s2 _ _ hd)
    refine ⟨rfl, _, rfl, x, C, dx, _, _, rfl, s3 _ _ (s2 _ _ hx), T.cl, T.nR, newsF_rows _ _, _, rfl, d, .ref q, rfl, .inl ⟨_, .inl c, .inl hd3, rfl, by rw [kvs_val, hv]; rfl⟩, by show 0 ≤ sizeLine; decide, fun u hu => ?_⟩
    refine ⟨_, _, dp_I (Same.new hu (.lst []) _ _ hq), .lst (SqL.of upd_same) .nil, shI r, shI [], _, rfl, ?_⟩
    rw [eqv_I_nil]
    by_cases e : r = []
    · rw [decide_eq_true e]
      rw [decide_eq_false (fun z => z e)] at hw
      subst hw
      exact iteF (kn _ (Same.new hu _))
    · rw [decide_eq_false e]
      rw [decide_eq_true e, if_pos rfl] at hw
      subst hw
      exact iteT ⟨_, rfl, kn _ (Same.new hu _)⟩
  · intro H3 L3
    rw [fm_eq] at L3
    refine k D H3 (((Lo.nil H).cs s2).ca L3 |>.to ?_)
    unfold callersM
    rw [rowsOf_keys]
    rfl
  · rintro σ H Q Q' f ⟨v, e1, a, C, dx, fs, y, e2, e3, e4, e5, e6, w, e7, a', v', e8, e9, e10, g⟩
    exact ⟨v, e1, a, C, dx, fs, y, e2, e3, e4, e5, e6, w, e7, a', v', e8, e9, e10, fun z hz => by
      obtain ⟨d1, d2, g1, g2, g3, g4, b, g5, g6⟩ := g z hz
      exact ⟨d1, d2, g1, g2, g3, g4, b, g5, f _ _ g6⟩⟩
/-! News.next_of -/
def sp_News_next_of (C : Addr) : Sp := fun vs H Q _ => ∃ (x dx p d : Addr) (M : NwM) (c : Int) (q : Addr) (n : Int) (rest : List Int), vs = [.ref x, .int c] ∧ H x = some (.ins C dx (newsF p d)) ∧ H d = some (.dK (kvsOf M)) ∧ gVal M c = some (q, n :: rest) ∧ H q = some (intsO (n :: rest)) ∧
  ∀ H', Same H H' → Q (.int n) H'
def t_News_next_of (K : PySem.W.Frag) : TS :=
(tRet (tOp (rIxL K) (tDGet (tFld K (tVar 0) "rows") (tVar 1)) (tC (.int 0))))
theorem v_News_next_of {K : PySem.W.Frag} {C : Addr} (T : KNews K C) {vs : List V} {H : Hp} {Q : VK} {E : XK} (h : sp_News_next_of C vs H Q E) : t_News_next_of K (fin Q) (st0 2 vs) H := by
  obtain ⟨x, dx, p, d, M, c, q, n, rest, rfl, hx, hd, hv, hq, k⟩ := h
  exact ⟨_, rfl, x, C, dx, _, _, rfl, hx, T.cl, T.nR, newsF_rows _ _, _, rfl, d, .ref q, rfl, .inl ⟨_, .inl c, .inl hd, rfl, by rw [kvs_val, hv]; rfl⟩, q, _, 0, .int n, rfl, rfl, SqL.of hq, atI_int (ps := n :: rest) (by decide) rfl, k _ (Same.refl _)⟩
end Cc

namespace Cc
open PySem L2
theorem Lo.pGet {H H1 H2 : Hp} {C : List Cell} (L : Lo H1 H2 C) {a : Addr} {o : HO} (h : (a, o) ∈ C) : plus H C a = some o := by
  unfold plus
  rw [lookup_of L.nd h]
/-! News.__init__ -/
def sp_News___init__ (C : Addr) : Sp := fun vs H Q _ => ∃ (H0 : Hp) (x dx po : Addr) (pso : List Addr) (rows : List (List Int)), vs = [.ref x, .ref po] ∧ Lo H0 H [(x, .ins C dx []), (dx, .own x)] ∧ Rows H0 po pso rows ∧ 1 ≤ rows.length ∧ rows.length ≤ 10000 ∧
  ∀ p ps d q H', Lo H0 H' ((d, .dK (kvsOf [(0, q, rows.getD 0 [])])) :: (q, intsO (rows.getD 0 [])) :: (x, .ins C dx (newsF p d)) :: (dx, .own x) :: llC p ps rows) → ps.length = rows.length → Q .non H'
def t_News___init__ (K : PySem.W.Frag) : TS :=
(tSeq (sFld K (tVar 0) (tLc (iList K (tVar 1)) (gName 2) tYes (tCB (qList K) (tCons (tVar 2) tNil)) [2]) "orders")
    (tSeq (sFld K (tVar 0) tDNewK "rows")
    (sDPut (tFld K (tVar 0) "rows") (tC (.int 0)) (tCB (qList K) (tCons (tOp (rIxL K) (tVar 1) (tC (.int 0))) tNil)))))
theorem v_News___init__ {K : PySem.W.Frag} {C : Addr} (T : KNews K C) {vs : List V} {H : Hp} {Q : VK} {E : XK} (h : sp_News___init__ C vs H Q E) : t_News___init__ K (fin Q) (st0 3 vs) H := by
  obtain ⟨H0, x, dx, po, pso, rows, rfl, L, R, hr1, hr2, k⟩ := h
  refine q_fld (vr_copy (va_var rfl) (R.same L.sm) hr2 (by show 2 < 3; decide)) ?_
  rintro _ H1 ⟨p, ps, rfl, L1, hps⟩
  have L2 := L.ca L1
  refine ⟨_, rfl, x, C, dx, _, rfl, L2.get (List.mem_append_right _ List.mem_cons_self), T.cl, T.nO, by decide, ?_⟩
  have L3 := (L2.pk (L' := (x, .ins C dx []) :: (dx, .own x) :: llC p ps rows) [llC p ps rows, [(x, .ins C dx [])], [(dx, .own x)]] [0, 1, 2] [1, 2, 0]).wr0 (.ins C dx (putF "orders" (.ref p) []))
  refine q_fld (R := fun v H4 => ∃ d, v = .ref d ∧ Lo H0 H4 ((d, .dK []) :: (x, .ins C dx (putF "orders" (.ref p) [])) :: (dx, .own x) :: llC p ps rows)) (fun Q' q' d hd => q' _ _ ⟨d, rfl, L3.al hd _⟩) ?_
  rintro _ H4 ⟨d, rfl, L4⟩
  refine ⟨_, rfl, x, C, dx, _, rfl, L4.get (List.mem_cons_of_mem _ List.mem_cons_self), T.cl, T.nR, by show 1 < 1000; decide, ?_⟩
  have L5 := Lo.wr (A := [(d, .dK [])]) (B := (dx, .own x) :: llC p ps rows) L4 (.ins C dx (newsF p d))
  have hpl := R.len
  have g0 := get_some (xs := pso) (i := 0) (by omega)
  have r0 := get_some (xs := rows) (i := 0) (by omega)
  have er : rows.getD 0 [] = rows[0]'(by omega) := by simp [r0]
  rw [← er] at r0
  have hx5 := L5.get (List.mem_cons_of_mem _ List.mem_cons_self)
  refine ⟨_, rfl, po, _, 0, _, rfl, rfl, SqL.of (L5.same _ _ R.top), atI_ref (by decide) g0, _, _, rfl, .inl (SqL.of (L5.same _ _ (R.row g0 r0))), fun q hq => ?_⟩
  have L6 := L5.al hq (intsO (rows.getD 0 []))
  refine ⟨_, rfl, x, C, dx, _, _, rfl, L6.get (List.mem_cons_of_mem _ (List.mem_cons_of_mem _ List.mem_cons_self)), T.cl, T.nR, newsF_rows _ _, d, _, rfl, DPut.k (k := .inl 0) (L6.get (List.mem_cons_of_mem _ List.mem_cons_self)) (by decide), ?_⟩
  have L7 := Lo.wr (A := [(q, intsO (rows.getD 0 []))]) (B := (x, .ins C dx (newsF p d)) :: (dx, .own x) :: llC p ps rows) L6 (.dK (kvsOf [(0, q, rows.getD 0 [])]))
  exact k p ps d q _ (L7.perm (List.Perm.swap _ _ _)) hps
/-! News.call -/
def sp_News_call (C : Addr) : Sp := fun vs H Q _ => ∃ (Hc H0 : Hp) (x dx p : Addr) (ps : List Addr) (os : List (List Int)) (d : Addr) (M : NwM) (c : Int) (b : Bool) (q : Addr) (n : Int) (rest : List Int), vs = [.ref x, .int c, .bl b] ∧ Same Hc H0 ∧ Lo H0 H [(d, .dK (kvsOf M))] ∧
  NwR Hc C x dx p ps os d ∧ Rm Hc M ∧ gVal M c = some (q, n :: rest) ∧ 0 ≤ n ∧ n < os.length ∧ M.length ≤ 5000 ∧ rest.length ≤ 10000 ∧ (∀ r ∈ os, r.length ≤ 10000) ∧
  ∀ M' C' H', Lo H0 H' ((d, .dK (kvsOf M')) :: C') → Rm (plus Hc C') M' → rowsOf M' = callM os (rowsOf M) c b → M'.length ≤ M.length + 2 → Q (.int n) H'
def t_News_call (K : PySem.W.Frag) : TS :=
(tSeq (tAsg (tOp (rIxL K) (tDGet (tFld K (tVar 0) "rows") (tVar 1)) (tC (.int 0))) (gName 3))
    (tSeq (tAsg (L2.tSl (rSlL K) (tDGet (tFld K (tVar 0) "rows") (tVar 1)) (tPart (tC (.int 1))) tNoPart) (gName 4))
    (tSeq (tIfS (tB (tVar 2))
    (tSeq (sDPut (tFld K (tVar 0) "rows") (tVar 1) (tVar 4))
      (sDPut (tFld K (tVar 0) "rows") (tVar 3) (tCB (qList K) (tCons (tOp (rIxL K) (tFld K (tVar 0) "orders") (tVar 3)) tNil))))
    (sDPut (tFld K (tVar 0) "rows") (tVar 1) (tOp rCat (tOp (rIxL K) (tFld K (tVar 0) "orders") (tVar 3)) (tVar 4))))
    (tRet (tVar 3)))))
theorem kvsOf_len (M : NwM) : (kvsOf M).length = M.length := by unfold kvsOf; rw [List.length_map]
theorem v_News_call {K : PySem.W.Frag} {C : Addr} (T : KNews K C) {vs : List V} {H : Hp} {Q : VK} {E : XK} (h : sp_News_call C vs H Q E) : t_News_call K (fin Q) (st0 5 vs) H := by
  obtain ⟨Hc, H0, x, dx, p, ps, os, d, M, c, b, q, n, rest, rfl, sc, L, N, hM, hv, hn0, hn1, hml, hrl, hos, k⟩ := h
  have sH : Same Hc H := sc.trans L.sm
  have NH := N.same sH
  have hq : H q = some (intsO (n :: rest)) := sH _ _ (hM _ (gVal_mem hv))
  have hd := L.get List.mem_cons_self
  have dg : DGet H d (.int c) (some (.ref q)) := .inl ⟨_, .inl c, .inl hd, rfl, by rw [kvs_val, hv]; rfl⟩
  refine q_set (v := .int n) (fun Q' q' => ⟨_, rfl, x, C, dx, _, _, rfl, NH.x, T.cl, T.nR, newsF_rows _ _, _, rfl, d, .ref q, rfl, dg, q, _, 0, .int n, rfl, rfl, SqL.of hq, atI_int (ps := n :: rest) (by decide) rfl, q'⟩) ?_
  refine q_setR (R := fun v H1 => ∃ a1, v = .ref a1 ∧ Lo H0 H1 [(a1, intsO rest), (d, .dK (kvsOf M))]) (fun Q' q' => ⟨_, rfl, x, C, dx, _, _, rfl, NH.x, T.cl, T.nR, newsF_rows _ _, _, rfl, d, .ref q, rfl, dg, 1, rfl, q, _, rfl, SqL.of hq, fun a1 ha1 => q' _ _ ⟨a1, rfl, ?_⟩⟩) ?_
  · have e : cutV ((n :: rest).map V.int) (some 1) none = rest.map V.int := by rw [show (1 : Int) = ((1 : Nat) : Int) from rfl, cut_from]; rfl
    rw [e]
    exact L.al ha1 _
  rintro _ H1 ⟨a1, rfl, L1⟩
  have s1 : Same Hc H1 := sc.trans L1.sm
  have N1 := N.same s1
  have hpl := N.R.len
  have gp := get_some (xs := ps) (i := n.toNat) (by omega)
  have gr := get_some (xs := os) (i := n.toNat) (by omega)
  have ero : os.getD n.toNat [] = os[n.toNat]'(by omega) := by simp [gr]
  rw [← ero] at gr
  generalize ps[n.toNat]'(by omega) = pn at gp
  have hrow := hos _ (List.mem_of_getElem? gr)
  have eR : rowAt (rowsOf M) c = n :: rest := rowAt_of hv
  have eN : nextM (rowsOf M) c = n := by unfold nextM; rw [eR]; rfl
  have hd1 := L1.get (List.mem_cons_of_mem _ List.mem_cons_self)
  cases b with
  | true =>
    refine ⟨_, rfl, _, rfl, iteT ?_⟩
    refine ⟨_, rfl, _, rfl, x, C, dx, _, _, rfl, N1.x, T.cl, T.nR, newsF_rows _ _, _, rfl, d, _, rfl, DPut.k (k := .inl c) hd1 (by rw [kvsOf_len]; exact szl (by omega)), ?_⟩
    rw [kvs_put M c a1 rest]
    have L2 := Lo.wr (A := [(a1, intsO rest)]) (B := []) L1 (.dK (kvsOf (gPut M c (a1, rest))))
    generalize upd H1 d (.dK (kvsOf (gPut M c (a1, rest)))) = H2 at L2
    have N2 := N.same (sc.trans L2.sm)
    have s2 := sc.trans L2.sm
    refine ⟨_, rfl, x, C, dx, _, _, rfl, N2.x, T.cl, T.nO, newsF_orders _ _, _, rfl, p, _, n, .ref pn, rfl, rfl, SqL.of N2.R.top, atI_ref hn0 gp, pn, _, rfl, .inl (SqL.of (N2.R.row gp gr)), fun a2 ha2 => ?_⟩
    have L3 := L2.al ha2 (intsO (os.getD n.toNat []))
    have hx3 := L3.same _ _ (sc _ _ N.x)
    have gl := gPut_len M c (a1, rest)
    refine ⟨_, rfl, x, C, dx, _, _, rfl, hx3, T.cl, T.nR, newsF_rows _ _, _, rfl, d, _, rfl, DPut.k (k := .inl n) (L3.get (List.mem_cons_of_mem _ (List.mem_cons_of_mem _ List.mem_cons_self))) (by rw [kvsOf_len]; exact szl (by omega)), ?_⟩
    rw [kvs_put _ n a2 (os.getD n.toNat [])]
    have L4 := Lo.wr (A := [(a2, intsO (os.getD n.toNat [])), (a1, intsO rest)]) (B := []) L3 (.dK (kvsOf (gPut (gPut M c (a1, rest)) n (a2, os.getD n.toNat []))))
    have L5 := L4.perm (List.perm_append_comm (l₁ := [(a2, intsO (os.getD n.toNat [])), (a1, intsO rest)]))
    have L6 := L5.sub (List.sublist_cons_self _ _)
    have gl2 := gPut_len (gPut M c (a1, rest)) n (a2, os.getD n.toNat [])
    refine ⟨_, rfl, k _ _ _ L5 (((hM.same (L6.pSame sc)).put (L6.pGet (List.mem_cons_of_mem _ List.mem_cons_self))).put (L6.pGet List.mem_cons_self)) ?_ (by omega)⟩
    rw [rowsOf_put, rowsOf_put]
    unfold callM
    rw [if_pos rfl, eR, eN]
    rfl
  | false =>
    refine ⟨_, rfl, _, rfl, iteF ?_⟩
    refine ⟨_, rfl, x, C, dx, _, _, rfl, N1.x, T.cl, T.nO, newsF_orders _ _, _, rfl, p, _, n, .ref pn, rfl, rfl, SqL.of N1.R.top, atI_ref hn0 gp, _, rfl, pn, a1, _, _, rfl, rfl, N1.R.row gp gr, L1.get List.mem_cons_self, by simp only [List.length_map]; exact sz (by omega), fun a2 ha2 => ?_⟩
    rw [← List.map_append]
    have L3 := L1.al ha2 (intsO (os.getD n.toNat [] ++ rest))
    have hx3 := L3.same _ _ (sc _ _ N.x)
    refine ⟨_, rfl, x, C, dx, _, _, rfl, hx3, T.cl, T.nR, newsF_rows _ _, _, rfl, d, _, rfl, DPut.k (k := .inl c) (L3.get (List.mem_cons_of_mem _ (List.mem_cons_of_mem _ List.mem_cons_self))) (by rw [kvsOf_len]; exact szl (by omega)), ?_⟩
    rw [kvs_put _ c a2 (os.getD n.toNat [] ++ rest)]
    have L4 := Lo.wr (A := [(a2, intsO (os.getD n.toNat [] ++ rest)), (a1, intsO rest)]) (B := []) L3 (.dK (kvsOf (gPut M c (a2, os.getD n.toNat [] ++ rest))))
    have L5 := L4.perm (List.perm_append_comm (l₁ := [(a2, intsO (os.getD n.toNat [] ++ rest)), (a1, intsO rest)]))
    have L6 := L5.sub (List.sublist_cons_self _ _)
    have gl := gPut_len M c (a2, os.getD n.toNat [] ++ rest)
    refine ⟨_, rfl, k _ _ _ L5 ((hM.same (L6.pSame sc)).put (L6.pGet List.mem_cons_self)) ?_ (by omega)⟩
    rw [rowsOf_put]
    unfold callM
    rw [if_neg (by decide), eR, eN]
    rfl
end Cc

namespace Cc
open PySem L2
/-! News.pass_turn: the mirror -/
abbrev Tri := T3 Int Int Bool
/-- cells alone -/
def inC (C : List Cell) : Hp := plus (fun _ => none) C
theorem none_same (H : Hp) : Same (fun _ => none) H := fun _ _ e => by cases e
def turnGo (os : List (List Int)) (absent : List Int) : List Int → Nw → List Tri × Nw
  | [], N => ([], N)
  | c :: cs, N => (⟨c, nextM N c, decide (nextM N c ∉ absent)⟩ :: (turnGo os absent cs (callM os N c (decide (nextM N c ∉ absent)))).1, (turnGo os absent cs (callM os N c (decide (nextM N c ∉ absent)))).2)
theorem turnGo_snoc (os : List (List Int)) (absent : List Int) : ∀ (cs : List Int) (c : Int) (N : Nw), turnGo os absent (cs ++ [c]) N =
    ((turnGo os absent cs N).1 ++ [⟨c, nextM (turnGo os absent cs N).2 c, decide (nextM (turnGo os absent cs N).2 c ∉ absent)⟩], callM os (turnGo os absent cs N).2 c (decide (nextM (turnGo os absent cs N).2 c ∉ absent)))
  | [], c, N => rfl
  | b :: cs, c, N => by
    show turnGo os absent (b :: (cs ++ [c])) N = _
    rw [turnGo, turnGo_snoc os absent cs c]
    rfl
def passM (os : List (List Int)) (absent silent : List Int) (N : Nw) : List Tri × Nw := turnGo os absent ((callersM N).filter fun c => decide (c ∉ silent)) N
/-- each one that calls has one to call, then -/
def Goes (os : List (List Int)) (absent cs : List Int) (N : Nw) : Prop := ∀ (i : Nat) (c : Int), cs[i]? = some c → ∃ n rest, gVal (turnGo os absent (cs.take i) N).2 c = some (n :: rest) ∧ 0 ≤ n ∧ n < os.length ∧ rest.length ≤ 10000
/-- a list of calls, read -/
structure Tr3 (H : Hp) (vs : List V) (ts : List Tri) : Prop where
  len : vs.length = ts.length
  row : ∀ {i : Nat} {v : V} {t : Tri}, vs[i]? = some v → ts[i]? = some t → ∃ a, v = .ref a ∧ H a = some (.tup [.int t.a, .int t.b, .bl t.c])
theorem Tr3.same {H H' : Hp} {vs : List V} {ts : List Tri} (h : Tr3 H vs ts) (s : Same H H') : Tr3 H' vs ts := ⟨h.len, fun a b => let ⟨x, e, g⟩ := h.row a b; ⟨x, e, s _ _ g⟩⟩
theorem Tr3.snoc {H : Hp} {vs : List V} {ts : List Tri} (h : Tr3 H vs ts) {a : Addr} {t : Tri} (ha : H a = some (.tup [.int t.a, .int t.b, .bl t.c])) : Tr3 H (vs ++ [.ref a]) (ts ++ [t]) :=
  ⟨by simp [h.len], fun {i v u} e1 e2 => by
    rcases get_snoc e1 with e | ⟨e, e'⟩
    · have : i < ts.length := by rw [← h.len]; exact lt_of_get e
      rw [List.getElem?_append_left this] at e2
      exact h.row e e2
    · subst e e'
      rw [h.len] at e2
      simp at e2
      subst e2
      exact ⟨a, rfl, ha⟩⟩
theorem inV_int (x : Int) (xs : List Int) : inV (.int x) (xs.map V.int) = decide (x ∈ xs) := by
  unfold inV
  rw [List.any_map, Bool.eq_iff_iff, List.any_eq_true, decide_eq_true_eq]
  constructor
  · rintro ⟨y, hy, e⟩
    have e : eqV (.int y) (.int x) = true := e
    have : y = x := by simpa [eqV] using e
    rw [← this]; exact hy
  · intro h
    exact ⟨x, h, by show eqV (.int x) (.int x) = true; simp [eqV]⟩
theorem flat_ints (xs : List Int) : (xs.map V.int).all flatV = true := by
  rw [List.all_map, List.all_eq_true]
  exact fun _ _ => rfl
/-- x not in xs -/
theorem va_notin {K : PySem.W.Frag} {σ : L2.St} {H : Hp} {i j : Nat} {x : Int} {p : Addr} {xs : List Int} (hi : σ[i]? = some (some (.int x))) (hj : σ[j]? = some (some (.ref p))) (hp : H p = some (intsO xs)) : Va (tOp (rIn K true) (tVar i) (tVar j)) σ H (.bl (decide (x ∉ xs))) := fun Q q => by
  refine ⟨_, hi, _, hj, p, _, rfl, .inl (SqL.of hp), rfl, flat_ints xs, ?_⟩
  rw [inV_int, if_pos rfl]
  have e : (!decide (x ∈ xs)) = decide (x ∉ xs) := by simp
  rw [e]
  exact q
end Cc

namespace Cc
open PySem L2
abbrev StT := L2.St
def sp_News_pass_turn (C : Addr) : Sp := fun vs H Q _ => ∃ (Hc H0 : Hp) (x dx p : Addr) (ps : List Addr) (os : List (List Int)) (d : Addr) (M : NwM) (ab si : Addr) (absent silent : List Int), vs = [.ref x, .ref ab, .ref si] ∧ Same Hc H0 ∧ Lo H0 H [(d, .dK (kvsOf M))] ∧
  NwR Hc C x dx p ps os d ∧ Rm Hc M ∧ H0 ab = some (intsO absent) ∧ H0 si = some (intsO silent) ∧ Goes os absent ((callersM (rowsOf M)).filter fun c => decide (c ∉ silent)) (rowsOf M) ∧ M.length ≤ 1000 ∧ (∀ r ∈ os, r.length ≤ 10000) ∧
  ∀ M' f ws C' H', Lo H0 H' ((d, .dK (kvsOf M')) :: (f, .lst ws) :: C') → Rm (plus Hc C') M' → rowsOf M' = (passM os absent silent (rowsOf M)).2 → Tr3 (inC C') ws (passM os absent silent (rowsOf M)).1 → M'.length ≤ 3 * M.length → Q (.ref f) H'
def t_News_pass_turn (K : PySem.W.Frag) (C_News : Addr) : TS :=
(tSeq (tAsg (tLst tNil) (gName 3))
    (tSeq (tFor (iList K (tLc (iList K (tMeth C_News "callers" (sp_News_callers C_News) [] E0 (tVar 0) tNil)) (gName 4) (tTest (tOp (rIn K true) (tVar 4) (tVar 2))) (tVar 4) [4])) (gName 5)
    (tSeq (tAsg (tMeth C_News "next_of" (sp_News_next_of C_News) [] E0 (tVar 0) (tCons (tVar 5) tNil)) (gName 6))
      (tSeq (tDrop (tBM K "list" rAppend (tVar 3) (tCons (tTup (tCons (tVar 5) (tCons (tVar 6) (tCons (tOp (rIn K true) (tVar 6) (tVar 1)) tNil)))) tNil)))
      (tDrop (tMeth C_News "call" (sp_News_call C_News) [] E0 (tVar 0) (tCons (tVar 5) (tCons (tOp (rIn K true) (tVar 6) (tVar 1)) tNil)))))))
    (tRet (tVar 3))))
theorem gVal_rows {M : NwM} {c : Int} {r : List Int} (h : gVal (rowsOf M) c = some r) : ∃ q, gVal M c = some (q, r) := by
  unfold rowsOf at h
  rw [gVal_map (fun e : Addr × List Int => e.2)] at h
  cases e : gVal M c with
  | none => rw [e] at h; cases h
  | some a =>
    rw [e] at h
    cases h
    exact ⟨a.1, rfl⟩
theorem callersM_len (N : Nw) : (callersM N).length ≤ N.length := by
  unfold callersM
  refine Nat.le_trans (List.length_filter_le _ _) ?_
  rw [sortI_len, List.length_map]
  exact Nat.le_refl _
theorem v_News_pass_turn {K : PySem.W.Frag} {C : Addr} (T : KNews K C) {vs : List V} {H : Hp} {Q : VK} {E : XK} (h : sp_News_pass_turn C vs H Q E) : t_News_pass_turn K C (fin Q) (st0 7 vs) H := by
  obtain ⟨Hc, H0, x, dx, p, ps, os, d, M, ab, si, absent, silent, rfl, sc, L, N, hM, hab, hsi, hg, hml, hos, k⟩ := h
  refine q_setR (R := fun v H1 => ∃ f, v = .ref f ∧ Lo H0 H1 [(f, .lst []), (d, .dK (kvsOf M))]) (fun Q' q' => ⟨by show 0 ≤ sizeLine; decide, fun f hf => q' _ _ ⟨f, rfl, L.al hf _⟩⟩) ?_
  rintro _ H1 ⟨f, rfl, L1⟩
  have s1 : Same Hc H1 := sc.trans L1.sm
  have clen := callersM_len (rowsOf M)
  have rlen : (rowsOf M).length = M.length := by unfold rowsOf; rw [List.length_map]
  unfold passM at k
  -- those that call
  generalize hcs : ((callersM (rowsOf M)).filter fun c => decide (c ∉ silent)) = cs at hg k
  have cslen : cs.length ≤ M.length := by
    have := List.length_filter_le (fun c => decide (c ∉ silent)) (callersM (rowsOf M))
    rw [hcs] at this
    omega
  refine q_forL (R := fun v H2 => ∃ l, v = .ref l ∧ Lo H0 H2 ((d, .dK (kvsOf M)) :: (f, .lst []) :: [(l, intsO cs)])) (fun Q' q' => ?_) ?_
  · refine ⟨_, rfl, x, dx, _, rfl, s1 _ _ N.x, newsF_no _ _ (by decide +kernel) (by decide +kernel), x, dx, p, d, M, rfl, s1 _ _ N.x, L1.get (List.mem_cons_of_mem _ List.mem_cons_self), hM.same s1, by omega, fun l0 H2 L2 => ?_⟩
    have hl0 := L2.get List.mem_cons_self
    have L12 := L1.ca L2
    refine ⟨l0, rfl, ⟨_, SqL.of hl0⟩, fun D hD => ?_⟩
    refine lcT ((callersM (rowsOf M)).map fun c => if decide (c ∉ silent) then some (V.int c) else none) (by simp) (wk_list (SqL.of hl0)) (by rw [List.length_map]; omega) hD ?_ ?_ (gN_mono _) ?_
    · rintro i y C' w H3 s3 ⟨hy, rfl⟩ _ hw Nx kn
      obtain ⟨c, hc, rfl⟩ := mapV_get hy
      rw [List.getElem?_map, hc] at hw
      have hw : (if decide (c ∉ silent) then some (V.int c) else none) = w := Option.some.inj hw
      refine ⟨rfl, va_notin (i := 4) (j := 2) rfl rfl (s3 _ _ (L12.same _ _ hsi)) _ ⟨_, rfl, ?_⟩⟩
      by_cases e : c ∈ silent
      · rw [decide_eq_false (fun z => z e)] at hw ⊢
        subst hw
        exact iteF (kn _ (Same.refl _))
      · rw [decide_eq_true e] at hw ⊢
        rw [if_pos rfl] at hw
        subst hw
        exact iteT ⟨_, rfl, kn _ (Same.refl _)⟩
    · intro H3 L3
      rw [fm_eq] at L3
      have L4 := L12.ca L3
      rw [hcs] at L4
      exact q' _ _ ⟨D, rfl, L4.pk [[(D, intsO cs)], [(l0, intsO (callersM (rowsOf M)))], [(f, .lst [])], [(d, .dK (kvsOf M))]] [0, 1, 2, 3] [3, 2, 0] [1]⟩
    · rintro σ H Q Q' f ⟨v, e1, w, e2, p, xs, e3, e4, e5, e6, b, e7, g⟩
      exact ⟨v, e1, w, e2, p, xs, e3, e4, e5, e6, b, e7, f _ _ g⟩
  rintro _ H2 ⟨l, rfl, L2⟩
  refine ⟨l, rfl, ⟨_, SqL.of (L2.get (show (l, intsO cs) ∈ _ from List.mem_cons_of_mem _ (List.mem_cons_of_mem _ List.mem_cons_self)))⟩, ?_⟩
  refine for_list (xs := cs.map V.int) (fun i σ Hi => ∃ (x5 x6 : Option V) (Mi : NwM) (ws : List V) (Ci : List Cell), σ = [some (.ref x), some (.ref ab), some (.ref si), some (.ref f), none, x5, x6] ∧ Lo H0 Hi ((d, .dK (kvsOf Mi)) :: (f, .lst ws) :: Ci) ∧ (l, intsO cs) ∈ Ci ∧
    Rm (plus Hc Ci) Mi ∧ rowsOf Mi = (turnGo os absent (cs.take i) (rowsOf M)).2 ∧ Tr3 (inC Ci) ws (turnGo os absent (cs.take i) (rowsOf M)).1 ∧ Mi.length ≤ M.length + 2 * i ∧ ws.length = i) ?_ ?_ ?_ ?_
  · refine ⟨_, _, M, [], [(l, intsO cs)], rfl, L2, by simp, hM.same ((L2.sub ((List.sublist_cons_self _ _).trans (List.sublist_cons_self _ _))).pSame sc), rfl, ⟨rfl, fun h => by simp at h⟩, by omega, rfl⟩
  · rintro i σ Hi _ ⟨x5, x6, Mi, ws, Ci, rfl, Li, hl, _⟩
    exact SqL.of (Li.get (List.mem_cons_of_mem _ (List.mem_cons_of_mem _ hl)))
  · rintro i v σ Hi hv ⟨x5, x6, Mi, ws, Ci, rfl, Li, hl, rm, er, tr, lm, lw⟩
    obtain ⟨c, hc, rfl⟩ := mapV_get hv
    have hi := lt_of_get hc
    obtain ⟨n, rest, hn, n0, n1, nr⟩ := hg i c hc
    rw [← er] at hn
    obtain ⟨q, hq⟩ := gVal_rows hn
    have LC := Li.sub ((List.sublist_cons_self _ _).trans (List.sublist_cons_self _ _))
    have sB : Same Hc (plus Hc Ci) := LC.pSame sc
    have sI : Same (plus Hc Ci) Hi := LC.pLe sc
    have NI := N.same (sB.trans sI)
    have hqI := sI _ _ (rm _ (gVal_mem hq))
    have eN : nextM (rowsOf Mi) c = n := by unfold nextM; rw [rowAt_of hq]; rfl
    refine q_setR (R := fun v H' => v = .int n ∧ Same Hi H') (fun Q' q' => ⟨_, rfl, x, dx, _, rfl, NI.x, newsF_no _ _ (by decide +kernel) (by decide +kernel), _, rfl, x, dx, p, d, Mi, c, q, n, rest, rfl, NI.x, Li.get List.mem_cons_self, hq, hqI, fun H' s => q' _ _ ⟨rfl, s⟩⟩) ?_
    rintro _ H3 ⟨rfl, s3⟩
    have L3 := Li.cs s3
    generalize hb : decide (n ∉ absent) = b
    have eb : ∀ (σ : StT) (H : Hp), σ[6]? = some (some (.int n)) → σ[1]? = some (some (.ref ab)) → H ab = some (intsO absent) → Va (tOp (rIn K true) (tVar 6) (tVar 1)) σ H (.bl b) := fun σ H e1 e2 e3 => by
      rw [← hb]; exact va_notin e1 e2 e3
    have hab3 := L3.same _ _ hab
    refine q_drp (R := fun _ H4 => ∃ t, Lo H0 H4 ((d, .dK (kvsOf Mi)) :: (f, .lst (ws ++ [.ref t])) :: ((t, .tup [.int c, .int n, .bl b]) :: Ci))) (fun Q' q' => ⟨_, rfl, .inl ⟨rfl, _, SqL.of (L3.get (List.mem_cons_of_mem _ List.mem_cons_self))⟩, _, rfl, _, rfl, eb _ _ rfl rfl hab3 _ ⟨by show 3 ≤ sizeLine; decide, fun t ht => ?_⟩⟩) ?_
    · have L4 := L3.al ht (.tup [.int c, .int n, .bl b])
      refine ⟨f, _, _, rfl, rfl, L4.get (List.mem_cons_of_mem _ (List.mem_cons_of_mem _ List.mem_cons_self)), szl (by omega), q' _ _ ⟨t, ?_⟩⟩
      have L5 := Lo.wr (A := [(t, .tup [.int c, .int n, .bl b]), (d, .dK (kvsOf Mi))]) (B := Ci) L4 (.lst (ws ++ [.ref t]))
      exact L5.pk [[(t, .tup [.int c, .int n, .bl b])], [(d, .dK (kvsOf Mi))], [(f, .lst (ws ++ [.ref t]))], Ci] [0, 1, 2, 3] [1, 2, 0, 3]
    rintro _ H4 ⟨t, L4⟩
    have L4' : Lo H0 H4 ([(d, .dK (kvsOf Mi))] ++ ((f, .lst (ws ++ [.ref t])) :: ((t, .tup [.int c, .int n, .bl b]) :: Ci))) := L4
    obtain ⟨G, LG, sG, hG, back⟩ := L4'.split
    have sG : Same H0 G := sG
    have LC4 := L4.sub ((List.sublist_cons_self _ _).trans (List.sublist_cons_self _ _))
    have sB4 : Same Hc (plus Hc ((t, .tup [.int c, .int n, .bl b]) :: Ci)) := LC4.pSame sc
    have up4 : Same (plus Hc Ci) (plus Hc ((t, .tup [.int c, .int n, .bl b]) :: Ci)) := LC4.pUp sc fun c hc => List.mem_cons_of_mem _ hc
    have sBG : Same (plus Hc ((t, .tup [.int c, .int n, .bl b]) :: Ci)) G := plus_le (sc.trans sG) fun a o h => hG (List.mem_cons_of_mem _ h)
    have N4 := N.same sB4
    have hx4 := LG.same _ _ (sBG _ _ N4.x)
    refine ⟨_, rfl, x, dx, _, rfl, hx4, newsF_no _ _ (by decide +kernel) (by decide +kernel), _, rfl, eb _ _ rfl rfl (L4.same _ _ hab) _ ?_⟩
    refine ⟨plus Hc ((t, .tup [.int c, .int n, .bl b]) :: Ci), G, x, dx, p, ps, os, d, Mi, c, b, q, n, rest, rfl, sBG, LG, N4, rm.same up4, hq, n0, n1, by omega, nr, hos, fun M' C' H5 L5 rm5 e5 len5 => ?_⟩
    have L6 := back L5
    have L7 : Lo H0 H5 ((d, .dK (kvsOf M')) :: (f, .lst (ws ++ [.ref t])) :: (C' ++ ((t, .tup [.int c, .int n, .bl b]) :: Ci))) := L6.pk [[(d, .dK (kvsOf M'))], C', [(f, .lst (ws ++ [.ref t]))], ((t, .tup [.int c, .int n, .bl b]) :: Ci)] [0, 1, 2, 3] [0, 2, 1, 3]
    have LC7 := L7.sub ((List.sublist_cons_self _ _).trans (List.sublist_cons_self _ _))
    have up7 : Same (plus Hc ((t, .tup [.int c, .int n, .bl b]) :: Ci)) (plus Hc (C' ++ ((t, .tup [.int c, .int n, .bl b]) :: Ci))) := LC7.pUp sc fun c hc => List.mem_append_right _ hc
    have up8 : Same (plus (plus Hc ((t, .tup [.int c, .int n, .bl b]) :: Ci)) C') (plus Hc (C' ++ ((t, .tup [.int c, .int n, .bl b]) :: Ci))) := plus_le up7 fun a o h => LC7.pGet (List.mem_append_left _ h)
    have et : cs.take (i + 1) = cs.take i ++ [c] := by rw [List.take_add_one, hc]; rfl
    have sn := turnGo_snoc os absent (cs.take i) c (rowsOf M)
    rw [← et, ← er, eN, hb] at sn
    refine ⟨_, _, M', ws ++ [.ref t], _, rfl, L7, List.mem_append_right _ (List.mem_cons_of_mem _ hl), rm5.same up8, by rw [sn, e5], ?_, by omega, by simp [lw]⟩
    rw [sn]
    exact (tr.same (LC7.pUp (none_same _) fun c hc => List.mem_append_right _ (List.mem_cons_of_mem _ hc))).snoc (t := ⟨c, n, b⟩) (LC7.pGet (List.mem_append_right _ List.mem_cons_self))
  · rintro σ Hi ⟨x5, x6, Mi, ws, Ci, rfl, Li, hl, rm, er, tr, lm, lw⟩
    rw [List.length_map, List.take_length] at er tr
    rw [List.length_map] at lm
    exact ⟨_, rfl, k Mi f ws Ci Hi Li rm er tr (by omega)⟩
end Cc

namespace Cc
open PySem L2
/-! walk -/
inductive WalkTo (os : List (List Int)) (absent : List Int) : Nw → List (List Tri) → Prop
  | nil {N : Nw} (h : callersM N = []) (hl : N.length ≤ 1000) : WalkTo os absent N []
  | cons {N : Nw} {ts : List (List Tri)} (h : callersM N ≠ []) (hl : N.length ≤ 1000) (hg : Goes os absent (callersM N) N) (w : WalkTo os absent (turnGo os absent (callersM N) N).2 ts) : WalkTo os absent N ((turnGo os absent (callersM N) N).1 :: ts)
/-- cells of lists of values -/
def vrC : List Addr → List (List V) → List Cell
  | p :: ps, r :: rs => (p, .lst r) :: vrC ps rs
  | _, _ => []
theorem vrC_snoc : ∀ {ps : List Addr} {rs : List (List V)} {p : Addr} {r : List V}, ps.length = rs.length → vrC (ps ++ [p]) (rs ++ [r]) = vrC ps rs ++ [(p, .lst r)]
  | [], [], p, r, _ => rfl
  | q :: ps, s :: rs, p, r, h => by
    show (q, HO.lst s) :: vrC (ps ++ [p]) (rs ++ [r]) = (q, HO.lst s) :: (vrC ps rs ++ [(p, .lst r)])
    rw [vrC_snoc (Nat.succ.inj h)]
  | [], _ :: _, _, _, h => by cases h
  | _ :: _, [], _, _, h => by cases h
/-- rounds of calls, read -/
structure Cal (H : Hp) (vss : List (List V)) (ts : List (List Tri)) : Prop where
  len : vss.length = ts.length
  row : ∀ {i : Nat} {vs : List V} {t : List Tri}, vss[i]? = some vs → ts[i]? = some t → Tr3 H vs t
theorem Cal.same {H H' : Hp} {vss : List (List V)} {ts : List (List Tri)} (h : Cal H vss ts) (s : Same H H') : Cal H' vss ts := ⟨h.len, fun a b => (h.row a b).same s⟩
theorem Cal.snoc {H : Hp} {vss : List (List V)} {ts : List (List Tri)} (h : Cal H vss ts) {vs : List V} {t : List Tri} (ha : Tr3 H vs t) : Cal H (vss ++ [vs]) (ts ++ [t]) :=
  ⟨by simp [h.len], fun {i v u} e1 e2 => by
    rcases get_snoc e1 with e | ⟨e, e'⟩
    · have : i < ts.length := by rw [← h.len]; exact lt_of_get e
      rw [List.getElem?_append_left this] at e2
      exact h.row e e2
    · subst e e'
      rw [h.len] at e2
      simp at e2
      subst e2
      exact ha⟩
def sp_walk : Sp := fun vs H Q _ => ∃ (po : Addr) (pso : List Addr) (os : List (List Int)) (ab : Addr) (absent : List Int) (ts : List (List Tri)), vs = [.ref po, .ref ab] ∧ Rows H po pso os ∧ H ab = some (intsO absent) ∧ 1 ≤ os.length ∧ os.length ≤ 1000 ∧ (∀ r ∈ os, r.length ≤ 10000) ∧
  WalkTo os absent [(0, os.getD 0 [])] ts ∧ ts.length ≤ 10000 ∧ ∀ f fs vss C' H', Lo H H' ((f, refsO fs) :: (vrC fs vss ++ C')) → fs.length = vss.length → Cal (inC C') vss ts → Q (.ref f) H'
def t_walk (K : PySem.W.Frag) (C_News : Addr) : TS :=
(tSeq (tPar 2 3 (tCons (tMake C_News (sp_News___init__ C_News) [] E0 (tCons (tVar 0) tNil)) (tCons (tLst tNil) tNil)))
    (tSeq (tWhile (tTest (tOp (rNeD K) (tMeth C_News "callers" (sp_News_callers C_News) [] E0 (tVar 2) tNil) (tLst tNil)))
    (tDrop (tBM K "list" rAppend (tVar 3) (tCons (tMeth C_News "pass_turn" (sp_News_pass_turn C_News) [] E0 (tVar 2) (tCons (tVar 1) (tCons (tLst tNil) tNil))) tNil))))
    (tRet (tVar 3))))
theorem no_filter (l : List Int) : (l.filter fun c => decide (c ∉ ([] : List Int))) = l := by
  rw [List.filter_eq_self]
  intro a _
  simp
end Cc

namespace Cc
open PySem L2
theorem v_walk {K : PySem.W.Frag} {C : Addr} (T : KNews K C) {vs : List V} {H : Hp} {Q : VK} {E : XK} (h : sp_walk vs H Q E) : t_walk K C (fin Q) (st0 4 vs) H := by
  obtain ⟨po, pso, os, ab, absent, ts0, rfl, R, hab, ho1, ho2, hos, hw, htl, k⟩ := h
  refine q_par (R := fun v H1 => ∃ x dx p ps d q, v = .ref x ∧ Lo H H1 ((d, .dK (kvsOf [(0, q, os.getD 0 [])])) :: (q, intsO (os.getD 0 [])) :: (x, .ins C dx (newsF p d)) :: (dx, .own x) :: llC p ps os) ∧ ps.length = os.length)
    (R2 := fun v u H2 => ∃ x dx p ps d q f, v = .ref x ∧ u = .ref f ∧ Lo H H2 ((d, .dK (kvsOf [(0, q, os.getD 0 [])])) :: (f, .lst []) :: ((q, intsO (os.getD 0 [])) :: (x, .ins C dx (newsF p d)) :: (dx, .own x) :: llC p ps os)) ∧ ps.length = os.length) (fun Q' q' => ?_) ?_ ?_
  · refine ⟨_, rfl, fun x dx hx hdx hne => ?_⟩
    have L3 := ((Lo.nil H).al hdx (.own x)).al (p := x) (by rw [upd_ne hne.symm]; exact hx) (.ins C dx [])
    exact ⟨H, x, dx, po, pso, os, rfl, L3, R, ho1, by omega, fun p ps d q H' L hps => ⟨rfl, q' _ _ ⟨x, dx, p, ps, d, q, rfl, L, hps⟩⟩⟩
  · rintro _ H1 ⟨x, dx, p, ps, d, q, rfl, L, hps⟩ Q' q'
    exact ⟨by show 0 ≤ sizeLine; decide, fun f hf => q' _ _ ⟨x, dx, p, ps, d, q, f, rfl, rfl, (L.al hf (.lst [])).perm (List.Perm.swap _ _ _), hps⟩⟩
  rintro _ _ H2 ⟨x, dx, p, ps, d, q, f, rfl, rfl, L2, hps⟩
  refine q_whN (fun m σ Hi => ∃ (M : NwM) (fs : List Addr) (vss : List (List V)) (Ci : List Cell) (ts1 ts2 : List (List Tri)), σ = [some (.ref po), some (.ref ab), some (.ref x), some (.ref f)] ∧ Lo H Hi ((d, .dK (kvsOf M)) :: (f, refsO fs) :: (vrC fs vss ++ Ci)) ∧
    NwR (plus H Ci) C x dx p ps os d ∧ Rm (plus H Ci) M ∧ fs.length = vss.length ∧ Cal (inC Ci) vss ts1 ∧ WalkTo os absent (rowsOf M) ts2 ∧ ts0 = ts1 ++ ts2 ∧ m = ts2.length) ts0.length ?_ ?_ ?_
  · have LC := L2.sub ((List.sublist_cons_self _ _).trans (List.sublist_cons_self _ _))
    refine ⟨[(0, q, os.getD 0 [])], [], [], _, [], ts0, rfl, L2, ⟨LC.pGet (List.mem_cons_of_mem _ List.mem_cons_self), Rows.of_mem (fun h => LC.pGet (List.mem_cons_of_mem _ (List.mem_cons_of_mem _ (List.mem_cons_of_mem _ h)))) hps⟩, fun e he => ?_, rfl, ⟨rfl, fun h => by simp at h⟩, hw, rfl, rfl⟩
    rw [List.mem_singleton.mp he]
    exact LC.pGet List.mem_cons_self
  · rintro m σ Hi ⟨M, fs, vss, Ci, ts1, ts2, rfl, Li, Ni, rm, hfl, cal, hwt, ets, rfl⟩
    have LC : Lo H Hi Ci := Li.sub ((List.sublist_append_right _ _).trans ((List.sublist_cons_self _ _).trans (List.sublist_cons_self _ _)))
    have sI : Same (plus H Ci) Hi := LC.pLe (Same.refl _)
    have hxI := sI _ _ Ni.x
    have rlen : (rowsOf M).length = M.length := by unfold rowsOf; rw [List.length_map]
    have hml : M.length ≤ 1000 := by cases hwt <;> omega
    refine ⟨_, rfl, x, dx, _, rfl, hxI, newsF_no _ _ (by decide +kernel) (by decide +kernel), x, dx, p, d, M, rfl, hxI, Li.get List.mem_cons_self, rm.same sI, by omega, fun l H3 L3 => ?_⟩
    refine ⟨by show 0 ≤ sizeLine; decide, fun z hz => ?_⟩
    refine ⟨_, _, dp_I (Same.new hz (.lst []) _ _ (L3.get List.mem_cons_self)), .lst (SqL.of upd_same) .nil, shI _, shI [], _, rfl, ?_⟩
    rw [eqv_I_nil]
    have L4 := (Li.cs L3.sm).cs (Same.new hz (.lst []))
    generalize upd H3 z (.lst []) = H4 at L4
    cases hwt with
    | nil h hl =>
      rw [h, decide_eq_true rfl]
      refine iteF ?_
      have L5 : Lo H H4 ((f, refsO fs) :: (vrC fs vss ++ Ci)) := L4.sub (List.sublist_cons_self _ _)
      rw [List.append_nil] at ets
      refine ⟨_, rfl, k f fs vss Ci H4 L5 hfl (by rw [ets]; exact cal)⟩
    | @cons _ ts h hl hg w =>
      rw [decide_eq_false h]
      refine iteT ?_
      have hf4 := L4.get (List.mem_cons_of_mem _ List.mem_cons_self)
      refine ⟨_, rfl, .inl ⟨rfl, _, SqL.of hf4⟩, ?_⟩
      have hx4 : H4 x = some (.ins C dx (newsF p d)) := (LC.cs (by exact fun a o e => e) |> fun _ => (L4.sub ((List.sublist_append_right _ _).trans ((List.sublist_cons_self _ _).trans (List.sublist_cons_self _ _)))).pLe (Same.refl _)) _ _ Ni.x
      refine ⟨_, rfl, x, dx, _, rfl, hx4, newsF_no _ _ (by decide +kernel) (by decide +kernel), _, rfl, by show 0 ≤ sizeLine; decide, fun z2 hz2 => ?_⟩
      have L5 := L4.al hz2 (.lst [])
      have L5' : Lo H _ ([(d, .dK (kvsOf M))] ++ ((z2, .lst []) :: (f, refsO fs) :: (vrC fs vss ++ Ci))) := L5.perm (List.Perm.swap _ _ _)
      obtain ⟨G, LG, sG, hG, back⟩ := L5'.split
      have sG : Same H G := sG
      have sBG : Same (plus H Ci) G := plus_le sG fun a o h => hG (List.mem_cons_of_mem _ (List.mem_cons_of_mem _ (List.mem_append_right _ h)))
      refine ⟨plus H Ci, G, x, dx, p, ps, os, d, M, ab, z2, absent, [], rfl, sBG, LG, Ni, rm, sG _ _ hab, hG List.mem_cons_self, by rw [no_filter]; exact hg, hml, hos, fun M' f2 ws C' H5 L6 rm6 e6 tr6 len6 => ?_⟩
      unfold passM at e6 tr6
      rw [no_filter] at e6 tr6
      have L7 := back L6
      have L8 : Lo H H5 (((d, .dK (kvsOf M')) :: []) ++ (f, refsO fs) :: (vrC fs vss ++ ((f2, .lst ws) :: (C' ++ Ci)))) := L7.pk [[(d, .dK (kvsOf M'))], [(f2, .lst ws)], C', [(z2, .lst [])], [(f, refsO fs)], vrC fs vss, Ci] [0, 1, 2, 3, 4, 5, 6] [0, 4, 5, 1, 2, 6] [3]
      refine ⟨f, _, _, rfl, rfl, L8.get (List.mem_append_right _ List.mem_cons_self), ?_, ?_⟩
      · rw [List.length_map]
        have : fs.length ≤ ts0.length := by rw [hfl, cal.len, ets, List.length_append]; omega
        exact szl (by omega)
      have L9 := L8.wr (refsO (fs ++ [f2]))
      rw [map_ref_snoc]
      have L10 : Lo H (upd H5 f (refsO (fs ++ [f2]))) ((d, .dK (kvsOf M')) :: (f, refsO (fs ++ [f2])) :: (vrC (fs ++ [f2]) (vss ++ [ws]) ++ (C' ++ Ci))) := L9.to (by rw [vrC_snoc hfl]; simp)
      have LC10 : Lo H (upd H5 f (refsO (fs ++ [f2]))) (C' ++ Ci) := L10.sub ((List.sublist_append_right _ _).trans ((List.sublist_cons_self _ _).trans (List.sublist_cons_self _ _)))
      have up1 : Same (plus H Ci) (plus H (C' ++ Ci)) := LC10.pUp (Same.refl _) fun c hc => List.mem_append_right _ hc
      have up2 : Same (plus (plus H Ci) C') (plus H (C' ++ Ci)) := plus_le up1 fun a o h => LC10.pGet (List.mem_append_left _ h)
      refine ⟨ts.length, by simp, M', fs ++ [f2], vss ++ [ws], C' ++ Ci, ts1 ++ [_], ts, rfl, L10, Ni.same up1, rm6.same up2, by simp [hfl], (cal.same (LC10.pUp (none_same _) fun c hc => List.mem_append_right _ hc)).snoc (tr6.same (LC10.pUp (none_same _) fun c hc => List.mem_append_left _ hc)), by rw [e6]; exact w, by rw [ets]; simp, rfl⟩
  · rintro σ H Q Q' g ⟨v, e1, a, dx, fs, e2, e3, e4, x, dx', p, d, M, e5, e6, e7, e8, e9, kk⟩
    refine ⟨v, e1, a, dx, fs, e2, e3, e4, x, dx', p, d, M, e5, e6, e7, e8, e9, fun l H' L => ?_⟩
    obtain ⟨hsz, g2⟩ := kk l H' L
    refine ⟨hsz, fun z hz => ?_⟩
    obtain ⟨d1, d2, q1, q2, q3, q4, b, q5, q6⟩ := g2 z hz
    exact ⟨d1, d2, q1, q2, q3, q4, b, q5, g _ _ q6⟩
end Cc

namespace Cc
open PySem L2
/-! orders: everyone but 0 stands in one row, and whoever is called is of a later birth than who calls it -/
def rowO (os : List (List Int)) (p : Int) : List Int := os.getD p.toNat []
structure OrdG (os : List (List Int)) : Prop where
  pos : 1 ≤ os.length
  perm : (0 :: os.flatten).Perm (people os.length)
  rank : ∃ r : Int → Nat, ∀ (p : Nat) (row : List Int), os[p]? = some row → ∀ q ∈ row, r (p : Int) < r q
theorem perm_compl {K P : List Int} (h1 : K.Nodup) (h2 : P.Nodup) (h : ∀ x ∈ K, x ∈ P) : (K ++ P.filter fun x => decide (x ∉ K)).Perm P := by
  rw [List.perm_ext_iff_of_nodup ?_ h2]
  · intro a
    rw [List.mem_append, List.mem_filter, decide_eq_true_eq]
    exact ⟨fun z => z.elim (h a) (·.1), fun z => by by_cases g : a ∈ K; exact .inl g; exact .inr ⟨z, g⟩⟩
  · rw [List.nodup_append]
    refine ⟨h1, h2.filter _, fun a ha b hb e => ?_⟩
    subst e
    exact (of_decide_eq_true (List.mem_filter.mp hb).2) ha
theorem people_flat (os : List (List Int)) : (people os.length).flatMap (rowO os) = os.flatten := by
  have : (people os.length).map (rowO os) = os := by
    unfold people rowO
    rw [List.map_map]
    refine List.ext_getElem? fun i => ?_
    by_cases h : i < os.length
    · simp [h]
    · rw [List.getElem?_eq_none (by simp; omega), List.getElem?_eq_none (by omega)]
  rw [List.flatMap_def, this]
section
variable {os : List (List Int)} (O : OrdG os)
include O
theorem OrdG.whole : (0 :: (people os.length).flatMap (rowO os)).Perm (people os.length) := by rw [people_flat]; exact O.perm
/-- those called and all that stand in their rows -/
theorem OrdG.part {K : List Int} (h1 : K.Nodup) (h : ∀ x ∈ K, x ∈ people os.length) : (0 :: K.flatMap (rowO os)).Nodup ∧ ∀ x ∈ (0 :: K.flatMap (rowO os)), x ∈ people os.length := by
  have p1 := perm_compl h1 (people_nodup os.length) h
  have p2 := ((p1.flatMap_right (rowO os)).cons 0).trans O.whole
  rw [List.flatMap_append] at p2
  have nd := p2.nodup_iff.mpr (people_nodup os.length)
  have sub : (0 :: K.flatMap (rowO os)).Sublist (0 :: (K.flatMap (rowO os) ++ ((people os.length).filter fun x => decide (x ∉ K)).flatMap (rowO os))) := List.Sublist.cons₂ _ (List.sublist_append_left _ _)
  exact ⟨sub.nodup nd, fun x hx => p2.mem_iff.mp (sub.subset hx)⟩
/-- what holds 0, and with each one those that it calls, holds all -/
theorem OrdG.closed {K : List Int} (h0 : (0 : Int) ∈ K) (h : ∀ p ∈ K, p ∈ people os.length → ∀ q ∈ rowO os p, q ∈ K) : ∀ x ∈ people os.length, x ∈ K := by
  obtain ⟨r, hr⟩ := O.rank
  have key : ∀ n : Nat, ∀ x ∈ people os.length, r x < n → x ∈ K := by
    intro n
    induction n with
    | zero => exact fun x _ z => absurd z (Nat.not_lt_zero _)
    | succ n ih =>
      intro x hx hn
      have hm := O.perm.mem_iff.mpr hx
      rcases List.mem_cons.mp hm with rfl | hm
      · exact h0
      · obtain ⟨row, h1, h2⟩ := List.mem_flatten.mp hm
        obtain ⟨p, hp, rfl⟩ := List.mem_iff_getElem.mp h1
        have := hr p _ (get_some hp) x h2
        have hpp : (p : Int) ∈ people os.length := people_mem.mpr ⟨p, hp, rfl⟩
        refine h p (ih p hpp (by omega)) hpp x ?_
        unfold rowO
        simpa [hp] using h2
  exact fun x hx => key (r x + 1) x hx (Nat.lt_succ_self _)
theorem OrdG.zero_mem : (0 : Int) ∈ people os.length := people_mem.mpr ⟨0, O.pos, rfl⟩
theorem OrdG.row_mem {p q : Int} (hp : p ∈ people os.length) (hq : q ∈ rowO os p) : q ∈ people os.length ∧ q ≠ 0 := by
  have h := O.part (K := [p]) (by simp) (fun x hx => by rw [List.mem_singleton.mp hx]; exact hp)
  rw [List.flatMap_singleton] at h
  exact ⟨h.2 q (List.mem_cons_of_mem _ hq), fun e => (List.nodup_cons.mp h.1).1 (e ▸ hq)⟩
theorem OrdG.row_nodup {p : Int} (hp : p ∈ people os.length) : (rowO os p).Nodup := by
  have h := O.part (K := [p]) (by simp) (fun x hx => by rw [List.mem_singleton.mp hx]; exact hp)
  rw [List.flatMap_singleton] at h
  exact (List.nodup_cons.mp h.1).2
end
/-- the state of a walk: K are those called (and 0) -/
structure WInv (os : List (List Int)) (N : Nw) (K : List Int) : Prop where
  nd : K.Nodup
  inr : ∀ x ∈ K, x ∈ people os.length
  keys : (N.map (·.1)).Nodup
  sub : ∀ k ∈ N.map (·.1), k ∈ K
  perm : (K ++ N.flatMap (·.2)).Perm (0 :: K.flatMap (rowO os))
theorem gPut_perm {N : Nw} {k : Int} {r r' : List Int} (hk : (N.map (·.1)).Nodup) (h : gVal N k = some r) : (r ++ (gPut N k r').flatMap (·.2)).Perm (r' ++ N.flatMap (·.2)) := by
  have hm : k ∈ N.map (·.1) := List.mem_map.mpr ⟨_, gVal_mem h, rfl⟩
  have e : (N.any fun e => decide (e.1 = k)) = true := by
    rw [List.any_eq_true]
    obtain ⟨x, h1, h2⟩ := List.mem_map.mp hm
    exact ⟨x, h1, decide_eq_true h2⟩
  unfold gPut
  rw [if_pos e]
  clear e
  induction N with
  | nil => cases hm
  | cons e N ih =>
    rw [List.map_cons, List.nodup_cons] at hk
    rw [gVal_cons] at h
    rw [List.map_cons, List.flatMap_cons, List.flatMap_cons]
    by_cases g : e.1 = k
    · rw [if_pos g] at h
      cases h
      have : N.map (fun e => if e.1 = k then (e.1, r') else e) = N := by
        conv => rhs; rw [← List.map_id N]
        refine List.map_congr_left fun x hx => ?_
        rw [if_neg fun z => hk.1 (List.mem_map.mpr ⟨x, hx, z.trans g.symm⟩)]
        rfl
      rw [this, if_pos g]
      show (e.2 ++ (r' ++ N.flatMap (·.2))).Perm (r' ++ (e.2 ++ N.flatMap (·.2)))
      rw [← List.append_assoc, ← List.append_assoc]
      exact List.perm_append_comm.append_right _
    · rw [if_neg g] at h
      rw [if_neg g]
      have hm2 : k ∈ N.map (·.1) := by
        rcases List.mem_cons.mp hm with z | z
        · exact absurd z.symm g
        · exact z
      have ih := ih hk.2 h hm2
      have p1 : (r ++ (e.2 ++ (N.map fun e => if e.1 = k then (e.1, r') else e).flatMap (·.2))).Perm (e.2 ++ (r ++ (N.map fun e => if e.1 = k then (e.1, r') else e).flatMap (·.2))) := by
        rw [← List.append_assoc, ← List.append_assoc]
        exact List.perm_append_comm.append_right _
      have p2 : (e.2 ++ (r' ++ N.flatMap (·.2))).Perm (r' ++ (e.2 ++ N.flatMap (·.2))) := by
        rw [← List.append_assoc, ← List.append_assoc]
        exact List.perm_append_comm.append_right _
      exact p1.trans ((ih.append_left e.2).trans p2)
theorem gPut_keys_in {N : Nw} {k : Int} {r r' : List Int} (h : gVal N k = some r) : (gPut N k r').map (·.1) = N.map (·.1) := by
  rw [gPut_keys, if_pos (List.mem_map.mpr ⟨_, gVal_mem h, rfl⟩)]
theorem gPut_out {α : Type} {N : List (Int × α)} {k : Int} {a : α} (h : k ∉ N.map (·.1)) : gPut N k a = N ++ [(k, a)] := by
  unfold gPut
  rw [if_neg fun z => ?_]
  rw [List.any_eq_true] at z
  obtain ⟨x, h1, h2⟩ := z
  exact h (List.mem_map.mpr ⟨x, h1, of_decide_eq_true h2⟩)
theorem rowAt_gv {N : Nw} {c : Int} {r : List Int} (h : gVal N c = some r) : rowAt N c = r := by unfold rowAt; rw [h]; rfl
section
variable {os : List (List Int)} {absent : List Int} {N : Nw} {K : List Int} {c n : Int} {rest : List Int}
theorem WInv.pend (O : OrdG os) (W : WInv os N K) : (K ++ N.flatMap (·.2)).Nodup ∧ ∀ x ∈ K ++ N.flatMap (·.2), x ∈ people os.length := by
  have h := O.part W.nd W.inr
  exact ⟨W.perm.nodup_iff.mpr h.1, fun x hx => h.2 x (W.perm.mem_iff.mp hx)⟩
theorem row_sub (h : gVal N c = some (n :: rest)) : (n :: rest).Sublist (N.flatMap (·.2)) := by
  have := gVal_mem h
  obtain ⟨A, B, e⟩ := List.append_of_mem this
  rw [e, List.flatMap_append, List.flatMap_cons]
  exact (List.sublist_append_left _ _).trans (List.sublist_append_right _ _)
theorem WInv.next (O : OrdG os) (W : WInv os N K) (h : gVal N c = some (n :: rest)) : n ∉ K ∧ n ∈ people os.length ∧ (n :: rest).length ≤ os.length := by
  obtain ⟨h1, h2⟩ := W.pend O
  have s := row_sub h
  rw [List.nodup_append] at h1
  refine ⟨fun hk => h1.2.2 n hk n (s.subset List.mem_cons_self) rfl, h2 n (List.mem_append_right _ (s.subset List.mem_cons_self)), ?_⟩
  have := nodup_le (s.nodup h1.2.1) (m := people os.length) fun x hx => h2 x (List.mem_append_right _ (s.subset hx))
  rwa [people_len] at this
theorem callM_eq (h : gVal N c = some (n :: rest)) (b : Bool) : callM os N c b = if b then gPut (gPut N c rest) n (rowO os n) else gPut N c (rowO os n ++ rest) := by
  unfold callM nextM rowO
  rw [rowAt_gv h]
  rfl
theorem callM_keys (hn : n ∉ N.map (·.1)) (h : gVal N c = some (n :: rest)) (b : Bool) : (callM os N c b).map (·.1) = N.map (·.1) ++ (if b then [n] else []) := by
  rw [callM_eq h]
  cases b with
  | true =>
    rw [if_pos rfl, gPut_keys, gPut_keys_in h, if_neg hn]
    rfl
  | false =>
    rw [if_neg (by decide), gPut_keys_in h]
    simp
theorem callM_val (hn : n ∉ N.map (·.1)) (h : gVal N c = some (n :: rest)) (b : Bool) {j : Int} (hj : j ≠ c) (hj2 : j ≠ n) : gVal (callM os N c b) j = gVal N j := by
  rw [callM_eq h]
  cases b with
  | true => rw [if_pos rfl, gVal_put, if_neg hj2, gVal_put, if_neg hj]
  | false => rw [if_neg (by decide), gVal_put, if_neg hj]
theorem WInv.call (O : OrdG os) (W : WInv os N K) (h : gVal N c = some (n :: rest)) (b : Bool) : WInv os (callM os N c b) (K ++ [n]) := by
  obtain ⟨hn, hp, _⟩ := W.next O h
  have hnk : n ∉ N.map (·.1) := fun z => hn (W.sub n z)
  refine ⟨?_, fun x hx => ?_, ?_, fun k hk => ?_, ?_⟩
  · rw [List.nodup_append]
    exact ⟨W.nd, by simp, fun a ha b hb e => hn (by rw [← List.mem_singleton.mp hb, ← e]; exact ha)⟩
  · rcases List.mem_append.mp hx with hx | hx
    · exact W.inr x hx
    · rw [List.mem_singleton.mp hx]; exact hp
  · rw [callM_keys hnk h, List.nodup_append]
    refine ⟨W.keys, by cases b <;> simp, fun a ha b' hb e => ?_⟩
    cases b with
    | true => exact hnk (by rw [if_pos rfl] at hb; rw [← List.mem_singleton.mp hb, ← e]; exact ha)
    | false => simp at hb
  · rw [callM_keys hnk h] at hk
    rcases List.mem_append.mp hk with hk | hk
    · exact List.mem_append_left _ (W.sub k hk)
    · cases b with
      | true => exact List.mem_append_right _ hk
      | false => simp at hk
  · have key : (n :: (callM os N c b).flatMap (·.2)).Perm (rowO os n ++ N.flatMap (·.2)) := by
      rw [callM_eq h]
      cases b with
      | true =>
        rw [if_pos rfl, gPut_out (by rw [gPut_keys_in h]; exact hnk), List.flatMap_append]
        have p := gPut_perm (r' := rest) W.keys h
        have p2 : (rest ++ n :: (gPut N c rest).flatMap (·.2)).Perm (rest ++ N.flatMap (·.2)) := (List.perm_middle).trans p
        have p3 := (List.perm_append_left_iff rest).mp p2
        show ((n :: (gPut N c rest).flatMap (·.2)) ++ [(n, rowO os n)].flatMap (·.2)).Perm _
        rw [List.flatMap_cons, List.flatMap_nil, List.append_nil]
        exact (p3.append_right _).trans List.perm_append_comm
      | false =>
        rw [if_neg (by decide)]
        have p := gPut_perm (r' := rowO os n ++ rest) W.keys h
        have p2 : (rest ++ n :: (gPut N c (rowO os n ++ rest)).flatMap (·.2)).Perm (rest ++ (rowO os n ++ N.flatMap (·.2))) := (List.perm_middle).trans (p.trans (by
          rw [← List.append_assoc]
          exact List.perm_append_comm.append_right _))
        exact (List.perm_append_left_iff rest).mp p2
    have q1 : ((K ++ [n]) ++ (callM os N c b).flatMap (·.2)).Perm (K ++ (rowO os n ++ N.flatMap (·.2))) := by
      rw [List.append_assoc]
      exact key.append_left K
    have q2 : (K ++ (rowO os n ++ N.flatMap (·.2))).Perm ((K ++ N.flatMap (·.2)) ++ rowO os n) := by
      rw [List.append_assoc]
      exact List.perm_append_comm.append_left K
    refine q1.trans (q2.trans ((W.perm.append_right _).trans ?_))
    rw [List.flatMap_append, List.flatMap_cons, List.flatMap_nil, List.append_nil]
    exact List.Perm.refl _
theorem WInv.start (O : OrdG os) : WInv os [(0, rowO os 0)] [0] :=
  ⟨by simp, fun x hx => by rw [List.mem_singleton.mp hx]; exact O.zero_mem, by simp, fun k hk => hk, by simp⟩
theorem callersM_mem : c ∈ callersM N ↔ c ∈ N.map (·.1) ∧ rowAt N c ≠ [] := by
  unfold callersM
  rw [List.mem_filter, decide_eq_true_eq, (sortI_perm _).mem_iff]
theorem callersM_lt (h : (N.map (·.1)).Nodup) : (callersM N).Pairwise (· < ·) := by
  unfold callersM
  refine List.Pairwise.filter _ ?_
  have a := sortI_sorted (N.map (·.1))
  have b : (sortI (N.map (·.1))).Nodup := (sortI_perm _).nodup_iff.mpr h
  exact a.imp₂ (fun x y h1 h2 => by omega) b
theorem caller_row (h : c ∈ callersM N) : ∃ n rest, gVal N c = some (n :: rest) := by
  obtain ⟨h1, h2⟩ := callersM_mem.mp h
  obtain ⟨r, hr⟩ := gVal_some h1
  rw [rowAt_gv hr] at h2
  cases r with
  | nil => exact absurd rfl h2
  | cons n rest => exact ⟨n, rest, hr⟩
end
end Cc

namespace Cc
open PySem L2
/-! a turn, a walk -/
section
variable {os : List (List Int)} {absent : List Int}
structure TurnOk (os : List (List Int)) (absent : List Int) (cs : List Int) (N : Nw) (K : List Int) : Prop where
  goes : Goes os absent cs N
  inv : WInv os (turnGo os absent cs N).2 (K ++ (turnGo os absent cs N).1.map (·.b))
  keys : (turnGo os absent cs N).2.map (·.1) = N.map (·.1) ++ ((turnGo os absent cs N).1.filter (·.c)).map (·.b)
  callers : (turnGo os absent cs N).1.map (·.a) = cs
  ans : ∀ t ∈ (turnGo os absent cs N).1, t.c = decide (t.b ∉ absent)
theorem turn_ok (O : OrdG os) (hl : os.length ≤ 10000) : ∀ (cs : List Int) (N : Nw) (K : List Int), WInv os N K → cs.Nodup → (∀ c ∈ cs, ∃ n rest, gVal N c = some (n :: rest)) → TurnOk os absent cs N K
  | [], N, K, W, _, _ => ⟨fun i c e => by simp at e, by simpa [turnGo] using W, by simp [turnGo], rfl, fun t ht => by simp [turnGo] at ht⟩
  | c :: cs, N, K, W, hnd, hr => by
    obtain ⟨n, rest, h⟩ := hr c List.mem_cons_self
    obtain ⟨hn, hp, hlen⟩ := W.next O h
    have hnk : n ∉ N.map (·.1) := fun z => hn (W.sub n z)
    have en : nextM N c = n := by unfold nextM; rw [rowAt_gv h]; rfl
    rw [List.nodup_cons] at hnd
    generalize hb : decide (n ∉ absent) = b
    have W' := W.call O h b
    have hr' : ∀ c' ∈ cs, ∃ n' rest', gVal (callM os N c b) c' = some (n' :: rest') := fun c' hc' => by
      obtain ⟨n', rest', h'⟩ := hr c' (List.mem_cons_of_mem _ hc')
      refine ⟨n', rest', ?_⟩
      rw [callM_val hnk h b (fun e => hnd.1 (e ▸ hc')) (fun e => hnk (e ▸ List.mem_map.mpr ⟨_, gVal_mem h', rfl⟩))]
      exact h'
    have T := turn_ok O hl cs (callM os N c b) (K ++ [n]) W' hnd.2 hr'
    have e0 : turnGo os absent (c :: cs) N = (⟨c, n, b⟩ :: (turnGo os absent cs (callM os N c b)).1, (turnGo os absent cs (callM os N c b)).2) := by
      rw [turnGo, en, hb]
    refine ⟨fun i c' e => ?_, ?_, ?_, ?_, fun t ht => ?_⟩
    · cases i with
      | zero =>
        simp at e
        subst e
        obtain ⟨k, h1, h2⟩ := people_mem.mp hp
        simp only [List.length_cons] at hlen
        exact ⟨n, rest, h, by omega, by omega, by omega⟩
      | succ i =>
        simp at e
        obtain ⟨n', rest', h1, h2⟩ := T.goes i c' e
        refine ⟨n', rest', ?_, h2⟩
        rw [List.take_succ_cons, turnGo, en, hb]
        exact h1
    · rw [e0]
      have := T.inv
      rw [List.append_assoc] at this
      exact this
    · rw [e0]
      have := T.keys
      rw [callM_keys hnk h] at this
      rw [this, List.append_assoc]
      congr 1
      cases b <;> simp
    · rw [e0]
      show c :: _ = _
      rw [T.callers]
    · rw [e0] at ht
      rcases List.mem_cons.mp ht with rfl | ht
      · exact hb.symm
      · exact T.ans t ht
theorem turn_callers (O : OrdG os) (hl : os.length ≤ 10000) {N : Nw} {K : List Int} (W : WInv os N K) : TurnOk os absent (callersM N) N K :=
  turn_ok O hl _ N K W ((callersM_lt W.keys).imp fun h => by omega) fun c hc => caller_row hc
/-- all are called, once nobody has anybody to call -/
theorem no_callers {N : Nw} (hk : (N.map (·.1)).Nodup) (h : callersM N = []) : N.flatMap (·.2) = [] := by
  rw [List.flatMap_eq_nil_iff]
  intro e he
  cases hr : e.2 with
  | nil => rfl
  | cons n rest =>
    have hg : gVal N e.1 = some e.2 := by
      clear h
      induction N with
      | nil => cases he
      | cons x N ih =>
        rw [gVal_cons]
        rw [List.map_cons, List.nodup_cons] at hk
        rcases List.mem_cons.mp he with rfl | he
        · rw [if_pos rfl]
        · rw [if_neg (fun z : x.1 = e.1 => hk.1 (by rw [z]; exact List.mem_map.mpr ⟨e, he, rfl⟩)), ih hk.2 he]
    have : e.1 ∈ callersM N := callersM_mem.mpr ⟨List.mem_map.mpr ⟨e, he, rfl⟩, by rw [rowAt_gv hg, hr]; exact fun z => by cases z⟩
    rw [h] at this
    cases this
theorem WInv.done (O : OrdG os) {N : Nw} {K : List Int} (W : WInv os N K) (h : N.flatMap (·.2) = []) : ∀ x ∈ people os.length, x ∈ K := by
  have p := W.perm
  rw [h, List.append_nil] at p
  refine O.closed (p.mem_iff.mpr List.mem_cons_self) fun q hq _ x hx => p.mem_iff.mpr (List.mem_cons_of_mem _ (List.mem_flatMap.mpr ⟨q, hq, hx⟩))
theorem WInv.full (O : OrdG os) {N : Nw} {K : List Int} (W : WInv os N K) (h : os.length ≤ K.length) : callersM N = [] := by
  have hp : N.flatMap (·.2) = [] := by
    obtain ⟨h1, h2⟩ := W.pend O
    have := nodup_le h1 (m := people os.length) h2
    rw [people_len, List.length_append] at this
    exact List.length_eq_zero_iff.mp (by omega)
  rw [List.eq_nil_iff_forall_not_mem]
  intro c hc
  obtain ⟨n, rest, hg⟩ := caller_row hc
  have := (row_sub hg).subset List.mem_cons_self
  rw [hp] at this
  cases this
theorem WInv.klen {N : Nw} {K : List Int} (W : WInv os N K) : K.length ≤ os.length ∧ N.length ≤ os.length := by
  have h1 := nodup_le W.nd (m := people os.length) W.inr
  have h2 := nodup_le W.keys (m := people os.length) fun x hx => W.inr x (W.sub x hx)
  rw [people_len] at h1 h2
  rw [List.length_map] at h2
  exact ⟨h1, h2⟩
def walkF (os : List (List Int)) (absent : List Int) : Nat → Nw → List (List Tri)
  | 0, _ => []
  | f + 1, N => if callersM N = [] then [] else (turnGo os absent (callersM N) N).1 :: walkF os absent f (turnGo os absent (callersM N) N).2
def walkM (os : List (List Int)) (absent : List Int) : List (List Tri) := walkF os absent os.length [(0, rowO os 0)]
theorem turn_len (O : OrdG os) (hl : os.length ≤ 10000) {N : Nw} {K : List Int} (W : WInv os N K) (h : callersM N ≠ []) : 0 < (turnGo os absent (callersM N) N).1.length := by
  have := (turn_callers (absent := absent) O hl W).callers
  cases e : (turnGo os absent (callersM N) N).1 with
  | nil => rw [e] at this; exact absurd this.symm h
  | cons => simp
theorem walkF_to (O : OrdG os) (hl : os.length ≤ 1000) : ∀ (f : Nat) (N : Nw) (K : List Int), WInv os N K → os.length ≤ K.length + f → WalkTo os absent N (walkF os absent f N) ∧ (walkF os absent f N).length + K.length ≤ os.length
  | 0, N, K, W, h => ⟨.nil (W.full O h) (by have := W.klen; omega), by show 0 + K.length ≤ _; have := W.klen; omega⟩
  | f + 1, N, K, W, h => by
    unfold walkF
    by_cases hc : callersM N = []
    · rw [if_pos hc]
      exact ⟨.nil hc (by have := W.klen; omega), by show 0 + K.length ≤ _; have := W.klen; omega⟩
    · rw [if_neg hc]
      have T := turn_callers (absent := absent) O (by omega) W
      have hlen := turn_len (absent := absent) O (by omega) W hc
      have ih := walkF_to O hl f _ _ T.inv (by rw [List.length_append, List.length_map]; omega)
      refine ⟨.cons hc (by have := W.klen; omega) T.goes ih.1, ?_⟩
      have := ih.2
      rw [List.length_append, List.length_map] at this
      rw [List.length_cons]
      omega
theorem walkM_to (O : OrdG os) (hl : os.length ≤ 1000) : WalkTo os absent [(0, rowO os 0)] (walkM os absent) ∧ (walkM os absent).length + 1 ≤ os.length :=
  walkF_to O hl os.length _ _ (WInv.start O) (by simp)
/-- each fuel that is enough tells the same -/
theorem walkF_eq (O : OrdG os) (hl : os.length ≤ 1000) {f : Nat} {N : Nw} {K : List Int} (W : WInv os N K) (h : os.length ≤ K.length + f) (hc : callersM N ≠ []) : walkF os absent f N = (turnGo os absent (callersM N) N).1 :: walkF os absent (f - 1) (turnGo os absent (callersM N) N).2 := by
  cases f with
  | zero => exact absurd (W.full O h) hc
  | succ f => rw [walkF, if_neg hc]; rfl
/-- each one called once, by one that knows -/
def OnceP (n : Int) (absent : List Int) : List Int → List Int → List (List Tri) → Prop
  | _, called, [] => sortI called = rangeI 1 n
  | knows, called, t :: ts => (t.map (·.a)).Pairwise (· < ·) ∧ (∀ x ∈ t, x.a ∈ knows) ∧ (∀ x ∈ t, x.c = decide (x.b ∉ absent)) ∧ OnceP n absent (knows ++ (t.filter (·.c)).map (·.b)) (called ++ t.map (·.b)) ts
theorem people_cons {n : Nat} (h : 1 ≤ n) : people n = 0 :: rangeI 1 n := by
  obtain ⟨m, rfl⟩ : ∃ m, n = m + 1 := ⟨n - 1, by omega⟩
  unfold people rangeI
  rw [List.range_succ_eq_map, List.map_cons, List.map_map]
  rw [show (((m + 1 : Nat) : Int) - 1).toNat = m by omega]
  congr 1
  refine List.map_congr_left fun x _ => ?_
  show ((x + 1 : Nat) : Int) = 1 + (x : Int)
  omega
theorem rangeI_sorted (a b : Int) : (rangeI a b).Pairwise (· < ·) := by
  unfold rangeI
  rw [List.pairwise_map]
  refine List.Pairwise.imp (fun h => ?_) List.pairwise_lt_range
  omega
theorem rangeI_mem {a b x : Int} : x ∈ rangeI a b ↔ a ≤ x ∧ x < b := by
  unfold rangeI
  rw [List.mem_map]
  constructor
  · rintro ⟨k, hk, rfl⟩
    rw [List.mem_range] at hk
    omega
  · rintro ⟨h1, h2⟩
    exact ⟨(x - a).toNat, by rw [List.mem_range]; omega, by omega⟩
theorem walkF_once (O : OrdG os) (hl : os.length ≤ 1000) : ∀ (f : Nat) (N : Nw) (C : List Int), WInv os N (0 :: C) → os.length ≤ C.length + 1 + f → OnceP os.length absent (N.map (·.1)) C (walkF os absent f N) := by
  have fin : ∀ (N : Nw) (C : List Int), WInv os N (0 :: C) → callersM N = [] → sortI C = rangeI 1 os.length := fun N C W h => by
    have hall := W.done O (no_callers W.keys h)
    have hnd := W.nd
    rw [List.nodup_cons] at hnd
    refine (sortI_eq (l := C) ?_ ((rangeI_sorted 1 os.length).imp fun h => by omega)).symm
    refine (List.perm_ext_iff_of_nodup ((rangeI_sorted _ _).imp fun h => by omega) hnd.2).mpr fun a => ?_
    rw [rangeI_mem]
    constructor
    · rintro ⟨h1, h2⟩
      have := hall a (people_mem.mpr ⟨a.toNat, by omega, by omega⟩)
      rcases List.mem_cons.mp this with rfl | h
      · omega
      · exact h
    · intro ha
      obtain ⟨k, h1, h2⟩ := people_mem.mp (W.inr a (List.mem_cons_of_mem _ ha))
      have : a ≠ 0 := fun e => hnd.1 (e ▸ ha)
      omega
  intro f
  induction f with
  | zero => exact fun N C W h => fin N C W (W.full O (by simpa using h))
  | succ f ih =>
    intro N C W h
    unfold walkF
    by_cases hc : callersM N = []
    · rw [if_pos hc]
      exact fin N C W hc
    · rw [if_neg hc]
      have T := turn_callers (absent := absent) O (by omega) W
      have hlen := turn_len (absent := absent) O (by omega) W hc
      refine ⟨by rw [T.callers]; exact callersM_lt W.keys, fun x hx => ?_, T.ans, ?_⟩
      · have : x.a ∈ (turnGo os absent (callersM N) N).1.map (·.a) := List.mem_map.mpr ⟨x, hx, rfl⟩
        rw [T.callers] at this
        exact (callersM_mem.mp this).1
      · rw [← T.keys]
        exact ih _ _ T.inv (by rw [List.length_append, List.length_map]; omega)
theorem walkM_once (O : OrdG os) (hl : os.length ≤ 1000) : OnceP os.length absent [0] [] (walkM os absent) :=
  walkF_once O hl os.length _ [] (WInv.start O) (by simp)
end
end Cc

namespace Cc
open PySem L2
local macro_rules | `(tactic| decreasing_trivial) => `(tactic| first | (with_reducible exact ev_int) | (with_reducible exact ev_bl) | ((with_reducible apply ev_var) <;> rfl) | (with_reducible exact ea_nil) | (with_reducible exact Es.nil) | (with_reducible exact Kp.nil) | (with_reducible apply ev_non) | ((with_reducible apply ev_add) <;> decreasing_trivial) | ((with_reducible apply ev_sub) <;> decreasing_trivial) | ((with_reducible apply ev_mod) <;> decreasing_trivial) | ((with_reducible apply ev_div) <;> decreasing_trivial) | ((with_reducible apply ev_mul) <;> decreasing_trivial) | ((with_reducible apply ev_pow) <;> decreasing_trivial) | ((with_reducible apply ev_lt) <;> decreasing_trivial) | ((with_reducible apply ev_le) <;> decreasing_trivial) | ((with_reducible apply ev_gt) <;> decreasing_trivial) | ((with_reducible apply ev_ge) <;> decreasing_trivial) | ((with_reducible apply ev_eqS) <;> decreasing_trivial) | ((with_reducible apply ev_neS) <;> decreasing_trivial) | ((with_reducible apply ev_isB) <;> decreasing_trivial) | ((with_reducible apply ev_notB) <;> decreasing_trivial) | ((with_reducible apply ev_neg) <;> decreasing_trivial) | ((with_reducible apply ev_not) <;> decreasing_trivial) | ((with_reducible apply ev_len) <;> decreasing_trivial) | ((with_reducible apply ev_sum) <;> decreasing_trivial) | ((with_reducible apply ev_ixD) <;> decreasing_trivial) | ((with_reducible apply ev_ixT0) <;> decreasing_trivial) | ((with_reducible apply ev_ixT1) <;> decreasing_trivial) | ((with_reducible apply ev_ixT2) <;> decreasing_trivial) | ((with_reducible apply ev_ixP0) <;> decreasing_trivial) | ((with_reducible apply ev_ixP1) <;> decreasing_trivial) | ((with_reducible apply ev_ixDT) <;> decreasing_trivial) | ((with_reducible apply ev_fr; with_reducible apply ev_cat) <;> decreasing_trivial) | ((with_reducible apply ev_fr; with_reducible apply ev_list) <;> decreasing_trivial) | ((with_reducible apply ev_fr; with_reducible apply ev_sorted) <;> decreasing_trivial) | ((with_reducible apply ev_fr; with_reducible apply ev_slH) <;> decreasing_trivial) | ((with_reducible apply ev_fr; with_reducible apply ev_slL) <;> decreasing_trivial) | ((with_reducible apply ev_fr; with_reducible apply ev_rev) <;> decreasing_trivial) | (with_reducible apply ev_fr; with_reducible exact ev_nil) | ((with_reducible apply ev_fr; with_reducible apply ev_ls) <;> decreasing_trivial) | ((with_reducible apply Es.cons) <;> decreasing_trivial) | ((with_reducible apply ev_in) <;> decreasing_trivial) | ((with_reducible apply ev_notin) <;> decreasing_trivial) | ((with_reducible apply ev_max2) <;> decreasing_trivial) | ((with_reducible apply ev_min2) <;> decreasing_trivial) | ((with_reducible apply ev_eqD) <;> decreasing_trivial) | ((with_reducible apply ev_neD) <;> decreasing_trivial) | ((with_reducible apply ev_all) <;> decreasing_trivial) | ((with_reducible apply ev_any) <;> decreasing_trivial) | ((with_reducible apply ev_fr; with_reducible apply ev_rg1) <;> decreasing_trivial) | ((with_reducible apply ev_fr; with_reducible apply ev_rg2) <;> decreasing_trivial) | ((with_reducible apply ev_p2) <;> decreasing_trivial) | ((with_reducible apply ev_t3) <;> decreasing_trivial) | ((with_reducible apply ev_tp) <;> decreasing_trivial) | ((with_reducible apply et_tt) <;> decreasing_trivial) | ((with_reducible apply et_b) <;> decreasing_trivial) | ((with_reducible apply et_not) <;> decreasing_trivial) | ((with_reducible apply is_list) <;> decreasing_trivial) | ((with_reducible apply is_tup) <;> decreasing_trivial) | ((with_reducible apply is_rng1) <;> decreasing_trivial) | ((with_reducible apply is_rng2) <;> decreasing_trivial) | ((with_reducible apply is_enum) <;> decreasing_trivial) | ((with_reducible apply is_zip) <;> decreasing_trivial) | ((with_reducible apply ea_1) <;> decreasing_trivial) | ((with_reducible apply ea_2) <;> decreasing_trivial) | ((with_reducible apply ea_3) <;> decreasing_trivial) | ((with_reducible apply ev_dg) <;> decreasing_trivial) | ((with_reducible apply ev_dg1) <;> decreasing_trivial) | ((with_reducible apply ev_fr; with_reducible apply ev_listD) <;> decreasing_trivial) | ((with_reducible apply ev_isi) <;> decreasing_trivial) | ((with_reducible apply ev_whole) <;> decreasing_trivial) | ((with_reducible apply ev_betw) <;> decreasing_trivial) | ((with_reducible apply ev_num) <;> decreasing_trivial) | ((with_reducible apply Kp.so fr_fz) <;> decreasing_trivial) | ((with_reducible apply Kp.no) <;> decreasing_trivial) | (infer_instance) | (rfl) | (omega) | (decide) | (skip))
/-! come_to, are_orders, check_orders, check_absent -/
/-- the line of those come to, s of them gone through -/
def comeL (os : List (List Int)) : Nat → List Int
  | 0 => [0]
  | s + 1 => comeL os s ++ rowO os ((comeL os s).getD s 0)
structure ComeI (os : List (List Int)) (s : Nat) : Prop where
  nd : (comeL os s).Nodup
  inr : ∀ x ∈ comeL os s, x ∈ people os.length
  eq : comeL os s = 0 :: ((comeL os s).take s).flatMap (rowO os)
  le : s ≤ (comeL os s).length
theorem ComeI.zero {os : List (List Int)} (O : OrdG os) : ComeI os 0 := ⟨by simp [comeL], fun x hx => by rw [List.mem_singleton.mp hx]; exact O.zero_mem, rfl, Nat.zero_le _⟩
theorem ComeI.step {os : List (List Int)} (O : OrdG os) {s : Nat} (h : ComeI os s) (hs : s < (comeL os s).length) : ComeI os (s + 1) := by
  have eg : (comeL os s)[s]? = some ((comeL os s).getD s 0) := by rw [List.getD_eq_getElem?_getD, List.getElem?_eq_getElem hs]; rfl
  have et : (comeL os (s + 1)).take (s + 1) = (comeL os s).take s ++ [(comeL os s).getD s 0] := by
    show (comeL os s ++ rowO os ((comeL os s).getD s 0)).take (s + 1) = _
    rw [List.take_append_of_le_length (by omega), List.take_add_one, eg]
    rfl
  have eq : comeL os (s + 1) = 0 :: ((comeL os (s + 1)).take (s + 1)).flatMap (rowO os) := by
    rw [et, List.flatMap_append, List.flatMap_cons, List.flatMap_nil, List.append_nil, ← List.cons_append, ← h.eq]
    rfl
  have nt : ((comeL os (s + 1)).take (s + 1)).Nodup ∧ ∀ x ∈ (comeL os (s + 1)).take (s + 1), x ∈ people os.length := by
    have e2 : (comeL os (s + 1)).take (s + 1) = (comeL os s).take (s + 1) := by
      rw [et, List.take_add_one, eg]; rfl
    rw [e2]
    exact ⟨(List.take_sublist _ _).nodup h.nd, fun x hx => h.inr x (List.mem_of_mem_take hx)⟩
  have p := O.part nt.1 nt.2
  rw [← eq] at p
  exact ⟨p.1, p.2, eq, by show s + 1 ≤ (comeL os s ++ _).length; rw [List.length_append]; omega⟩
theorem ComeI.full {os : List (List Int)} (O : OrdG os) {s : Nat} (h : ComeI os s) (hs : s = (comeL os s).length) : sortI (comeL os s) = people os.length := by
  have eq := h.eq
  rw [List.take_of_length_le (by omega)] at eq
  have all := O.closed (K := comeL os s) (by rw [eq]; exact List.mem_cons_self) fun p hp _ q hq => by
    rw [eq]
    exact List.mem_cons_of_mem _ (List.mem_flatMap.mpr ⟨p, hp, hq⟩)
  refine (sortI_eq (l := comeL os s) ?_ ((people_sorted _).imp fun h => by omega)).symm
  exact (List.perm_ext_iff_of_nodup (people_nodup _) h.nd).mpr fun a => ⟨all a, h.inr a⟩
theorem ComeI.len {os : List (List Int)} {s : Nat} (h : ComeI os s) : (comeL os s).length ≤ os.length := by
  have := nodup_le h.nd (m := people os.length) h.inr
  rwa [people_len] at this
def sp_come_to : Sp := spG (fun os : List (List Int) => OrdG os ∧ os.length ≤ 1000) (fun os => [Fz os]) (fun os => Ow (comeL os os.length))
/-- the line ends: gone through as many as there are -/
theorem come_all {os : List (List Int)} (O : OrdG os) : ComeI os os.length ∧ (comeL os os.length).length = os.length := by
  have key : ∀ s, s ≤ os.length → ComeI os s := by
    intro s
    induction s with
    | zero => exact fun _ => ComeI.zero O
    | succ s ih =>
      intro hs
      have h := ih (by omega)
      refine h.step O ?_
      rcases Nat.lt_or_ge s (comeL os s).length with g | g
      · exact g
      · have e : s = (comeL os s).length := Nat.le_antisymm h.le g
        have := congrArg List.length (h.full O e)
        rw [sortI_len, people_len] at this
        omega
  have h := key os.length (Nat.le_refl _)
  exact ⟨h, Nat.le_antisymm h.len h.le⟩
def t_come_to (K : PySem.W.Frag) : TS :=
(tSeq (tPar 1 2 (tCons (tLst (tCons (tC (.int 0)) tNil)) (tCons (tC (.int 0)) tNil)))
    (tSeq (tWhile (tAnd (tTest (tOp qLt (tVar 2) (tCB (qLen K) (tCons (tVar 1) tNil)))) (tTest (tOp qLe (tCB (qLen K) (tCons (tVar 1) tNil)) (tCB (qLen K) (tCons (tVar 0) tNil)))))
    (tSeq (tDrop (tBM K "list" rExtend (tVar 1) (tCons (tOp (rIxL K) (tVar 0) (tOp (rIxL K) (tVar 1) (tVar 2))) tNil)))
      (tAug 2 (tC (.int 1)) (ipI fun i j => i + j))))
    (tRet (tVar 1))))
theorem v_come_to {K : PySem.W.Frag} {vs : List V} {H : Hp} {Q : VK} {E : XK} (h : sp_come_to vs H Q E) : t_come_to K (fin Q) (st0 3 vs) H := by
  refine v_of (n := 3) (fun os ⟨O, hl⟩ => ?_) h
  refine wq_parO (A := Ow [(0 : Int)]) (ev_l1 ev_int) ev_int ?_
  have hk : ∀ s, s ≤ os.length → ComeI os s := by
    intro s
    induction s with
    | zero => exact fun _ => ComeI.zero O
    | succ s ih =>
      intro hs
      have h := ih (by omega)
      refine h.step O ?_
      rcases Nat.lt_or_ge s (comeL os s).length with g | g
      · exact g
      · have e : s = (comeL os s).length := Nat.le_antisymm h.le g
        have := congrArg List.length (h.full O e)
        rw [sortI_len, people_len] at this
        omega
  refine wp_seq (wp_while (fun m Γ => ∃ s : Nat, s ≤ os.length ∧ m = os.length - s ∧ Γ = [some (Fz os), some (Ow (comeL os s)), some (Fz (s : Int))]) os.length ⟨0, Nat.zero_le _, rfl, rfl⟩ ?_)
  rintro m Γ ⟨s, hs, rfl, rfl⟩
  have C := hk s hs
  have hcl := C.len
  have hcs := C.le
  have brw : Brw [some (Fz os), some (Ow (comeL os s)), some (Fz (s : Int))] [some (Fz os), some (Fz (comeL os s)), some (Fz (s : Int))] := .so cv_fz (.so cv_ow (.so cv_fz .nil))
  refine ⟨_, _, et_brw brw (et_and (by decreasing_trivial) fun _ => (by decreasing_trivial)), fun hb => ?_, fun hb => ?_⟩
  · simp only [Bool.and_eq_true, decide_eq_true_eq] at hb
    have hlt : s < (comeL os s).length := by omega
    have hp : (comeL os s).getD s 0 ∈ people os.length := C.inr _ (by
      rw [List.getD_eq_getElem?_getD, List.getElem?_eq_getElem hlt]
      exact List.getElem_mem _)
    obtain ⟨p, hp1, hp2⟩ := people_mem.mp hp
    have ex : Ev (tOp (rIxL K) (tVar 0) (tOp (rIxL K) (tVar 1) (tVar 2))) [some (Fz os), some (Ow (comeL os s)), some (Fz (s : Int))] [some (Fz os), some (Ow (comeL os s)), some (Fz (s : Int))] (Fz (rowO os ((comeL os s).getD s 0))) := by
      refine ev_ix (i := (comeL os s).getD s 0) (by decreasing_trivial) (ev_brw (Γ' := [some (Fz os), some (Fz (comeL os s)), some (Fz (s : Int))]) brw tpo_fz (Γ2 := [some (Fz os), some (Fz (comeL os s)), some (Fz (s : Int))]) ?_) ?_
      · exact ev_eq (by decreasing_trivial) (by simp)
      · unfold rowO
        exact atI_getD os _ [] (by omega)
    refine wp_seq (wp_ext rfl ex rfl ?_ ?_)
    · have := nodup_le (O.row_nodup hp) (m := people os.length) fun x hx => (O.row_mem hp hx).1
      rw [people_len] at this
      omega
    · refine wp_aug rfl ev_int ⟨os.length - (s + 1), by omega, s + 1, by omega, rfl, ?_⟩
      show [some (Fz os), some (Ow (comeL os s ++ rowO os ((comeL os s).getD s 0))), some (Fz ((s : Int) + 1))] = _
      rfl
  · simp only [Bool.and_eq_false_iff, decide_eq_false_iff_not] at hb
    have e : s = os.length := by
      have := (come_all O).2
      rcases Nat.lt_or_ge s os.length with g | g
      · have h1 := hk (s + 1) g
        have := h1.le
        rcases hb with hb | hb
        · have e : s = (comeL os s).length := by omega
          have := congrArg List.length (C.full O e)
          rw [sortI_len, people_len] at this
          omega
        · omega
      · omega
    subst e
    exact wr (ev_mv rfl)
theorem ev_come {ta : TE} {Γ Γ1 : Env} {os : List (List Int)} (h : Ev ta Γ Γ1 (Fz os)) (O : OrdG os) (hl : os.length ≤ 1000) : Ev (tCall sp_come_to [] E0 (tCons ta tNil)) Γ Γ1 (Ow (comeL os os.length)) := ev_call (i := os) (ea_1 h) ⟨O, hl⟩
end Cc

namespace Cc
open PySem L2
local macro_rules | `(tactic| decreasing_trivial) => `(tactic| first | (with_reducible exact ev_int) | (with_reducible exact ev_bl) | ((with_reducible apply ev_var) <;> rfl) | (with_reducible exact ea_nil) | (with_reducible exact Es.nil) | (with_reducible exact Kp.nil) | (with_reducible apply ev_non) | ((with_reducible apply ev_add) <;> decreasing_trivial) | ((with_reducible apply ev_sub) <;> decreasing_trivial) | ((with_reducible apply ev_mod) <;> decreasing_trivial) | ((with_reducible apply ev_div) <;> decreasing_trivial) | ((with_reducible apply ev_mul) <;> decreasing_trivial) | ((with_reducible apply ev_pow) <;> decreasing_trivial) | ((with_reducible apply ev_lt) <;> decreasing_trivial) | ((with_reducible apply ev_le) <;> decreasing_trivial) | ((with_reducible apply ev_gt) <;> decreasing_trivial) | ((with_reducible apply ev_ge) <;> decreasing_trivial) | ((with_reducible apply ev_eqS) <;> decreasing_trivial) | ((with_reducible apply ev_neS) <;> decreasing_trivial) | ((with_reducible apply ev_isB) <;> decreasing_trivial) | ((with_reducible apply ev_notB) <;> decreasing_trivial) | ((with_reducible apply ev_neg) <;> decreasing_trivial) | ((with_reducible apply ev_not) <;> decreasing_trivial) | ((with_reducible apply ev_len) <;> decreasing_trivial) | ((with_reducible apply ev_sum) <;> decreasing_trivial) | ((with_reducible apply ev_ixD) <;> decreasing_trivial) | ((with_reducible apply ev_ixT0) <;> decreasing_trivial) | ((with_reducible apply ev_ixT1) <;> decreasing_trivial) | ((with_reducible apply ev_ixT2) <;> decreasing_trivial) | ((with_reducible apply ev_ixP0) <;> decreasing_trivial) | ((with_reducible apply ev_ixP1) <;> decreasing_trivial) | ((with_reducible apply ev_ixDT) <;> decreasing_trivial) | ((with_reducible apply ev_fr; with_reducible apply ev_cat) <;> decreasing_trivial) | ((with_reducible apply ev_fr; with_reducible apply ev_list) <;> decreasing_trivial) | ((with_reducible apply ev_fr; with_reducible apply ev_sorted) <;> decreasing_trivial) | ((with_reducible apply ev_fr; with_reducible apply ev_slH) <;> decreasing_trivial) | ((with_reducible apply ev_fr; with_reducible apply ev_slL) <;> decreasing_trivial) | ((with_reducible apply ev_fr; with_reducible apply ev_rev) <;> decreasing_trivial) | (with_reducible apply ev_fr; with_reducible exact ev_nil) | ((with_reducible apply ev_fr; with_reducible apply ev_ls) <;> decreasing_trivial) | ((with_reducible apply Es.cons) <;> decreasing_trivial) | ((with_reducible apply ev_in) <;> decreasing_trivial) | ((with_reducible apply ev_notin) <;> decreasing_trivial) | ((with_reducible apply ev_max2) <;> decreasing_trivial) | ((with_reducible apply ev_min2) <;> decreasing_trivial) | ((with_reducible apply ev_eqD) <;> decreasing_trivial) | ((with_reducible apply ev_neD) <;> decreasing_trivial) | ((with_reducible apply ev_all) <;> decreasing_trivial) | ((with_reducible apply ev_any) <;> decreasing_trivial) | ((with_reducible apply ev_fr; with_reducible apply ev_rg1) <;> decreasing_trivial) | ((with_reducible apply ev_fr; with_reducible apply ev_rg2) <;> decreasing_trivial) | ((with_reducible apply ev_p2) <;> decreasing_trivial) | ((with_reducible apply ev_t3) <;> decreasing_trivial) | ((with_reducible apply ev_tp) <;> decreasing_trivial) | ((with_reducible apply et_tt) <;> decreasing_trivial) | ((with_reducible apply et_b) <;> decreasing_trivial) | ((with_reducible apply et_not) <;> decreasing_trivial) | ((with_reducible apply et_or) <;> decreasing_trivial) | ((with_reducible apply et_and) <;> decreasing_trivial) | ((with_reducible apply ev_andV) <;> decreasing_trivial) | ((with_reducible apply ev_orV) <;> decreasing_trivial) | ((with_reducible apply ev_chLL) <;> decreasing_trivial) | ((with_reducible apply ev_chll) <;> decreasing_trivial) | ((with_reducible apply is_list) <;> decreasing_trivial) | ((with_reducible apply is_tup) <;> decreasing_trivial) | ((with_reducible apply is_rng1) <;> decreasing_trivial) | ((with_reducible apply is_rng2) <;> decreasing_trivial) | ((with_reducible apply is_enum) <;> decreasing_trivial) | ((with_reducible apply is_zip) <;> decreasing_trivial) | ((with_reducible apply ea_1) <;> decreasing_trivial) | ((with_reducible apply ea_2) <;> decreasing_trivial) | ((with_reducible apply ea_3) <;> decreasing_trivial) | ((with_reducible apply ev_dg) <;> decreasing_trivial) | ((with_reducible apply ev_dg1) <;> decreasing_trivial) | ((with_reducible apply ev_fr; with_reducible apply ev_listD) <;> decreasing_trivial) | ((with_reducible apply ev_isi) <;> decreasing_trivial) | ((with_reducible apply ev_whole) <;> decreasing_trivial) | ((with_reducible apply ev_betw) <;> decreasing_trivial) | ((with_reducible apply ev_num) <;> decreasing_trivial) | ((with_reducible apply Kp.so fr_fz) <;> decreasing_trivial) | ((with_reducible apply Kp.no) <;> decreasing_trivial) | (intro (_ : (_ : Bool) = _); decreasing_trivial) | (infer_instance) | (rfl) | (omega) | (decide) | (skip))
theorem people_range (n : Nat) : people n = rangeI 0 n := by
  unfold people rangeI
  rw [show ((n : Int) - 0).toNat = n by omega]
  refine List.map_congr_left fun x _ => by omega
def sp_are_orders : Sp := spG (fun os : List (List Int) => OrdG os ∧ os.length ≤ 40) (fun os => [Fz os]) (fun os => Fz true)
def t_are_orders (K : PySem.W.Frag) : TS :=
(tSeq (tIfS (tOr (tNot (tB (tCB (rIsi K) (tCons (tVar 0) (tCons (tC (.ty "list")) tNil))))) (tNot (tTest (tChain qLe qLe (tC (.int 1)) (tCB (qLen K) (tCons (tVar 0) tNil)) (tC (.int 40))))))
    (tRet (tC (.bl false)))
    tNext)
    (tSeq (tFor (iList K (tVar 0)) (gName 1)
    (tIfS (tOr (tNot (tB (tCB (rIsi K) (tCons (tVar 1) (tCons (tC (.ty "list")) tNil))))) (tNot (tB (tCB (rAll K) (tCons (tLc (iList K (tVar 1)) (gName 2) tYes (tCall sp_is_between [] E0 (tCons (tVar 2) (tCons (tC (.int 1)) (tCons (tOp qSub (tCB (qLen K) (tCons (tVar 0) tNil)) (tC (.int 1))) tNil)))) [2]) tNil)))))
      (tRet (tC (.bl false)))
      tNext))
    (tRet (tOp (rEqD K) (tCB (rSortedI K) (tCons (tCall sp_come_to [] E0 (tCons (tVar 0) tNil)) tNil)) (tLstRg (tRg1 (tCB (qLen K) (tCons (tVar 0) tNil))))))))
theorem v_are_orders {K : PySem.W.Frag} {vs : List V} {H : Hp} {Q : VK} {E : XK} (h : sp_are_orders vs H Q E) : t_are_orders K (fin Q) (st0 3 vs) H := by
  refine v_of (n := 3) (fun os ⟨O, hl⟩ => ?_) h
  have hp := O.pos
  show Wp (t_are_orders K) [some (Fz os), none, none] _
  have k1 : kitB "list" "list" = some true := by decide +kernel
  refine wq_no (et_or (et_not (et_b (ev_isi (by decreasing_trivial) k1))) fun _ => (by decreasing_trivial)) (by simp; omega) ?_
  refine wp_seq (wp_for (by decreasing_trivial) bd_n (fun i Γ => ∃ x, Γ = [some (Fz os), x, none]) ⟨_, rfl⟩ ?_ ?_)
  · rintro i row Γ hi ⟨x, rfl⟩
    have hlen : row.length ≤ 1000 := by
      have hm : (i : Int) ∈ people os.length := people_mem.mpr ⟨i, lt_of_get hi, rfl⟩
      have e : rowO os i = row := by unfold rowO; simp [hi]
      have := nodup_le (O.row_nodup hm) (m := people os.length) fun x hx => (O.row_mem hm hx).1
      rw [people_len, e] at this
      omega
    have em : Ev (tLc (iList K (tVar 1)) (gName 2) tYes (tCall sp_is_between [] E0 (tCons (tVar 2) (tCons (tC (.int 1)) (tCons (tOp qSub (tCB (qLen K) (tCons (tVar 0) tNil)) (tC (.int 1))) tNil)))) [2]) [some (Fz os), some (Fz row), none] [some (Fz os), some (Fz row), none] (Ow (row.map fun p => decide (1 ≤ p) && decide (p ≤ (os.length : Int) - 1))) :=
      ev_map _ (by decreasing_trivial) (by decreasing_trivial) bd_n (by omega) fun a ha => ⟨_, (by decreasing_trivial)⟩
    refine wn_no (et_or (et_not (et_b (ev_isi (a := row) (by decreasing_trivial) k1))) fun _ => et_not (et_b (ev_all (ev_fr em)))) ?_ ⟨_, rfl⟩
    simp
    intro x hx
    have hm : (i : Int) ∈ people os.length := people_mem.mpr ⟨i, lt_of_get hi, rfl⟩
    have e : rowO os i = row := by unfold rowO; simp [hi]
    obtain ⟨h1, h2⟩ := O.row_mem hm (by rw [e]; exact hx)
    obtain ⟨k, h3, h4⟩ := people_mem.mp h1
    omega
  · rintro Γ ⟨x, rfl⟩
    refine wp_ret (ev_eqM (ev_fr (ev_sorted (ev_fr (ev_come (ta := tVar 0) (ev_var rfl) O (by omega))))) (by decreasing_trivial)) ?_
    show Fz _ = Fz true
    have C := come_all O
    rw [C.1.full O C.2.symm, people_range, decide_eq_true rfl]
theorem ev_areO {ta : TE} {Γ Γ1 : Env} {os : List (List Int)} (h : Ev ta Γ Γ1 (Fz os)) (O : OrdG os) (hl : os.length ≤ 40) : Ev (tCall sp_are_orders [] E0 (tCons ta tNil)) Γ Γ1 (Fz true) := ev_call (i := os) (ea_1 h) ⟨O, hl⟩
def sp_check_orders : Sp := spG (fun os : List (List Int) => OrdG os ∧ os.length ≤ 40) (fun os => [Fz os]) (fun os => Fz ())
def t_check_orders (K : PySem.W.Frag) : TS :=
(tIfS (tNot (tB (tCall sp_are_orders [] E0 (tCons (tVar 0) tNil))))
    tNever
    tNext)
theorem v_check_orders {K : PySem.W.Frag} {vs : List V} {H : Hp} {Q : VK} {E : XK} (h : sp_check_orders vs H Q E) : t_check_orders K (fin Q) (st0 1 vs) H := by
  refine v_ofN (n := 1) (fun os ⟨O, hl⟩ => ?_) h
  exact wn_no (et_not (et_b (ev_areO (by decreasing_trivial) O hl))) rfl trivial
theorem ev_chkO {ta : TE} {Γ Γ1 : Env} {os : List (List Int)} (h : Ev ta Γ Γ1 (Fz os)) (O : OrdG os) (hl : os.length ≤ 40) : Ev (tCall sp_check_orders [] E0 (tCons ta tNil)) Γ Γ1 (Fz ()) := ev_call (i := os) (ea_1 h) ⟨O, hl⟩
/-- absent ones as they are due -/
def AbsOk (n : Int) (absent : List Int) : Prop := absent.Pairwise (· < ·) ∧ ∀ x ∈ absent, 1 ≤ x ∧ x < n
theorem AbsOk.len {n : Nat} {absent : List Int} (h : AbsOk n absent) : absent.length ≤ n := by
  have := nodup_le (h.1.imp fun h => by omega) (m := people n) fun x hx => people_mem.mpr ⟨x.toNat, by have := h.2 x hx; omega, by have := h.2 x hx; omega⟩
  rwa [people_len] at this
def sp_check_absent : Sp := spG (fun i : Nat × List Int => AbsOk i.1 i.2 ∧ i.1 ≤ 1000) (fun i => [Fz (i.1 : Int), Fz i.2]) (fun i => Fz ())
def t_check_absent (K : PySem.W.Frag) : TS :=
(tSeq (tIfS (tOr (tNot (tB (tCB (rIsi K) (tCons (tVar 1) (tCons (tC (.ty "list")) tNil))))) (tNot (tB (tCB (rAll K) (tCons (tLc (iList K (tVar 1)) (gName 2) tYes (tCall sp_is_between [] E0 (tCons (tVar 2) (tCons (tC (.int 1)) (tCons (tOp qSub (tVar 0) (tC (.int 1))) tNil)))) [2]) tNil)))))
    tNever
    tNext)
    (tIfS (tB (tCB (rAny K) (tCons (tLc (iZip K (tCons (tVar 1) (tCons (L2.tSl (rSlL K) (tVar 1) (tPart (tC (.int 1))) tNoPart) tNil))) (gTup K 2 (gCons (gName 3) (gCons (gName 4) gNil))) tYes (tOp qGe (tVar 3) (tVar 4)) [3, 4]) tNil)))
    tNever
    tNext))
theorem cutA_from {α : Type} (xs : List α) (n : Nat) : cutA xs (some (n : Int)) none = xs.drop n := by
  unfold cutA
  rw [HT.sIx_none, HT.sIx_nat]
  by_cases h : n ≤ xs.length
  · rw [show min n xs.length = n by omega, List.take_of_length_le (by simp)]
  · rw [show min n xs.length = xs.length by omega, List.drop_of_length_le (Nat.le_refl _), List.drop_of_length_le (by omega)]
    simp
theorem cutA_to {α : Type} (xs : List α) (n : Nat) : cutA xs none (some (n : Int)) = xs.take n := by
  unfold cutA
  rw [HT.sIx_none, HT.sIx_nat, List.drop_zero, Nat.sub_zero]
  by_cases h : n ≤ xs.length
  · rw [show min n xs.length = n by omega]
  · rw [show min n xs.length = xs.length by omega, List.take_of_length_le (Nat.le_refl _), List.take_of_length_le (by omega)]
theorem v_check_absent {K : PySem.W.Frag} {vs : List V} {H : Hp} {Q : VK} {E : XK} (h : sp_check_absent vs H Q E) : t_check_absent K (fin Q) (st0 5 vs) H := by
  refine v_ofN (n := 5) (fun ⟨n, absent⟩ ⟨O, hl⟩ => ?_) h
  have k1 : kitB "list" "list" = some true := by decide +kernel
  have O : AbsOk n absent := O
  have hl : n ≤ 1000 := hl
  have hal := O.len
  have em : Ev (tLc (iList K (tVar 1)) (gName 2) tYes (tCall sp_is_between [] E0 (tCons (tVar 2) (tCons (tC (.int 1)) (tCons (tOp qSub (tVar 0) (tC (.int 1))) tNil)))) [2]) [some (Fz (n : Int)), some (Fz absent), none, none, none] [some (Fz (n : Int)), some (Fz absent), none, none, none] (Ow (absent.map fun p => decide (1 ≤ p) && decide (p ≤ (n : Int) - 1))) :=
    ev_map _ (by decreasing_trivial) (by decreasing_trivial) bd_n (by omega) fun a ha => ⟨_, (by decreasing_trivial)⟩
  refine wq_no (Γ1 := [some (Fz (n : Int)), some (Fz absent), none, none, none]) (et_or (et_not (et_b (ev_isi (a := absent) (by decreasing_trivial) k1))) fun _ => et_not (et_b (ev_all (ev_fr em)))) ?_ ?_
  · simp
    intro x hx
    have := O.2 x hx
    omega
  have ez : Ev (tLc (iZip K (tCons (tVar 1) (tCons (L2.tSl (rSlL K) (tVar 1) (tPart (tC (.int 1))) tNoPart) tNil))) (gTup K 2 (gCons (gName 3) (gCons (gName 4) gNil))) tYes (tOp qGe (tVar 3) (tVar 4)) [3, 4]) [some (Fz (n : Int)), some (Fz absent), none, none, none] [some (Fz (n : Int)), some (Fz absent), none, none, none] (Ow ((absent.zip (cutA absent (some 1) none)).map fun p => decide (p.2 ≤ p.1))) :=
    ev_map _ (by decreasing_trivial) (by decreasing_trivial) bd_2 (by rw [List.length_zip]; omega) fun a ha => ⟨_, (by decreasing_trivial)⟩
  refine wn_no (et_b (ev_any (ev_fr ez))) ?_ trivial
  rw [show cutA absent (some 1) none = absent.drop 1 from cutA_from absent 1, List.any_map, List.any_eq_false]
  intro p hp
  obtain ⟨i, hi, e⟩ := List.mem_iff_getElem.mp hp
  have hz := List.getElem_zip (l := absent) (l' := absent.drop 1) (i := i) (h := hi)
  rw [hz] at e
  subst e
  simp only [Function.comp, id]
  have hlt : i + 1 < absent.length := by simp at hi; omega
  have := List.pairwise_iff_getElem.mp O.1 i (i + 1) (by omega) hlt (by omega)
  simp only [List.getElem_drop, decide_eq_true_eq, Int.not_le]
  simpa only [Nat.add_comm] using this
theorem ev_chkA {ta tb : TE} {Γ Γ1 Γ2 : Env} {n : Nat} {absent : List Int} (h : Ev ta Γ Γ1 (Fz (n : Int))) (h' : Ev tb Γ1 Γ2 (Fz absent)) (O : AbsOk n absent) (hl : n ≤ 1000) : Ev (tCall sp_check_absent [] E0 (tCons ta (tCons tb tNil))) Γ Γ2 (Fz ()) := ev_call (i := (n, absent)) (ea_2 h h') ⟨O, hl⟩
/-! walk, walked -/
def sp_walkG : Sp := spG (fun i : List (List Int) × List Int => OrdG i.1 ∧ i.1.length ≤ 1000) (fun i => [Fz i.1, Fz i.2]) (fun i => OwL ((walkM i.1 i.2).map Ow))
theorem walk_of {vs : List V} {H : Hp} {Q : VK} {E : XK} (h : sp_walkG vs H Q E) : sp_walk vs H Q E := by
  obtain ⟨⟨os, absent⟩, Hs, ⟨O, hl⟩, s, hv, k⟩ := h
  cases hv with
  | cons r1 hv => cases hv with
    | cons r2 hv =>
      cases hv
      obtain ⟨po, pso, e1, R⟩ := is_toLL r1.2
      obtain ⟨ab, e2, hab⟩ := is_toI r2.2
      subst e1 e2
      have hl : os.length ≤ 1000 := hl
      have O : OrdG os := O
      have hw := walkM_to (absent := absent) O hl
      have e0 : os.getD 0 [] = rowO os 0 := rfl
      refine ⟨po, pso, os, ab, absent, walkM os absent, rfl, R.same s, s _ _ hab, O.pos, hl, fun r hr => ?_, by rw [e0]; exact hw.1, by have := hw.2; omega, fun f fs vss C' H' L hfl cal => ?_⟩
      · obtain ⟨p, hp, rfl⟩ := List.mem_iff_getElem.mp hr
        have hm : (p : Int) ∈ people os.length := people_mem.mpr ⟨p, hp, rfl⟩
        have e : rowO os p = os[p] := by unfold rowO; simp [hp]
        have := nodup_le (O.row_nodup hm) (m := people os.length) fun x hx => (O.row_mem hm hx).1
        rw [people_len, e] at this
        omega
      · have L2 : Lo H H' (C' ++ ((f, refsO fs) :: vrC fs vss)) := L.pk [[(f, refsO fs)], vrC fs vss, C'] [0, 1, 2] [2, 0, 1]
        refine k (.ref f) H' C' _ L2 ?_
        have LC : Lo H H' C' := L2.sub (List.sublist_append_left _ _)
        have up : Same (inC C') (plus Hs C') := plus_le (fun _ _ e => by cases e) fun a o h => LC.pGet h
        have key : ∀ (fs : List Addr) (vss : List (List V)) (ts : List (List Tri)), fs.length = vss.length → Cal (plus Hs C') vss ts → Al3 (plus Hs C') (ts.map Ow) (fs.map V.ref) ((fs.zip vss).map fun x => [(x.1, .lst x.2)]) := by
          intro fs
          induction fs with
          | nil =>
            intro vss ts h1 c
            cases vss with
            | nil =>
              have := c.len
              cases ts with
              | nil => exact .nil
              | cons => cases this
            | cons => cases h1
          | cons f fs ih =>
            intro vss ts h1 c
            cases vss with
            | nil => cases h1
            | cons vs vss =>
              cases ts with
              | nil => have := c.len; cases this
              | cons t ts =>
                refine .cons (Ow.of ?_) (ih vss ts (Nat.succ.inj h1) ⟨Nat.succ.inj c.len, fun {i vs t} e1 e2 => c.row (i := i + 1) (by simpa using e1) (by simpa using e2)⟩)
                have tr := c.row (i := 0) (vs := vs) (t := t) rfl rfl
                refine Al.of_get tr.len.symm fun i a b e1 e2 => ?_
                obtain ⟨x, rfl, hx⟩ := tr.row e2 e1
                exact ⟨x, _, _, _, rfl, hx, rfl, rfl, rfl⟩
        refine ⟨f, _, _, rfl, ?_, key fs vss _ hfl (cal.same up)⟩
        congr 1
        clear L L2 LC cal up key
        induction fs generalizing vss with
        | nil => rfl
        | cons f fs ih =>
          cases vss with
          | nil => cases hfl
          | cons vs vss => 
            show (f, HO.lst vs) :: vrC fs vss = _
            rw [ih vss (Nat.succ.inj hfl)]
            rfl
theorem ev_walk {ta tb : TE} {Γ Γ1 Γ2 : Env} {os : List (List Int)} {absent : List Int} (h : Ev ta Γ Γ1 (Fz os)) (h' : Ev tb Γ1 Γ2 (Fz absent)) (O : OrdG os) (hl : os.length ≤ 1000) : Ev (tCall sp_walkG [] E0 (tCons ta (tCons tb tNil))) Γ Γ2 (OwL ((walkM os absent).map Ow)) := ev_call (i := (os, absent)) (ea_2 h h') ⟨O, hl⟩
def sp_walked : Sp := spG (fun i : List (List Int) × List Int => OrdG i.1 ∧ i.1.length ≤ 40 ∧ AbsOk i.1.length i.2) (fun i => [Fz i.1, Fz i.2]) (fun i => OwL ((walkM i.1 i.2).map Ow))
def t_walked (K : PySem.W.Frag) : TS :=
(tSeq (tDrop (tCall sp_check_orders [] E0 (tCons (tVar 0) tNil)))
    (tSeq (tDrop (tCall sp_check_absent [] E0 (tCons (tCB (qLen K) (tCons (tVar 0) tNil)) (tCons (tVar 1) tNil))))
    (tRet (tCall sp_walkG [] E0 (tCons (tVar 0) (tCons (tVar 1) tNil))))))
theorem v_walked {K : PySem.W.Frag} {vs : List V} {H : Hp} {Q : VK} {E : XK} (h : sp_walked vs H Q E) : t_walked K (fin Q) (st0 2 vs) H := by
  refine v_of (n := 2) (fun ⟨os, absent⟩ ⟨O, hl, ha⟩ => ?_) h
  have hl : os.length ≤ 40 := hl
  exact wq_drop (ev_chkO (by decreasing_trivial) O hl) (wq_drop (ev_chkA (by decreasing_trivial) (by decreasing_trivial) ha (by omega)) (wr (ev_walk (by decreasing_trivial) (by decreasing_trivial) O (by omega))))
theorem ev_walked {ta tb : TE} {Γ Γ1 Γ2 : Env} {os : List (List Int)} {absent : List Int} (h : Ev ta Γ Γ1 (Fz os)) (h' : Ev tb Γ1 Γ2 (Fz absent)) (O : OrdG os) (hl : os.length ≤ 40) (ha : AbsOk os.length absent) : Ev (tCall sp_walked [] E0 (tCons ta (tCons tb tNil))) Γ Γ2 (OwL ((walkM os absent).map Ow)) := ev_call (i := (os, absent)) (ea_2 h h') ⟨O, hl, ha⟩
end Cc

namespace Cc
open PySem L2
local macro_rules | `(tactic| decreasing_trivial) => `(tactic| first | (with_reducible exact ev_int) | (with_reducible exact ev_bl) | ((with_reducible apply ev_var) <;> rfl) | (with_reducible exact ea_nil) | (with_reducible exact Es.nil) | (with_reducible exact Kp.nil) | (with_reducible apply ev_non) | ((with_reducible apply ev_add) <;> decreasing_trivial) | ((with_reducible apply ev_sub) <;> decreasing_trivial) | ((with_reducible apply ev_mod) <;> decreasing_trivial) | ((with_reducible apply ev_div) <;> decreasing_trivial) | ((with_reducible apply ev_mul) <;> decreasing_trivial) | ((with_reducible apply ev_pow) <;> decreasing_trivial) | ((with_reducible apply ev_lt) <;> decreasing_trivial) | ((with_reducible apply ev_le) <;> decreasing_trivial) | ((with_reducible apply ev_gt) <;> decreasing_trivial) | ((with_reducible apply ev_ge) <;> decreasing_trivial) | ((with_reducible apply ev_eqS) <;> decreasing_trivial) | ((with_reducible apply ev_neS) <;> decreasing_trivial) | ((with_reducible apply ev_isB) <;> decreasing_trivial) | ((with_reducible apply ev_notB) <;> decreasing_trivial) | ((with_reducible apply ev_neg) <;> decreasing_trivial) | ((with_reducible apply ev_not) <;> decreasing_trivial) | ((with_reducible apply ev_len) <;> decreasing_trivial) | ((with_reducible apply ev_sum) <;> decreasing_trivial) | ((with_reducible apply ev_ixD) <;> decreasing_trivial) | ((with_reducible apply ev_ixT0) <;> decreasing_trivial) | ((with_reducible apply ev_ixT1) <;> decreasing_trivial) | ((with_reducible apply ev_ixT2) <;> decreasing_trivial) | ((with_reducible apply ev_ixP0) <;> decreasing_trivial) | ((with_reducible apply ev_ixP1) <;> decreasing_trivial) | ((with_reducible apply ev_ixDT) <;> decreasing_trivial) | ((with_reducible apply ev_fr; with_reducible apply ev_cat) <;> decreasing_trivial) | ((with_reducible apply ev_fr; with_reducible apply ev_list) <;> decreasing_trivial) | ((with_reducible apply ev_fr; with_reducible apply ev_sorted) <;> decreasing_trivial) | ((with_reducible apply ev_fr; with_reducible apply ev_slH) <;> decreasing_trivial) | ((with_reducible apply ev_fr; with_reducible apply ev_slL) <;> decreasing_trivial) | ((with_reducible apply ev_fr; with_reducible apply ev_rev) <;> decreasing_trivial) | (with_reducible apply ev_fr; with_reducible exact ev_nil) | ((with_reducible apply ev_fr; with_reducible apply ev_ls) <;> decreasing_trivial) | ((with_reducible apply Es.cons) <;> decreasing_trivial) | ((with_reducible apply ev_in) <;> decreasing_trivial) | ((with_reducible apply ev_notin) <;> decreasing_trivial) | ((with_reducible apply ev_max2) <;> decreasing_trivial) | ((with_reducible apply ev_min2) <;> decreasing_trivial) | ((with_reducible apply ev_eqD) <;> decreasing_trivial) | ((with_reducible apply ev_neD) <;> decreasing_trivial) | ((with_reducible apply ev_all) <;> decreasing_trivial) | ((with_reducible apply ev_any) <;> decreasing_trivial) | ((with_reducible apply ev_fr; with_reducible apply ev_rg1) <;> decreasing_trivial) | ((with_reducible apply ev_fr; with_reducible apply ev_rg2) <;> decreasing_trivial) | ((with_reducible apply ev_p2) <;> decreasing_trivial) | ((with_reducible apply ev_t3) <;> decreasing_trivial) | ((with_reducible apply ev_tp) <;> decreasing_trivial) | ((with_reducible apply et_tt) <;> decreasing_trivial) | ((with_reducible apply et_b) <;> decreasing_trivial) | ((with_reducible apply et_not) <;> decreasing_trivial) | ((with_reducible apply et_or) <;> decreasing_trivial) | ((with_reducible apply et_and) <;> decreasing_trivial) | ((with_reducible apply ev_andV) <;> decreasing_trivial) | ((with_reducible apply ev_orV) <;> decreasing_trivial) | ((with_reducible apply ev_chLL) <;> decreasing_trivial) | ((with_reducible apply ev_chll) <;> decreasing_trivial) | ((with_reducible apply is_list) <;> decreasing_trivial) | ((with_reducible apply is_tup) <;> decreasing_trivial) | ((with_reducible apply is_rng1) <;> decreasing_trivial) | ((with_reducible apply is_rng2) <;> decreasing_trivial) | ((with_reducible apply is_enum) <;> decreasing_trivial) | ((with_reducible apply is_zip) <;> decreasing_trivial) | ((with_reducible apply ea_1) <;> decreasing_trivial) | ((with_reducible apply ea_2) <;> decreasing_trivial) | ((with_reducible apply ea_3) <;> decreasing_trivial) | ((with_reducible apply ev_dg) <;> decreasing_trivial) | ((with_reducible apply ev_dg1) <;> decreasing_trivial) | ((with_reducible apply ev_fr; with_reducible apply ev_listD) <;> decreasing_trivial) | ((with_reducible apply ev_isi) <;> decreasing_trivial) | ((with_reducible apply ev_whole) <;> decreasing_trivial) | ((with_reducible apply ev_betw) <;> decreasing_trivial) | ((with_reducible apply ev_num) <;> decreasing_trivial) | ((with_reducible apply Kp.so fr_fz) <;> decreasing_trivial) | ((with_reducible apply Kp.no) <;> decreasing_trivial) | (intro (_ : (_ : Bool) = _); decreasing_trivial) | (infer_instance) | (rfl) | (omega) | (decide) | (simp; done) | (skip))
/-! the script, _law_ups, _law_absent -/
def Sq (K : PySem.W.Frag) (ns : List Int) : As where
  p := fun H v C => C = [] ∧ ∃ a, v = .ref a ∧ SqL K H a (ns.map V.int)
  mo := fun ⟨e, a, e2, h⟩ s => ⟨e, a, e2, s.seq h⟩
  nt := fun ⟨e, _⟩ c hc => by rw [e] at hc; cases hc
theorem fr_sq {K : PySem.W.Frag} {ns : List Int} : Fr (Sq K ns) := fun _ _ _ h => h.1
section
variable {K : PySem.W.Frag} {ns : List Int} {Γ Γ1 Γ2 : Env} {ta tb : TE} {b most : Int}
theorem ev_cells (e : Γ[0]? = some (some (Sq K ns))) : Ev (tIf (tTest (tOp (rNeD K) (tVar 0) (tLst tNil))) (L2.tSl (rSlL K) (tVar 0) tNoPart (tPart (tC (.int 63)))) (tLst (tCons (tC (.int 5)) tNil))) Γ Γ (Ow (cellsM ns)) := fun Hs G σ H F X Cs I Q q => by
  obtain ⟨v, C, C1, C2, h1, h2, h3, h4, a, rfl, h5⟩ := I.ok.get e
  refine vr_cells h1 (I.b.seq h5) Q fun v H' ⟨c, e, L⟩ => ?_
  subst e
  have I2 := I.ext (F2 := []) (C := [(c, intsO (cellsM ns))]) L (fun c hc => by rw [List.mem_singleton.mp hc]; exact fun xs z => by cases z)
  exact q _ _ ⟨[], [(c, intsO (cellsM ns))], Cs, I2, Ow.of (al_ofI _)⟩
/-- script[:63] -/
theorem ev_scr (e : Γ[0]? = some (some (Sq K ns))) : Ev (L2.tSl (rSlL K) (tVar 0) tNoPart (tPart (tC (.int 63)))) Γ Γ (Ow (ns.take 63)) := fun Hs G σ H F X Cs I Q q => by
  obtain ⟨v, C, C1, C2, h1, h2, h3, h4, a, rfl, h5⟩ := I.ok.get e
  refine ⟨_, h1, 63, rfl, a, _, rfl, I.b.seq h5, fun p hp => ?_⟩
  rw [cut63]
  exact q _ _ ⟨[], [(p, intsO (ns.take 63))], Cs, I.al hp _ (fun xs z => by cases z), Ow.of (al_ofI _)⟩
theorem ev_ups (e : Γ[0]? = some (some (Sq K ns))) (ha : Ev ta Γ Γ (Fz b)) (hb : Ev tb Γ Γ (Fz most)) (h : 0 ≤ b ∧ b ≤ 1000 ∧ 0 < most ∧ most ≤ 1000) : Ev (tCall (sp__law_ups K) [] E0 (tCons (tVar 0) (tCons ta (tCons tb tNil)))) Γ Γ (Ow (upsM ns b most)) := fun Hs G σ H F X Cs I Q q => by
  obtain ⟨v, C, C1, C2, h1, h2, h3, h4, a, rfl, h5⟩ := I.ok.get e
  refine ⟨_, h1, ha Hs G σ H F X Cs I _ fun w H1 ⟨F1, D1, Cs1, I1, e1, r1⟩ => hb Hs G σ H1 _ _ Cs1 I1 _ fun u H2 ⟨F2, D2, Cs2, I2, e2, r2⟩ => ?_⟩
  subst e1 e2
  have r1 : w = .int b := r1
  have r2 : u = .int most := r2
  subst r1 r2
  refine ⟨a, ns, b, most, rfl, ((I1.up.trans I2.up).trans I2.b).seq h5, h.1, h.2.1, h.2.2.1, h.2.2.2, fun p H' L => ?_⟩
  have I3 : Iv Hs G Γ σ H' (F2 ++ (F1 ++ F)) ([(p, intsO (upsM ns b most))] ++ X) Cs2 := I2.ext (F2 := []) (C := [(p, intsO (upsM ns b most))]) L (fun c hc => by rw [List.mem_singleton.mp hc]; exact fun xs z => by cases z)
  exact q _ _ ⟨F2 ++ F1, [(p, intsO (upsM ns b most))], Cs2, I3.asc, Ow.of (al_ofI _)⟩
end
def absKind (ns : List Int) (b : Int) : Int := numberM (wholeM ns b) (b + 2) 3 / 1800 % 4
def absN (ns : List Int) (b at' : Int) : Int := numberM ((cellsM ns).getD ((at' + b) % (cellsM ns).length).toNat 0 + 3 * at') (at' + b) (wholeM ns b) / 3
def absPick (ns : List Int) (b at' : Int) : Bool := [false, decide (absN ns b at' % 5 = 0), decide (0 < absN ns b at' % 4), true].getD (absKind ns b).toNat default
def absM (ns : List Int) (b : Int) (n : Nat) : List Int := (rangeI 1 n).filter (absPick ns b)
theorem absM_ok (ns : List Int) (b : Int) (n : Nat) : AbsOk n (absM ns b n) := ⟨(rangeI_sorted _ _).filter _, fun x hx => rangeI_mem.mp (List.mem_filter.mp hx).1⟩
def sp__law_absent (K : PySem.W.Frag) : Sp := spG (fun i : List Int × Int × Nat => 0 ≤ i.2.1 ∧ i.2.1 ≤ 1000 ∧ i.2.2 ≤ 1000) (fun i => [Sq K i.1, Fz i.2.1, Fz (i.2.2 : Int)]) (fun i => Ow (absM i.1 i.2.1 i.2.2))
def t__law_absent (K : PySem.W.Frag) : TS :=
(tSeq (tAsg (tIf (tTest (tOp (rNeD K) (tVar 0) (tLst tNil))) (L2.tSl (rSlL K) (tVar 0) tNoPart (tPart (tC (.int 63)))) (tLst (tCons (tC (.int 5)) tNil))) (gName 3))
    (tSeq (tPar 4 5 (tCons (tOp qAdd (tCB (rSum K) (tCons (tVar 3) tNil)) (tVar 1)) (tCons (tLst tNil) tNil)))
    (tSeq (tAsg (tOp qMod (tOp qDiv (tCall sp__law_number [] E0 (tCons (tVar 4) (tCons (tOp qAdd (tVar 1) (tC (.int 2))) (tCons (tC (.int 3)) tNil)))) (tC (.int 1800))) (tC (.int 4))) (gName 6))
    (tSeq (tFor (iRng2 (tCons (tC (.int 1)) (tCons (tVar 2) tNil))) (gName 7)
    (tSeq (tAsg (tOp qDiv (tCall sp__law_number [] E0 (tCons (tOp qAdd (tOp (rIxL K) (tVar 3) (tOp qMod (tOp qAdd (tVar 7) (tVar 1)) (tCB (qLen K) (tCons (tVar 3) tNil)))) (tOp qMul (tC (.int 3)) (tVar 7))) (tCons (tOp qAdd (tVar 7) (tVar 1)) (tCons (tVar 4) tNil)))) (tC (.int 3))) (gName 8))
      (tIfS (tB (tOp (rIxT K) (tTup (tCons (tC (.bl false)) (tCons (tOp rEq (tOp qMod (tVar 8) (tC (.int 5))) (tC (.int 0))) (tCons (tOp qGt (tOp qMod (tVar 8) (tC (.int 4))) (tC (.int 0))) (tCons (tC (.bl true)) tNil))))) (tVar 6)))
      (tDrop (tBM K "list" rAppend (tVar 5) (tCons (tVar 7) tNil)))
      tNext)))
    (tRet (tVar 5))))))
theorem v__law_absent {K : PySem.W.Frag} {vs : List V} {H : Hp} {Q : VK} {E : XK} (h : sp__law_absent K vs H Q E) : t__law_absent K (fin Q) (st0 9 vs) H := by
  refine v_of (n := 9) (fun ⟨ns, b, n⟩ ⟨b0, b1, hn⟩ => ?_) h
  have b0 : 0 ≤ b := b0
  have b1 : b ≤ 1000 := b1
  have hn : n ≤ 1000 := hn
  show Wp (t__law_absent K) [some (Sq K ns), some (Fz b), some (Fz (n : Int)), none, none, none, none, none, none] (Rt (Ow (absM ns b n)))
  refine wq_asg (ev_fr (ev_cells rfl)) ?_
  refine wq_parO (A := Fz (wholeM ns b)) (B := Ow ([] : List Int)) (ev_eq (by decreasing_trivial) (by rfl)) ev_nil ?_
  have hd18 : CDiv (numberM (wholeM ns b) (b + 2) 3) 1800 := ⟨by decide, by decide⟩
  refine wq_asg (a := absKind ns b) (ev_eq (ev_mod (ev_div (by decreasing_trivial) (by decreasing_trivial) hd18) (by decreasing_trivial) (by decide)) (by rfl)) ?_
  refine wp_seq (wp_for (xs := rangeI 1 n) (by decreasing_trivial) bd_n (fun i Γ => ∃ x y, Γ = [some (Sq K ns), some (Fz b), some (Fz (n : Int)), some (Fz (cellsM ns)), some (Fz (wholeM ns b)), some (Ow (((rangeI 1 n).take i).filter (absPick ns b))), some (Fz (absKind ns b)), x, y]) (by exact ⟨_, _, rfl⟩) ?_ ?_)
  · rintro i a Γ ha ⟨x, y, rfl⟩
    have hm := rangeI_mem.mp (List.mem_of_getElem? ha)
    have hil := lt_of_get ha
    have hcl := cellsM_ne ns
    have hidx : 0 ≤ (a + b) % ((cellsM ns).length : Int) ∧ (a + b) % ((cellsM ns).length : Int) < (cellsM ns).length := ⟨Int.emod_nonneg _ (by omega), Int.emod_lt_of_pos _ (by omega)⟩
    have hmul : CMul 3 a := .inl ⟨by omega, by omega⟩
    have hd3 : CDiv (numberM ((cellsM ns).getD ((a + b) % (cellsM ns).length).toNat 0 + 3 * a) (a + b) (wholeM ns b)) 3 := ⟨by decide, by decide⟩
    have hab : 0 ≤ a + b ∧ a + b ≤ 1000000 := by omega
    have hl0 : 0 < ((cellsM ns).length : Int) := by omega
    refine wq_asg (a := absN ns b a) (ev_div (ev_num (ev_add (ev_ix (by decreasing_trivial) (ev_mod (by decreasing_trivial) (by decreasing_trivial) hl0) (atI_getD _ _ 0 hidx)) (ev_mul (by decreasing_trivial) (by decreasing_trivial) hmul)) (by decreasing_trivial) (by decreasing_trivial) hab) (by decreasing_trivial) hd3) ?_
    have hkind : 0 ≤ absKind ns b ∧ absKind ns b < 4 := ⟨Int.emod_nonneg _ (by decide), Int.emod_lt_of_pos _ (by decide)⟩
    have et : (rangeI 1 n).take (i + 1) = (rangeI 1 n).take i ++ [a] := by rw [List.take_add_one, ha]; rfl
    refine wp_if (b := absPick ns b a) (et_b (ev_ixT (ev_tp (as := [false, decide (absN ns b a % 5 = 0), decide (0 < absN ns b a % 4), true]) (by decreasing_trivial) (by simp)) (by decreasing_trivial) (atI_getD _ _ default (by show 0 ≤ _ ∧ _ < (4 : Int); omega)))) (fun hb => ?_) (fun hb => ?_)
    · have hfl : (((rangeI 1 n).take i).filter (absPick ns b)).length < 99999 := by
        have := List.length_filter_le (absPick ns b) ((rangeI 1 n).take i)
        rw [List.length_take, rangeI_len] at this
        omega
      have ef : ((rangeI 1 n).take (i + 1)).filter (absPick ns b) = ((rangeI 1 n).take i).filter (absPick ns b) ++ [a] := by
        rw [et, List.filter_append]
        simp [List.filter, hb]
      exact wp_appF rfl (by decreasing_trivial) rfl hfl ⟨_, _, by rw [ef]; rfl⟩
    · have ef : ((rangeI 1 n).take (i + 1)).filter (absPick ns b) = ((rangeI 1 n).take i).filter (absPick ns b) := by
        rw [et, List.filter_append]
        simp [List.filter, hb]
      exact wp_next ⟨_, _, by rw [ef]; rfl⟩
  · rintro Γ ⟨x, y, rfl⟩
    rw [List.take_length]
    exact wr (ev_mv rfl)
theorem ev_absent {K : PySem.W.Frag} {ns : List Int} {Γ : Env} {ta tb : TE} {b : Int} {n : Nat} (e : Γ[0]? = some (some (Sq K ns))) (ha : Ev ta Γ Γ (Fz b)) (hb : Ev tb Γ Γ (Fz (n : Int))) (h : 0 ≤ b ∧ b ≤ 1000) (hn : n ≤ 1000) : Ev (tCall (sp__law_absent K) [] E0 (tCons (tVar 0) (tCons ta (tCons tb tNil)))) Γ Γ (Ow (absM ns b n)) :=
  ev_call (i := (ns, b, n)) (ea_3 (ev_same e fr_sq) ha hb) ⟨h.1, h.2, hn⟩ (.so fr_sq (.so fr_fz (.so fr_fz .nil)))
end Cc

namespace Cc
open PySem L2
/-! the laws' orders -/
def insAt (xs : List Int) (k : Nat) (a : Int) : List Int := xs.take k ++ [a] ++ xs.drop k
theorem insAt_perm (xs : List Int) (k : Nat) (a : Int) : (insAt xs k a).Perm (a :: xs) := by
  unfold insAt
  rw [List.append_assoc]
  refine (List.perm_middle (l₁ := xs.take k) (l₂ := xs.drop k) (a := a)).trans ?_
  rw [List.take_append_drop]
def namN (ns : List Int) (b i : Int) : Int := numberM ((cellsM ns).getD ((i + b) % (cellsM ns).length).toNat 0 + 7 * i) (i + b) (wholeM ns b) / 3
def namesM (ns : List Int) (b : Int) : Nat → List Int
  | 0 => []
  | i + 1 => insAt (namesM ns b i) (namN ns b i % ((i : Int) + 1)).toNat ((i : Int) + 1)
theorem namesM_perm (ns : List Int) (b : Int) : ∀ i : Nat, (namesM ns b i).Perm (rangeI 1 ((i : Int) + 1))
  | 0 => by simp [namesM, rangeI]
  | i + 1 => by
    refine (insAt_perm _ _ _).trans (((namesM_perm ns b i).cons _).trans ?_)
    have : rangeI 1 (((i + 1 : Nat) : Int) + 1) = rangeI 1 ((i : Int) + 1) ++ [(i : Int) + 1] := by
      unfold rangeI
      rw [show ((((i + 1 : Nat) : Int) + 1) - 1).toNat = i + 1 by omega, show (((i : Int) + 1) - 1).toNat = i by omega, List.range_succ, List.map_append]
      congr 1
      simp
      omega
    rw [this]
    exact (List.perm_append_singleton _ _).symm
theorem namesM_len (ns : List Int) (b : Int) (i : Nat) : (namesM ns b i).length = i := by
  have := (namesM_perm ns b i).length_eq
  rw [rangeI_len] at this
  omega
def knownM (ns : List Int) (b : Int) (k : Nat) : List Int := 0 :: namesM ns b k
theorem knownM_perm (ns : List Int) (b : Int) (k : Nat) : (knownM ns b k).Perm (people (k + 1)) := by
  rw [people_cons (by omega)]
  exact (namesM_perm ns b k).cons 0
theorem knownM_len (ns : List Int) (b : Int) (k : Nat) : (knownM ns b k).length = k + 1 := by
  rw [(knownM_perm ns b k).length_eq, people_len]
theorem knownM_nd (ns : List Int) (b : Int) (k : Nat) : (knownM ns b k).Nodup := (knownM_perm ns b k).nodup_iff.mpr (people_nodup _)
theorem known_in {known : List Int} {n : Nat} (h : known.Perm (people n)) {j : Nat} (hj : j < n) : ∃ p : Nat, p < n ∧ known[j]? = some (p : Int) := by
  have hl : j < known.length := by rw [h.length_eq, people_len]; exact hj
  have := h.mem_iff.mp (List.getElem_mem hl)
  obtain ⟨p, h1, h2⟩ := people_mem.mp this
  exact ⟨p, h1, by rw [List.getElem?_eq_getElem hl, h2]⟩
def ordPos (w : Int) (i len : Nat) : Int := numberM w i 5 / 7 % ((len : Int) + 1)
def ordR (us known : List Int) (w : Int) (n : Nat) : Nat → List (List Int)
  | 0 => List.replicate n []
  | i + 1 => (ordR us known w n i).set (known.getD (us.getD i 0).toNat 0).toNat
      (insAt ((ordR us known w n i).getD (known.getD (us.getD i 0).toNat 0).toNat []) (ordPos w i ((ordR us known w n i).getD (known.getD (us.getD i 0).toNat 0).toNat []).length).toNat (known.getD (i + 1) 0))
def ordersOf (us known : List Int) (w : Int) : List (List Int) := ordR us known w (us.length + 1) us.length
def ordersM (ns : List Int) (b most : Int) : List (List Int) := ordersOf (upsM ns b most) (knownM ns b (upsM ns b most).length) (wholeM ns b)
theorem ordR_len (us known : List Int) (w : Int) (n : Nat) : ∀ i, (ordR us known w n i).length = n
  | 0 => by simp [ordR]
  | i + 1 => by rw [ordR, List.length_set, ordR_len us known w n i]
theorem flat_set_ins {rows : List (List Int)} {p : Nat} {row row' : List Int} {a : Int} (h : rows[p]? = some row) (hp : row'.Perm (a :: row)) : (rows.set p row').flatten.Perm (a :: rows.flatten) := by
  induction rows generalizing p with
  | nil => simp at h
  | cons r rows ih =>
    cases p with
    | zero =>
      simp at h
      subst h
      show (row' ++ rows.flatten).Perm (a :: (r ++ rows.flatten))
      exact hp.append_right _
    | succ p =>
      simp at h
      show (r ++ (rows.set p row').flatten).Perm (a :: (r ++ rows.flatten))
      exact ((ih h).append_left r).trans List.perm_middle
section
variable {us known : List Int} {w : Int} (hu : UpsOk us) (hk : known.Perm (people (us.length + 1)))
include hu hk
theorem ord_idx {i : Nat} (hi : i < us.length) : ∃ u p q : Nat, us.getD i 0 = (u : Int) ∧ u ≤ i ∧ known[u]? = some (p : Int) ∧ p < us.length + 1 ∧ known[i + 1]? = some (q : Int) ∧ known.getD (us.getD i 0).toNat 0 = (p : Int) ∧ known.getD (i + 1) 0 = (q : Int) := by
  have e := get_some (xs := us) hi
  have := hu i _ e
  obtain ⟨p, h1, h2⟩ := known_in hk (j := (us[i]).toNat) (by omega)
  obtain ⟨q, h3, h4⟩ := known_in hk (j := i + 1) (by omega)
  have eg : us.getD i 0 = us[i] := by simp [hi]
  refine ⟨(us[i]).toNat, p, q, by rw [eg]; omega, by omega, h2, h1, h4, ?_, ?_⟩
  · rw [eg, List.getD_eq_getElem?_getD, h2]; rfl
  · rw [List.getD_eq_getElem?_getD, h4]; rfl
theorem ordR_inv : ∀ i, i ≤ us.length → (ordR us known w (us.length + 1) i).flatten.Perm ((known.drop 1).take i) ∧
    ∀ (p : Nat) (row : List Int), (ordR us known w (us.length + 1) i)[p]? = some row → ∀ q ∈ row, known.idxOf (p : Int) < known.idxOf q
  | 0, _ => by
    refine ⟨?_, fun p row h q hq => ?_⟩
    · show (List.replicate (us.length + 1) []).flatten.Perm _
      rw [show (List.replicate (us.length + 1) ([] : List Int)).flatten = [] by
        induction us.length + 1 with
        | zero => rfl
        | succ n ih => rw [List.replicate_succ, List.flatten_cons, ih]; rfl]
      simp
    · have h : (List.replicate (us.length + 1) ([] : List Int))[p]? = some row := h
      rw [List.getElem?_replicate] at h
      split at h
      · cases h; cases hq
      · cases h
  | i + 1, hi => by
    obtain ⟨ih1, ih2⟩ := ordR_inv i (by omega)
    obtain ⟨u, p, q, e1, e2, e3, e4, e5, e6, e7⟩ := ord_idx hu hk (i := i) (by omega)
    have hnd : known.Nodup := hk.nodup_iff.mpr (people_nodup _)
    have hrow : (ordR us known w (us.length + 1) i)[p]? = some ((ordR us known w (us.length + 1) i).getD p []) := by
      rw [List.getD_eq_getElem?_getD, List.getElem?_eq_getElem (by rw [ordR_len]; exact e4)]; rfl
    have eo : ordR us known w (us.length + 1) (i + 1) = (ordR us known w (us.length + 1) i).set p (insAt ((ordR us known w (us.length + 1) i).getD p []) (ordPos w i ((ordR us known w (us.length + 1) i).getD p []).length).toNat (q : Int)) := by
      rw [ordR, e6, e7]
      simp only [Int.toNat_natCast]
    have idx : ∀ (j : Nat) (x : Int), known[j]? = some x → known.idxOf x = j := fun j x h => by
      obtain ⟨hj, e⟩ := List.getElem?_eq_some_iff.mp h
      rw [← e]
      exact hnd.idxOf_getElem j hj
    refine ⟨?_, fun p' row h x hx => ?_⟩
    · rw [eo]
      refine (flat_set_ins hrow (insAt_perm _ _ _)).trans ((ih1.cons _).trans ?_)
      rw [List.take_add_one, List.getElem?_drop, show 1 + i = i + 1 by omega, e5]
      exact (List.perm_append_singleton _ _).symm
    · rw [eo] at h
      by_cases hp : p = p'
      · subst hp
        rw [List.getElem?_set_self (by rw [ordR_len]; exact e4)] at h
        cases h
        rcases List.mem_cons.mp ((insAt_perm _ _ _).mem_iff.mp hx) with rfl | hx
        · rw [idx u _ e3, idx (i + 1) _ e5]
          omega
        · exact ih2 p _ hrow x hx
      · rw [List.getElem?_set_ne hp] at h
        exact ih2 p' row h x hx
theorem ordersOf_ok (h0 : known = 0 :: known.drop 1) : OrdG (ordersOf us known w) := by
  have hl : (ordersOf us known w).length = us.length + 1 := ordR_len _ _ _ _ _
  obtain ⟨h1, h2⟩ := ordR_inv (w := w) hu hk us.length (Nat.le_refl _)
  refine ⟨by omega, ?_, fun x => known.idxOf x, h2⟩
  rw [hl]
  have hkl : known.length = us.length + 1 := by rw [hk.length_eq, people_len]
  rw [List.take_of_length_le (by rw [List.length_drop]; omega)] at h1
  have h3 := h1.cons 0
  rw [← h0] at h3
  exact h3.trans hk
end
theorem ordersM_ok (ns : List Int) (b most : Int) : OrdG (ordersM ns b most) := ordersOf_ok (upsM_ok ns b most) (knownM_perm ns b _) rfl
theorem ordersM_len (ns : List Int) (b most : Int) : (ordersM ns b most).length = (upsM ns b most).length + 1 := ordR_len _ _ _ _ _
theorem ordersM_le (ns : List Int) (b : Int) {most : Int} (h : 0 < most) : ((ordersM ns b most).length : Int) ≤ most := by
  have := upsM_len ns b h
  rw [ordersM_len]
  omega
end Cc

namespace Cc
open PySem L2
local macro_rules | `(tactic| decreasing_trivial) => `(tactic| first | (with_reducible exact ev_int) | (with_reducible exact ev_bl) | ((with_reducible apply ev_var) <;> rfl) | (with_reducible exact ea_nil) | (with_reducible exact Es.nil) | (with_reducible exact Kp.nil) | (with_reducible apply ev_non) | ((with_reducible apply ev_add) <;> decreasing_trivial) | ((with_reducible apply ev_sub) <;> decreasing_trivial) | ((with_reducible apply ev_mod) <;> decreasing_trivial) | ((with_reducible apply ev_div) <;> decreasing_trivial) | ((with_reducible apply ev_mul) <;> decreasing_trivial) | ((with_reducible apply ev_pow) <;> decreasing_trivial) | ((with_reducible apply ev_lt) <;> decreasing_trivial) | ((with_reducible apply ev_le) <;> decreasing_trivial) | ((with_reducible apply ev_gt) <;> decreasing_trivial) | ((with_reducible apply ev_ge) <;> decreasing_trivial) | ((with_reducible apply ev_eqS) <;> decreasing_trivial) | ((with_reducible apply ev_neS) <;> decreasing_trivial) | ((with_reducible apply ev_isB) <;> decreasing_trivial) | ((with_reducible apply ev_notB) <;> decreasing_trivial) | ((with_reducible apply ev_neg) <;> decreasing_trivial) | ((with_reducible apply ev_not) <;> decreasing_trivial) | ((with_reducible apply ev_len) <;> decreasing_trivial) | ((with_reducible apply ev_sum) <;> decreasing_trivial) | ((with_reducible apply ev_ixD) <;> decreasing_trivial) | ((with_reducible apply ev_ixT0) <;> decreasing_trivial) | ((with_reducible apply ev_ixT1) <;> decreasing_trivial) | ((with_reducible apply ev_ixT2) <;> decreasing_trivial) | ((with_reducible apply ev_ixP0) <;> decreasing_trivial) | ((with_reducible apply ev_ixP1) <;> decreasing_trivial) | ((with_reducible apply ev_ixDT) <;> decreasing_trivial) | ((with_reducible apply ev_fr; with_reducible apply ev_cat) <;> decreasing_trivial) | ((with_reducible apply ev_fr; with_reducible apply ev_list) <;> decreasing_trivial) | ((with_reducible apply ev_fr; with_reducible apply ev_sorted) <;> decreasing_trivial) | ((with_reducible apply ev_fr; with_reducible apply ev_slH) <;> decreasing_trivial) | ((with_reducible apply ev_fr; with_reducible apply ev_slL) <;> decreasing_trivial) | ((with_reducible apply ev_fr; with_reducible apply ev_rev) <;> decreasing_trivial) | (with_reducible apply ev_fr; with_reducible exact ev_nil) | ((with_reducible apply ev_fr; with_reducible apply ev_ls) <;> decreasing_trivial) | ((with_reducible apply Es.cons) <;> decreasing_trivial) | ((with_reducible apply ev_in) <;> decreasing_trivial) | ((with_reducible apply ev_notin) <;> decreasing_trivial) | ((with_reducible apply ev_max2) <;> decreasing_trivial) | ((with_reducible apply ev_min2) <;> decreasing_trivial) | ((with_reducible apply ev_eqD) <;> decreasing_trivial) | ((with_reducible apply ev_neD) <;> decreasing_trivial) | ((with_reducible apply ev_all) <;> decreasing_trivial) | ((with_reducible apply ev_any) <;> decreasing_trivial) | ((with_reducible apply ev_fr; with_reducible apply ev_rg1) <;> decreasing_trivial) | ((with_reducible apply ev_fr; with_reducible apply ev_rg2) <;> decreasing_trivial) | ((with_reducible apply ev_p2) <;> decreasing_trivial) | ((with_reducible apply ev_t3) <;> decreasing_trivial) | ((with_reducible apply ev_tp) <;> decreasing_trivial) | ((with_reducible apply et_tt) <;> decreasing_trivial) | ((with_reducible apply et_b) <;> decreasing_trivial) | ((with_reducible apply et_not) <;> decreasing_trivial) | ((with_reducible apply et_or) <;> decreasing_trivial) | ((with_reducible apply et_and) <;> decreasing_trivial) | ((with_reducible apply ev_andV) <;> decreasing_trivial) | ((with_reducible apply ev_orV) <;> decreasing_trivial) | ((with_reducible apply ev_chLL) <;> decreasing_trivial) | ((with_reducible apply ev_chll) <;> decreasing_trivial) | ((with_reducible apply is_list) <;> decreasing_trivial) | ((with_reducible apply is_tup) <;> decreasing_trivial) | ((with_reducible apply is_rng1) <;> decreasing_trivial) | ((with_reducible apply is_rng2) <;> decreasing_trivial) | ((with_reducible apply is_enum) <;> decreasing_trivial) | ((with_reducible apply is_zip) <;> decreasing_trivial) | ((with_reducible apply ea_1) <;> decreasing_trivial) | ((with_reducible apply ea_2) <;> decreasing_trivial) | ((with_reducible apply ea_3) <;> decreasing_trivial) | ((with_reducible apply ev_dg) <;> decreasing_trivial) | ((with_reducible apply ev_dg1) <;> decreasing_trivial) | ((with_reducible apply ev_fr; with_reducible apply ev_listD) <;> decreasing_trivial) | ((with_reducible apply ev_isi) <;> decreasing_trivial) | ((with_reducible apply ev_whole) <;> decreasing_trivial) | ((with_reducible apply ev_betw) <;> decreasing_trivial) | ((with_reducible apply ev_num) <;> decreasing_trivial) | ((with_reducible apply Kp.so fr_fz) <;> decreasing_trivial) | ((with_reducible apply Kp.no) <;> decreasing_trivial) | (intro (_ : (_ : Bool) = _); decreasing_trivial) | (infer_instance) | (rfl) | (omega) | (decide) | (simp; done) | (skip))
/-! _law_orders -/
def sp__law_orders (K : PySem.W.Frag) : Sp := spG (fun i : List Int × Int × Int => 0 ≤ i.2.1 ∧ i.2.1 ≤ 1000 ∧ 0 < i.2.2 ∧ i.2.2 ≤ 1000) (fun i => [Sq K i.1, Fz i.2.1, Fz i.2.2]) (fun i => OwL ((ordersM i.1 i.2.1 i.2.2).map Ow))
def t__law_orders (K : PySem.W.Frag) : TS :=
(tSeq (tPar 3 4 (tCons (tCall (sp__law_ups K) [] E0 (tCons (tVar 0) (tCons (tVar 1) (tCons (tVar 2) tNil)))) (tCons (tLst tNil) tNil)))
    (tSeq (tAsg (tIf (tTest (tOp (rNeD K) (tVar 0) (tLst tNil))) (L2.tSl (rSlL K) (tVar 0) tNoPart (tPart (tC (.int 63)))) (tLst (tCons (tC (.int 5)) tNil))) (gName 5))
    (tSeq (tAsg (tOp qAdd (tCB (rSum K) (tCons (tVar 5) tNil)) (tVar 1)) (gName 6))
    (tSeq (tFor (iRng1 (tCons (tCB (qLen K) (tCons (tVar 3) tNil)) tNil)) (gName 7)
    (tSeq (tAsg (tOp qDiv (tCall sp__law_number [] E0 (tCons (tOp qAdd (tOp (rIxL K) (tVar 5) (tOp qMod (tOp qAdd (tVar 7) (tVar 1)) (tCB (qLen K) (tCons (tVar 5) tNil)))) (tOp qMul (tC (.int 7)) (tVar 7))) (tCons (tOp qAdd (tVar 7) (tVar 1)) (tCons (tVar 6) tNil)))) (tC (.int 3))) (gName 8))
      (tDrop (tBM K "list" qInsert (tVar 4) (tCons (tOp qMod (tVar 8) (tOp qAdd (tVar 7) (tC (.int 1)))) (tCons (tOp qAdd (tVar 7) (tC (.int 1))) tNil))))))
    (tSeq (tPar 10 11 (tCons (tLc (iRng1 (tCons (tOp qAdd (tCB (qLen K) (tCons (tVar 3) tNil)) (tC (.int 1))) tNil)) (gName 9) tYes (tLst tNil) [9]) (tCons (tOp rCat (tLst (tCons (tC (.int 0)) tNil)) (tVar 4)) tNil)))
    (tSeq (tFor (iEnum K (tCons (tVar 3) tNil)) (gTup K 2 (gCons (gName 7) (gCons (gName 12) gNil)))
    (tSeq (tAsg (tOp (rIxL K) (tVar 10) (tOp (rIxL K) (tVar 11) (tVar 12))) (gName 13))
      (tDrop (tBM K "list" qInsert (tVar 13) (tCons (tOp qMod (tOp qDiv (tCall sp__law_number [] E0 (tCons (tVar 6) (tCons (tVar 7) (tCons (tC (.int 5)) tNil)))) (tC (.int 7))) (tOp qAdd (tCB (qLen K) (tCons (tVar 13) tNil)) (tC (.int 1)))) (tCons (tOp (rIxL K) (tVar 11) (tOp qAdd (tVar 7) (tC (.int 1)))) tNil))))))
    (tRet (tVar 10))))))))
theorem ixN_nat {n i : Nat} (h : i < n) : ixN n (i : Int) = some i := by
  unfold ixN
  rw [if_pos (by omega), if_pos (by omega)]
  simp
theorem set_getD (rows : List (List Int)) : rows = rows := rfl
theorem v__law_orders {K : PySem.W.Frag} {vs : List V} {H : Hp} {Q : VK} {E : XK} (h : sp__law_orders K vs H Q E) : t__law_orders K (fin Q) (st0 14 vs) H := by
  refine v_of (n := 14) (fun ⟨ns, b, most⟩ ⟨b0, b1, m0, m1⟩ => ?_) h
  have b0 : 0 ≤ b := b0
  have b1 : b ≤ 1000 := b1
  have m0 : 0 < most := m0
  have m1 : most ≤ 1000 := m1
  show Wp (t__law_orders K) [some (Sq K ns), some (Fz b), some (Fz most), none, none, none, none, none, none, none, none, none, none, none] (Rt (OwL ((ordersM ns b most).map Ow)))
  have hul := upsM_len ns b m0
  have huo := upsM_ok ns b most
  refine wq_parO (B := Ow ([] : List Int)) (ev_fr (ev_ups rfl (by decreasing_trivial) (by decreasing_trivial) ⟨b0, b1, m0, m1⟩)) ev_nil ?_
  generalize hus : upsM ns b most = us at hul huo
  have hoe : ordersM ns b most = ordersOf us (knownM ns b us.length) (wholeM ns b) := by unfold ordersM; rw [hus]
  refine wq_asg (ev_fr (ev_cells rfl)) ?_
  refine wq_asg (a := wholeM ns b) (ev_eq (by decreasing_trivial) (by rfl)) ?_
  refine wp_seq (wp_for (xs := rangeI 0 us.length) (by decreasing_trivial) bd_n (fun i Γ => ∃ x y, Γ = [some (Sq K ns), some (Fz b), some (Fz most), some (Fz us), some (Ow (namesM ns b i)), some (Fz (cellsM ns)), some (Fz (wholeM ns b)), x, y, none, none, none, none, none]) (by exact ⟨_, _, rfl⟩) ?_ ?_)
  · rintro i a Γ ha ⟨x, y, rfl⟩
    have hil := lt_of_get ha
    rw [rangeI_len] at hil
    rw [rangeI_get hil] at ha
    have ha : a = (i : Int) := by have := Option.some.inj ha; omega
    subst ha
    have hcl := cellsM_ne ns
    have hidx : 0 ≤ ((i : Int) + b) % ((cellsM ns).length : Int) ∧ ((i : Int) + b) % ((cellsM ns).length : Int) < (cellsM ns).length := ⟨Int.emod_nonneg _ (by omega), Int.emod_lt_of_pos _ (by omega)⟩
    have hmul : CMul 7 (i : Int) := .inl ⟨by omega, by omega⟩
    have hd3 : CDiv (numberM ((cellsM ns).getD (((i : Int) + b) % (cellsM ns).length).toNat 0 + 7 * (i : Int)) ((i : Int) + b) (wholeM ns b)) 3 := ⟨by decide, by decide⟩
    have hab : 0 ≤ (i : Int) + b ∧ (i : Int) + b ≤ 1000000 := by omega
    have hl0 : 0 < ((cellsM ns).length : Int) := by omega
    refine wq_asg (a := namN ns b i) (ev_div (ev_num (ev_add (ev_ix (by decreasing_trivial) (ev_mod (by decreasing_trivial) (by decreasing_trivial) hl0) (atI_getD _ _ 0 hidx)) (ev_mul (by decreasing_trivial) (by decreasing_trivial) hmul)) (by decreasing_trivial) (by decreasing_trivial) hab) (by decreasing_trivial) hd3) ?_
    have hp0 : 0 < (i : Int) + 1 := by omega
    have k1 : 0 ≤ namN ns b i % ((i : Int) + 1) := Int.emod_nonneg _ (by omega)
    have k2 : namN ns b i % ((i : Int) + 1) < 2 ^ 63 := by
      have := Int.emod_lt_of_pos (namN ns b i) hp0
      omega
    exact wp_ins rfl (ev_mod (by decreasing_trivial) (by decreasing_trivial) hp0) (by decreasing_trivial) rfl (by rw [namesM_len]; omega) k1 k2 ⟨_, _, rfl⟩
  rintro Γ ⟨x, y, rfl⟩
  rw [rangeI_len, show ((us.length : Int) - 0).toNat = us.length by omega]
  have ec : Ev (tLc (iRng1 (tCons (tOp qAdd (tCB (qLen K) (tCons (tVar 3) tNil)) (tC (.int 1))) tNil)) (gName 9) tYes (tLst tNil) [9]) [some (Sq K ns), some (Fz b), some (Fz most), some (Fz us), some (Ow (namesM ns b us.length)), some (Fz (cellsM ns)), some (Fz (wholeM ns b)), x, y, none, none, none, none, none] [some (Sq K ns), some (Fz b), some (Fz most), some (Fz us), some (Ow (namesM ns b us.length)), some (Fz (cellsM ns)), some (Fz (wholeM ns b)), x, y, none, none, none, none, none] (OwL ((List.replicate (us.length + 1) ([] : List Int)).map Ow)) := by
    have := ev_mapO (te := tLst tNil) (g := gName 9) (ws := [9]) (xs := rangeI 0 ((us.length : Int) + 1)) (fun _ : Int => ([] : List Int)) (wi := iRng1 (tCons (tOp qAdd (tCB (qLen K) (tCons (tVar 3) tNil)) (tC (.int 1))) tNil)) (Γ := [some (Sq K ns), some (Fz b), some (Fz most), some (Fz us), some (Ow (namesM ns b us.length)), some (Fz (cellsM ns)), some (Fz (wholeM ns b)), x, y, none, none, none, none, none]) (by decreasing_trivial) (by decreasing_trivial) bd_n (by rw [rangeI_len]; omega) fun a ha => ⟨_, ev_nil⟩
    rw [show (rangeI 0 ((us.length : Int) + 1)).map (fun _ : Int => ([] : List Int)) = List.replicate (us.length + 1) [] by
      rw [List.map_const', rangeI_len]
      congr 1] at this
    exact this
  have hkl := knownM_len ns b us.length
  have hnl := namesM_len ns b us.length
  refine wq_parO (A := OwL ((List.replicate (us.length + 1) ([] : List Int)).map Ow)) (B := Fz (knownM ns b us.length)) ec (ev_eq (ev_fr (ev_cat (by decreasing_trivial) (ev_fr (ev_mv rfl)) (by simp; omega))) (by rfl)) ?_
  generalize hkn : knownM ns b us.length = known at hkl hoe
  have hkp : known.Perm (people (us.length + 1)) := by rw [← hkn]; exact knownM_perm ns b us.length
  generalize hww : wholeM ns b = w at hoe
  refine wp_seq (wp_for (xs := enumI us) (by decreasing_trivial) bd_2 (fun i Γ => ∃ x y z, Γ = [some (Sq K ns), some (Fz b), some (Fz most), some (Fz us), none, some (Fz (cellsM ns)), some (Fz w), x, y, none, some (OwL ((ordR us known w (us.length + 1) i).map Ow)), some (Fz known), z, none]) (by exact ⟨_, _, _, rfl⟩) ?_ ?_)
  · rintro i ⟨a, up⟩ Γ ha ⟨x, y, z, rfl⟩
    have hil := lt_of_get ha
    rw [enumI_len] at hil
    rw [enumI_get (get_some hil)] at ha
    have ha := Option.some.inj ha
    have ha1 : a = (i : Int) := (congrArg Prod.fst ha).symm
    have ha2 : up = us[i] := (congrArg Prod.snd ha).symm
    subst ha1
    obtain ⟨u, p, q, e1, e2, e3, e4, e5, e6, e7⟩ := ord_idx huo hkp hil
    have eu : us.getD i 0 = us[i] := by simp [hil]
    rw [eu, ← ha2] at e1
    subst e1
    have hrl := ordR_len us known w (us.length + 1) i
    have hrow : (ordR us known w (us.length + 1) i)[p]? = some ((ordR us known w (us.length + 1) i).getD p []) := by
      rw [List.getD_eq_getElem?_getD, List.getElem?_eq_getElem (by rw [hrl]; exact e4)]; rfl
    generalize hrr : (ordR us known w (us.length + 1) i).getD p [] = row at hrow
    have hrlen : row.length ≤ 1000 := by
      have h1 := (ordR_inv (w := w) huo hkp i (by omega)).1.length_eq
      have h2 : row.length ≤ (ordR us known w (us.length + 1) i).flatten.length := by
        have := List.sublist_flatten_of_mem (List.mem_of_getElem? hrow)
        exact this.length_le
      rw [List.length_take, List.length_drop] at h1
      omega
    have hp0 : 0 < (row.length : Int) + 1 := by omega
    have hd7 : CDiv (numberM w i 5) 7 := ⟨by decide, by decide⟩
    have k1 : 0 ≤ ordPos w i row.length := Int.emod_nonneg _ (by omega)
    have k2 : ordPos w i row.length < 2 ^ 63 := by
      have := Int.emod_lt_of_pos (numberM w i 5 / 7) hp0
      unfold ordPos
      omega
    have eo : ordR us known w (us.length + 1) (i + 1) = (ordR us known w (us.length + 1) i).set p (row.take (ordPos w i row.length).toNat ++ [(q : Int)] ++ row.drop (ordPos w i row.length).toNat) := by
      rw [ordR, e6, e7]
      simp only [Int.toNat_natCast]
      rw [hrr]
      rfl
    have hi0 : (0 : Int) ≤ i ∧ (i : Int) ≤ 1000000 := by omega
    have hq : atI known ((i : Int) + 1) = some (q : Int) := by
      have := atI_nat (j := i + 1) e5
      simpa using this
    have hp : atI known (u : Int) = some (p : Int) := atI_nat e3
    have fo : Fo (tOp (rIxL K) (tVar 10) (tOp (rIxL K) (tVar 11) (tVar 12))) [some (Sq K ns), some (Fz b), some (Fz most), some (Fz us), none, some (Fz (cellsM ns)), some (Fz w), some (Fz (i : Int)), y, none, some (OwL ((ordR us known w (us.length + 1) i).map Ow)), some (Fz known), some (Fz (u : Int)), none] 10 (Ow row) (fun B' => id (OwL (((ordR us known w (us.length + 1) i).map Ow).set p B'))) := by
      refine fo_ixV (fo_var rfl) (k := (p : Int)) (fun Hs G σ H F X Cs I => ?_) (by rw [List.length_map, hrl]; exact ixN_nat e4) (by rw [List.getElem?_map, hrow]; rfl)
      exact va_ixF rfl rfl hp I
    have brw : Brw [some (Sq K ns), some (Fz b), some (Fz most), some (Fz us), none, some (Fz (cellsM ns)), some (Fz w), some (Fz (i : Int)), y, none, some (OwL ((ordR us known w (us.length + 1) i).map Ow)), some (Fz known), some (Fz (u : Int)), none] [none, none, none, none, none, none, some (Fz w), some (Fz (i : Int)), none, none, none, some (Fz known), none, none] :=
      .no _ (.no _ (.no _ (.no _ (.no _ (.no _ (.so cv_fz (.so cv_fz (.no _ (.no _ (.no _ (.so cv_fz (.no _ (.no _ .nil)))))))))))))
    refine wp_insR (j := 13) fo (by simp) brw (k := ordPos w i row.length) (a := (q : Int)) (ev_mod (ev_div (by decreasing_trivial) (by decreasing_trivial) hd7) (by decreasing_trivial) hp0) (ev_ix (by decreasing_trivial) (by decreasing_trivial) hq) (by omega) k1 k2 ⟨_, _, _, by rw [eo, List.map_set]; rfl⟩
  · rintro Γ ⟨x, y, z, rfl⟩
    rw [enumI_len, hoe]
    exact wr (ev_mv rfl)
theorem ev_orders {K : PySem.W.Frag} {ns : List Int} {Γ : Env} {ta tb : TE} {b most : Int} (e : Γ[0]? = some (some (Sq K ns))) (ha : Ev ta Γ Γ (Fz b)) (hb : Ev tb Γ Γ (Fz most)) (h : 0 ≤ b ∧ b ≤ 1000 ∧ 0 < most ∧ most ≤ 1000) : Ev (tCall (sp__law_orders K) [] E0 (tCons (tVar 0) (tCons ta (tCons tb tNil)))) Γ Γ (OwL ((ordersM ns b most).map Ow)) :=
  ev_call (i := (ns, b, most)) (ea_3 (ev_same e fr_sq) ha hb) ⟨h.1, h.2.1, h.2.2.1, h.2.2.2⟩ (.so fr_sq (.so fr_fz (.so fr_fz .nil)))
end Cc

namespace Cc
open PySem L2
/-! the laws' own walk: the newly told ones are put in behind the turn -/
def lstep (os : List (List Int)) (absent : List Int) (st : List Tri × Nw × Nw) (c : Int) : List Tri × Nw × Nw :=
  if rowAt st.2.1 c = [] then st else
    (st.1 ++ [⟨c, nextM st.2.1 c, decide (nextM st.2.1 c ∉ absent)⟩],
      if nextM st.2.1 c ∈ absent then gPut st.2.1 c (rowO os (nextM st.2.1 c) ++ (rowAt st.2.1 c).tail) else gPut st.2.1 c (rowAt st.2.1 c).tail,
      if nextM st.2.1 c ∈ absent then st.2.2 else gPut st.2.2 (nextM st.2.1 c) (rowO os (nextM st.2.1 c)))
theorem gVal_app {α : Type} {N M : List (Int × α)} {c : Int} (h : c ∈ N.map (·.1)) : gVal (N ++ M) c = gVal N c := by
  induction N with
  | nil => cases h
  | cons e N ih =>
    rw [List.cons_append, gVal_cons, gVal_cons]
    by_cases g : e.1 = c
    · rw [if_pos g, if_pos g]
    · rw [if_neg g, if_neg g]
      refine ih ?_
      rcases List.mem_cons.mp h with z | z
      · exact absurd z.symm g
      · exact z
theorem gPut_app {α : Type} {N M : List (Int × α)} {c : Int} {r : α} (h : c ∈ N.map (·.1)) (h2 : c ∉ M.map (·.1)) : gPut (N ++ M) c r = gPut N c r ++ M := by
  have a1 : (N.any fun e => decide (e.1 = c)) = true := by
    rw [List.any_eq_true]
    obtain ⟨x, h1, h2⟩ := List.mem_map.mp h
    exact ⟨x, h1, decide_eq_true h2⟩
  unfold gPut
  rw [if_pos a1, if_pos (by rw [List.any_append, a1]; rfl), List.map_append]
  congr 1
  conv => rhs; rw [← List.map_id M]
  refine List.map_congr_left fun x hx => ?_
  rw [if_neg fun z => h2 (List.mem_map.mpr ⟨x, hx, z⟩)]
  rfl
theorem gPut_keysN {α : Type} {N : List (Int × α)} {c : Int} {r : α} (h : c ∈ N.map (·.1)) : (gPut N c r).map (·.1) = N.map (·.1) := by rw [gPut_keys, if_pos h]
section
variable {os : List (List Int)} {absent : List Int}
theorem lgo (O : OrdG os) : ∀ (pre : List Int) (Nl M : Nw) (T : List Tri) (K : List Int), WInv os (Nl ++ M) K → pre.Nodup → (∀ c ∈ pre, c ∈ Nl.map (·.1)) →
    (pre.foldl (lstep os absent) (T, Nl, M)).1 = T ++ (turnGo os absent (pre.filter fun c => decide (rowAt Nl c ≠ [])) (Nl ++ M)).1 ∧
    (pre.foldl (lstep os absent) (T, Nl, M)).2.1 ++ (pre.foldl (lstep os absent) (T, Nl, M)).2.2 = (turnGo os absent (pre.filter fun c => decide (rowAt Nl c ≠ [])) (Nl ++ M)).2 ∧
    (pre.foldl (lstep os absent) (T, Nl, M)).2.1.map (·.1) = Nl.map (·.1) ∧ ∃ K', WInv os ((pre.foldl (lstep os absent) (T, Nl, M)).2.1 ++ (pre.foldl (lstep os absent) (T, Nl, M)).2.2) K'
  | [], Nl, M, T, K, W, _, _ => ⟨by simp [turnGo], by simp [turnGo], rfl, K, W⟩
  | c :: pre, Nl, M, T, K, W, hnd, hin => by
    rw [List.nodup_cons] at hnd
    have hc := hin c List.mem_cons_self
    have hin' : ∀ x ∈ pre, x ∈ Nl.map (·.1) := fun x hx => hin x (List.mem_cons_of_mem _ hx)
    have hkn := W.keys
    rw [List.map_append, List.nodup_append] at hkn
    have hcM : c ∉ M.map (·.1) := fun z => hkn.2.2 c hc c z rfl
    rw [List.foldl_cons]
    obtain ⟨r, hr⟩ := gVal_some hc
    have er := rowAt_gv hr
    cases r with
    | nil =>
      have e1 : lstep os absent (T, Nl, M) c = (T, Nl, M) := by unfold lstep; rw [if_pos er]
      rw [e1, List.filter_cons, if_neg (by simp [er])]
      exact lgo O pre Nl M T K W hnd.2 hin'
    | cons n rest =>
      have hg : gVal (Nl ++ M) c = some (n :: rest) := by rw [gVal_app hc]; exact hr
      obtain ⟨hn, hp, _⟩ := W.next O hg
      have hnk : n ∉ (Nl ++ M).map (·.1) := fun z => hn (W.sub n z)
      have hnl : n ∉ Nl.map (·.1) := fun z => hnk (by rw [List.map_append]; exact List.mem_append_left _ z)
      have hnm : n ∉ M.map (·.1) := fun z => hnk (by rw [List.map_append]; exact List.mem_append_right _ z)
      have en : nextM Nl c = n := by unfold nextM; rw [er]; rfl
      have en2 : nextM (Nl ++ M) c = n := by unfold nextM; rw [rowAt_gv hg]; rfl
      have ht : (rowAt Nl c).tail = rest := by rw [er]; rfl
      generalize hb : decide (n ∉ absent) = b
      have W' := W.call O hg b
      -- the step
      have key : ∃ Nl' M', lstep os absent (T, Nl, M) c = (T ++ [⟨c, n, b⟩], Nl', M') ∧ callM os (Nl ++ M) c b = Nl' ++ M' ∧ Nl'.map (·.1) = Nl.map (·.1) ∧ ∀ c', c' ≠ c → gVal Nl' c' = gVal Nl c' := by
        rw [callM_eq hg]
        unfold lstep
        rw [if_neg (show ¬ rowAt Nl c = [] from by rw [er]; exact fun z => by cases z)]
        simp only [en, ht]
        cases b with
        | true =>
          have hna : n ∉ absent := of_decide_eq_true hb
          rw [if_neg hna, if_neg hna, if_pos rfl, hb]
          refine ⟨gPut Nl c rest, gPut M n (rowO os n), rfl, ?_, gPut_keysN hc, fun c' h => by rw [gVal_put, if_neg h]⟩
          rw [gPut_app hc hcM, gPut_out (by rw [List.map_append, gPut_keysN hc, ← List.map_append]; exact hnk), gPut_out hnm, List.append_assoc]
        | false =>
          have hna : n ∈ absent := by
            have := of_decide_eq_false hb
            exact Decidable.byContradiction this
          rw [if_pos hna, if_pos hna, if_neg (by decide), hb]
          exact ⟨gPut Nl c (rowO os n ++ rest), M, rfl, gPut_app hc hcM, gPut_keysN hc, fun c' h => by rw [gVal_put, if_neg h]⟩
      obtain ⟨Nl', M', k1, k2, k3, k4⟩ := key
      rw [k1]
      rw [k2] at W'
      have ih := lgo O pre Nl' M' (T ++ [⟨c, n, b⟩]) (K ++ [n]) W' hnd.2 (fun x hx => by rw [k3]; exact hin' x hx)
      have ef : (pre.filter fun c => decide (rowAt Nl' c ≠ [])) = pre.filter fun c => decide (rowAt Nl c ≠ []) := by
        refine List.filter_congr fun x hx => ?_
        have : rowAt Nl' x = rowAt Nl x := by unfold rowAt; rw [k4 x fun e => hnd.1 (e ▸ hx)]
        rw [this]
      rw [ef] at ih
      have et : turnGo os absent ((c :: pre).filter fun c => decide (rowAt Nl c ≠ [])) (Nl ++ M) = (⟨c, n, b⟩ :: (turnGo os absent (pre.filter fun c => decide (rowAt Nl c ≠ [])) (Nl' ++ M')).1, (turnGo os absent (pre.filter fun c => decide (rowAt Nl c ≠ [])) (Nl' ++ M')).2) := by
        rw [List.filter_cons, if_pos (by simp [er]), turnGo, en2, hb, k2]
      rw [et]
      refine ⟨?_, ih.2.1, ih.2.2.1.trans k3, ih.2.2.2⟩
      rw [ih.1]
      simp
theorem mergeD_out {M : Nw} : ∀ {N : Nw}, ((N ++ M).map (·.1)).Nodup → mergeD N M = N ++ M := by
  induction M with
  | nil => intro N _; simp [mergeD]
  | cons e M ih =>
    intro N h
    show mergeD (gPut N e.1 e.2) M = _
    have h2 := h
    rw [List.map_append, List.nodup_append] at h2
    rw [gPut_out (fun z => h2.2.2 e.1 z e.1 (by rw [List.map_cons]; exact List.mem_cons_self) rfl), ih (by rw [List.append_assoc]; exact h), List.append_assoc]
    rfl
/-- a turn of the law's walk -/
def lturn (os : List (List Int)) (absent : List Int) (N : Nw) (k : Nat) : List Tri × Nw × Nw := ((sortI (N.map (·.1))).take k).foldl (lstep os absent) ([], N, [])
theorem lturn_succ {N : Nw} {k : Nat} {c : Int} (h : (sortI (N.map (·.1)))[k]? = some c) : lturn os absent N (k + 1) = lstep os absent (lturn os absent N k) c := by
  unfold lturn
  rw [List.take_add_one, h, List.foldl_append]
  rfl
theorem lturn_ok (O : OrdG os) {N : Nw} {K : List Int} (W : WInv os N K) (k : Nat) : (lturn os absent N k).2.1.map (·.1) = N.map (·.1) ∧ ∃ K', WInv os ((lturn os absent N k).2.1 ++ (lturn os absent N k).2.2) K' := by
  have hnd : (sortI (N.map (·.1))).Nodup := (sortI_perm _).nodup_iff.mpr W.keys
  have := lgo (absent := absent) O ((sortI (N.map (·.1))).take k) N [] [] K (by rw [List.append_nil]; exact W) ((List.take_sublist _ _).nodup hnd) fun c hc => (sortI_perm _).mem_iff.mp (List.mem_of_mem_take hc)
  exact ⟨this.2.2.1, this.2.2.2⟩
theorem lturn_all (O : OrdG os) {N : Nw} {K : List Int} (W : WInv os N K) : (lturn os absent N N.length).1 = (turnGo os absent (callersM N) N).1 ∧ mergeD (lturn os absent N N.length).2.1 (lturn os absent N N.length).2.2 = (turnGo os absent (callersM N) N).2 := by
  have hnd : (sortI (N.map (·.1))).Nodup := (sortI_perm _).nodup_iff.mpr W.keys
  have hl : (sortI (N.map (·.1))).take N.length = sortI (N.map (·.1)) := List.take_of_length_le (by rw [sortI_len, List.length_map]; exact Nat.le_refl _)
  have := lgo (absent := absent) O (sortI (N.map (·.1))) N [] [] K (by rw [List.append_nil]; exact W) hnd fun c hc => (sortI_perm _).mem_iff.mp hc
  unfold lturn
  rw [hl]
  rw [List.append_nil] at this
  obtain ⟨h1, h2, h3, K', W'⟩ := this
  refine ⟨h1, ?_⟩
  rw [mergeD_out W'.keys]
  exact h2
end
end Cc

namespace Cc
open PySem L2
local macro_rules | `(tactic| decreasing_trivial) => `(tactic| first | (with_reducible exact ev_int) | (with_reducible exact ev_bl) | ((with_reducible apply ev_var) <;> rfl) | (with_reducible exact ea_nil) | (with_reducible exact Es.nil) | (with_reducible exact Kp.nil) | (with_reducible apply ev_non) | ((with_reducible apply ev_add) <;> decreasing_trivial) | ((with_reducible apply ev_sub) <;> decreasing_trivial) | ((with_reducible apply ev_mod) <;> decreasing_trivial) | ((with_reducible apply ev_div) <;> decreasing_trivial) | ((with_reducible apply ev_mul) <;> decreasing_trivial) | ((with_reducible apply ev_pow) <;> decreasing_trivial) | ((with_reducible apply ev_lt) <;> decreasing_trivial) | ((with_reducible apply ev_le) <;> decreasing_trivial) | ((with_reducible apply ev_gt) <;> decreasing_trivial) | ((with_reducible apply ev_ge) <;> decreasing_trivial) | ((with_reducible apply ev_eqS) <;> decreasing_trivial) | ((with_reducible apply ev_neS) <;> decreasing_trivial) | ((with_reducible apply ev_isB) <;> decreasing_trivial) | ((with_reducible apply ev_notB) <;> decreasing_trivial) | ((with_reducible apply ev_neg) <;> decreasing_trivial) | ((with_reducible apply ev_not) <;> decreasing_trivial) | ((with_reducible apply ev_len) <;> decreasing_trivial) | ((with_reducible apply ev_sum) <;> decreasing_trivial) | ((with_reducible apply ev_ixD) <;> decreasing_trivial) | ((with_reducible apply ev_ixT0) <;> decreasing_trivial) | ((with_reducible apply ev_ixT1) <;> decreasing_trivial) | ((with_reducible apply ev_ixT2) <;> decreasing_trivial) | ((with_reducible apply ev_ixP0) <;> decreasing_trivial) | ((with_reducible apply ev_ixP1) <;> decreasing_trivial) | ((with_reducible apply ev_ixDT) <;> decreasing_trivial) | ((with_reducible apply ev_fr; with_reducible apply ev_cat) <;> decreasing_trivial) | ((with_reducible apply ev_fr; with_reducible apply ev_list) <;> decreasing_trivial) | ((with_reducible apply ev_fr; with_reducible apply ev_sorted) <;> decreasing_trivial) | ((with_reducible apply ev_fr; with_reducible apply ev_slH) <;> decreasing_trivial) | ((with_reducible apply ev_fr; with_reducible apply ev_slL) <;> decreasing_trivial) | ((with_reducible apply ev_fr; with_reducible apply ev_rev) <;> decreasing_trivial) | (with_reducible apply ev_fr; with_reducible exact ev_nil) | ((with_reducible apply ev_fr; with_reducible apply ev_ls) <;> decreasing_trivial) | ((with_reducible apply Es.cons) <;> decreasing_trivial) | ((with_reducible apply ev_in) <;> decreasing_trivial) | ((with_reducible apply ev_notin) <;> decreasing_trivial) | ((with_reducible apply ev_max2) <;> decreasing_trivial) | ((with_reducible apply ev_min2) <;> decreasing_trivial) | ((with_reducible apply ev_eqD) <;> decreasing_trivial) | ((with_reducible apply ev_neD) <;> decreasing_trivial) | ((with_reducible apply ev_all) <;> decreasing_trivial) | ((with_reducible apply ev_any) <;> decreasing_trivial) | ((with_reducible apply ev_fr; with_reducible apply ev_rg1) <;> decreasing_trivial) | ((with_reducible apply ev_fr; with_reducible apply ev_rg2) <;> decreasing_trivial) | ((with_reducible apply ev_p2) <;> decreasing_trivial) | ((with_reducible apply ev_t3) <;> decreasing_trivial) | ((with_reducible apply ev_tp) <;> decreasing_trivial) | ((with_reducible apply et_tt) <;> decreasing_trivial) | ((with_reducible apply et_b) <;> decreasing_trivial) | ((with_reducible apply et_not) <;> decreasing_trivial) | ((with_reducible apply et_or) <;> decreasing_trivial) | ((with_reducible apply et_and) <;> decreasing_trivial) | ((with_reducible apply ev_andV) <;> decreasing_trivial) | ((with_reducible apply ev_orV) <;> decreasing_trivial) | ((with_reducible apply ev_chLL) <;> decreasing_trivial) | ((with_reducible apply ev_chll) <;> decreasing_trivial) | ((with_reducible apply is_list) <;> decreasing_trivial) | ((with_reducible apply is_tup) <;> decreasing_trivial) | ((with_reducible apply is_rng1) <;> decreasing_trivial) | ((with_reducible apply is_rng2) <;> decreasing_trivial) | ((with_reducible apply is_enum) <;> decreasing_trivial) | ((with_reducible apply is_zip) <;> decreasing_trivial) | ((with_reducible apply ea_1) <;> decreasing_trivial) | ((with_reducible apply ea_2) <;> decreasing_trivial) | ((with_reducible apply ea_3) <;> decreasing_trivial) | ((with_reducible apply ev_dg) <;> decreasing_trivial) | ((with_reducible apply ev_dg1) <;> decreasing_trivial) | ((with_reducible apply ev_fr; with_reducible apply ev_listD) <;> decreasing_trivial) | ((with_reducible apply ev_isi) <;> decreasing_trivial) | ((with_reducible apply ev_whole) <;> decreasing_trivial) | ((with_reducible apply ev_betw) <;> decreasing_trivial) | ((with_reducible apply ev_num) <;> decreasing_trivial) | ((with_reducible apply Kp.so fr_fz) <;> decreasing_trivial) | ((with_reducible apply Kp.no) <;> decreasing_trivial) | (intro (_ : (_ : Bool) = _); decreasing_trivial) | (infer_instance) | (rfl) | (omega) | (decide) | (simp; done) | (skip))
/-! _law_walk -/
def sp__law_walk : Sp := spG (fun i : List (List Int) × List Int => OrdG i.1 ∧ i.1.length ≤ 1000) (fun i => [Fz i.1, Fz i.2]) (fun i => Ow (walkM i.1 i.2))
def t__law_walk (K : PySem.W.Frag) : TS :=
(tSeq (tPar 2 3 (tCons (tDisp (((tC (.int 0)), (tCB (qList K) (tCons (tOp (rIxL K) (tVar 0) (tC (.int 0))) tNil))) :: [])) (tCons (tLst tNil) tNil)))
    (tWhile (tB (tC (.bl true)))
    (tSeq (tPar 4 5 (tCons (tLst tNil) (tCons tDNewK tNil)))
      (tSeq (tFor (iList K (tCB (rSortedI K) (tCons (tCB qListD (tCons (tVar 2) tNil)) tNil))) (gName 6)
      (tIfS (tTest (tOp (rNeD K) (tDGet (tVar 2) (tVar 6)) (tLst tNil)))
        (tSeq (tAsg (tOp (rIxL K) (tDGet (tVar 2) (tVar 6)) (tC (.int 0))) (gName 7))
          (tSeq (tDrop (tBM K "list" rAppend (tVar 4) (tCons (tTup (tCons (tVar 6) (tCons (tVar 7) (tCons (tOp (rIn K true) (tVar 7) (tVar 1)) tNil)))) tNil)))
          (tIfS (tTest (tOp (rIn K false) (tVar 7) (tVar 1)))
          (sDPut (tVar 2) (tVar 6) (tOp rCat (tCB (qList K) (tCons (tOp (rIxL K) (tVar 0) (tVar 7)) tNil)) (L2.tSl (rSlL K) (tDGet (tVar 2) (tVar 6)) (tPart (tC (.int 1))) tNoPart)))
          (tSeq (sDPut (tVar 2) (tVar 6) (L2.tSl (rSlL K) (tDGet (tVar 2) (tVar 6)) (tPart (tC (.int 1))) tNoPart))
            (sDPut (tVar 5) (tVar 7) (tCB (qList K) (tCons (tOp (rIxL K) (tVar 0) (tVar 7)) tNil)))))))
        tNext))
      (tSeq (tIfS (tTest (tOp (rEqD K) (tVar 4) (tLst tNil)))
      (tRet (tVar 3))
      tNext)
      (tSeq (tDrop (tBM K "list" rAppend (tVar 3) (tCons (tVar 4) tNil)))
      (tLock (tFor (iKeys (tVar 5)) (gName 7)
      (sDPut (tVar 2) (tVar 7) (tDGet (tVar 5) (tVar 7)))))))))))
theorem lstep_len {os : List (List Int)} {absent : List Int} (st : List Tri × Nw × Nw) (c : Int) : (lstep os absent st c).1.length ≤ st.1.length + 1 ∧ (lstep os absent st c).2.2.length ≤ st.2.2.length + 1 := by
  unfold lstep
  split
  · exact ⟨by omega, by omega⟩
  · refine ⟨by simp, ?_⟩
    show (if _ then _ else _ : Nw).length ≤ _
    split
    · omega
    · exact gPut_len _ _ _
theorem lturn_len {os : List (List Int)} {absent : List Int} {N : Nw} : ∀ k, (lturn os absent N k).1.length ≤ k ∧ (lturn os absent N k).2.2.length ≤ k
  | 0 => by simp [lturn]
  | k + 1 => by
    have ih := lturn_len (os := os) (absent := absent) (N := N) k
    cases h : (sortI (N.map (·.1)))[k]? with
    | none =>
      unfold lturn at ih ⊢
      rw [List.take_add_one, h]
      simp only [Option.toList, List.append_nil]
      omega
    | some c =>
      rw [lturn_succ h]
      have := lstep_len (os := os) (absent := absent) (lturn os absent N k) c
      omega
theorem v__law_walk {K : PySem.W.Frag} {vs : List V} {H : Hp} {Q : VK} {E : XK} (h : sp__law_walk vs H Q E) : t__law_walk K (fin Q) (st0 8 vs) H := by
  refine v_of (n := 8) (fun ⟨os, absent⟩ ⟨O, hl⟩ => ?_) h
  have O : OrdG os := O
  have hl : os.length ≤ 1000 := hl
  have hp := O.pos
  show Wp (t__law_walk K) [some (Fz os), some (Fz absent), none, none, none, none, none, none] (Rt (Ow (walkM os absent)))
  have h00 : atI os 0 = some (rowO os 0) := atI_getD os 0 [] (by omega)
  refine wq_parO (A := OwD [((0 : Int), rowO os 0)]) (B := Ow ([] : List (List Tri))) (ev_disp1 ev_int (ev_fr (ev_list (ev_ix (by decreasing_trivial) (by decreasing_trivial) h00)))) ev_nil ?_
  refine wp_while (fun m Γ => ∃ (N : Nw) (C : List Int) (ts : List (List Tri)) (f : Nat) (x4 x5 x6 x7 : Option As), WInv os N (0 :: C) ∧ m = os.length - C.length ∧ os.length ≤ C.length + 1 + f ∧ walkM os absent = ts ++ walkF os absent f N ∧ ts.length ≤ C.length ∧
    Γ = [some (Fz os), some (Fz absent), some (OwD N), some (Ow ts), x4, x5, x6, x7]) os.length ⟨[(0, rowO os 0)], [], [], os.length, _, _, _, _, WInv.start O, rfl, by simp, rfl, by simp, rfl⟩ ?_
  rintro m Γ ⟨N, C, ts, f, x4, x5, x6, x7, W, rfl, hf, hw, htl, rfl⟩
  refine ⟨true, _, et_b ev_bl, fun _ => ?_, fun z => by cases z⟩
  have hkl := W.klen
  simp only [List.length_cons] at hkl
  refine wq_parO (A := Ow ([] : List Tri)) (B := OwD ([] : Nw)) ev_nil ev_dnew ?_
  have brw : Brw [some (Fz os), some (Fz absent), some (OwD N), some (Ow ts), some (Ow ([] : List Tri)), some (OwD ([] : Nw)), x6, x7] [none, none, some (Fz (Dc.mk N)), none, none, none, none, none] := .no _ (.no _ (.so cv_owd (.no _ (.no _ (.no _ (.no _ (.no _ .nil)))))))
  have hit : Is (iList K (tCB (rSortedI K) (tCons (tCB qListD (tCons (tVar 2) tNil)) tNil))) [some (Fz os), some (Fz absent), some (OwD N), some (Ow ts), some (Ow ([] : List Tri)), some (OwD ([] : Nw)), x6, x7] [some (Fz os), some (Fz absent), some (OwD N), some (Ow ts), some (Ow ([] : List Tri)), some (OwD ([] : Nw)), x6, x7] (sortI (N.map (·.1))) :=
    is_list (ev_fr (ev_brw brw tpo_ow (ev_sorted (ev_fr (ev_listD (ev_var rfl))))))
  have hsl : (sortI (N.map (·.1))).length = N.length := by rw [sortI_len, List.length_map]
  refine wp_seq (wp_for hit bd_n (fun k Γ => ∃ x6 x7, Γ = [some (Fz os), some (Fz absent), some (OwD (lturn os absent N k).2.1), some (Ow ts), some (Ow (lturn os absent N k).1), some (OwD (lturn os absent N k).2.2), x6, x7]) (by exact ⟨_, _, rfl⟩) ?_ ?_)
  · rintro k c Γ hc ⟨x6, x7, rfl⟩
    obtain ⟨hkeys, K', W'⟩ := lturn_ok (absent := absent) O W k
    have hlt := lturn_len (os := os) (absent := absent) (N := N) k
    have hsu := lturn_succ (os := os) (absent := absent) hc
    have hck : c ∈ (lturn os absent N k).2.1.map (·.1) := by rw [hkeys]; exact (sortI_perm _).mem_iff.mp (List.mem_of_getElem? hc)
    have hkl2 := lt_of_get hc
    rw [hsl] at hkl2
    generalize lturn os absent N k = st at hkeys W' hlt hsu hck
    obtain ⟨T, Nl, M⟩ := st
    have hck : c ∈ Nl.map (·.1) := hck
    have W' : WInv os (Nl ++ M) K' := W'
    have hlt : T.length ≤ k ∧ M.length ≤ k := hlt
    have hNl : Nl.length = N.length := by have := congrArg List.length hkeys; simpa using this
    obtain ⟨r, hr⟩ := gVal_some hck
    rw [hsu]
    refine wp_if (b := !decide (r = [])) (et_tt (ev_neM (ev_dgO rfl (ev_var rfl) rfl hr) (ev_fr ev_nil))) (fun hb => ?_) (fun hb => ?_)
    · cases r with
      | nil => simp at hb
      | cons n rest =>
        have er := rowAt_gv hr
        have en : nextM Nl c = n := by unfold nextM; rw [er]; rfl
        have hg : gVal (Nl ++ M) c = some (n :: rest) := by rw [gVal_app hck]; exact hr
        obtain ⟨hn, hpn, hlen⟩ := W'.next O hg
        simp only [List.length_cons] at hlen
        obtain ⟨pn, hp1, hp2⟩ := people_mem.mp hpn
        have hrow : atI os n = some (rowO os n) := atI_getD os n [] (by omega)
        have hrl : (rowO os n).length ≤ 1000 := by
          have := nodup_le (O.row_nodup hpn) (m := people os.length) fun x hx => (O.row_mem hpn hx).1
          rw [people_len] at this
          omega
        refine wq_asg (a := n) (ev_ix (ev_dgO rfl (ev_var rfl) rfl hr) ev_int (atI_nat (j := 0) rfl)) ?_
        refine wp_seq (wp_appF (xs := T) (a := (⟨c, n, decide (n ∉ absent)⟩ : Tri)) rfl (ev_t3 (ev_var rfl) (ev_var rfl) (ev_notin (ev_var rfl) (ev_var rfl))) rfl (by omega) ?_)
        have ecut : cutA (n :: rest) (some 1) none = rest := by
          have := cutA_from (n :: rest) 1
          simpa using this
        have els : lstep os absent (T, Nl, M) c = (T ++ [⟨c, n, decide (n ∉ absent)⟩], if n ∈ absent then gPut Nl c (rowO os n ++ rest) else gPut Nl c rest, if n ∈ absent then M else gPut M n (rowO os n)) := by
          unfold lstep
          rw [if_neg (show ¬ rowAt Nl c = [] from by rw [er]; exact fun z => by cases z)]
          simp only [en]
          rw [er]
          rfl
        rw [els]
        have q1 : Nl.length < 99999 := by omega
        have q2 : M.length < 99999 := by omega
        refine wp_if (b := decide (n ∈ absent)) (et_tt (ev_in (ev_var rfl) (ev_var rfl))) (fun hb2 => ?_) (fun hb2 => ?_)
        · have hb2 := of_decide_eq_true hb2
          refine wp_dput (a := rowO os n ++ rest) (ev_fr (ev_cat (ev_fr (ev_list (ev_ix (ev_var rfl) (ev_var rfl) hrow))) (ev_eq (ev_fr (ev_slL (ev_dgO rfl (ev_var rfl) rfl hr) ev_int)) ecut) (by omega))) rfl (ev_var rfl) rfl q1 ⟨_, _, by rw [if_pos hb2, if_pos hb2]; rfl⟩
        · have hb2 := of_decide_eq_false hb2
          refine wp_seq (wp_dput (a := rest) (ev_eq (ev_fr (ev_slL (ev_dgO rfl (ev_var rfl) rfl hr) ev_int)) ecut) rfl (ev_var rfl) rfl q1 ?_)
          refine wp_dput (a := rowO os n) (ev_fr (ev_list (ev_ix (ev_var rfl) (ev_var rfl) hrow))) rfl (ev_var rfl) rfl q2 ⟨_, _, by rw [if_neg hb2, if_neg hb2]; rfl⟩
    · have hr0 : r = [] := by simpa using hb
      subst hr0
      have els : lstep os absent (T, Nl, M) c = (T, Nl, M) := by unfold lstep; rw [if_pos (rowAt_gv hr)]
      rw [els]
      exact wp_next ⟨_, _, rfl⟩
  rintro Γ ⟨y6, y7, rfl⟩
  rw [hsl]
  obtain ⟨a1, a2⟩ := lturn_all (absent := absent) O W
  obtain ⟨hkeys, K', W'⟩ := lturn_ok (absent := absent) O W N.length
  have hlt := lturn_len (os := os) (absent := absent) (N := N) N.length
  have hNl : (lturn os absent N N.length).2.1.length = N.length := by have := congrArg List.length hkeys; simpa using this
  rw [a1]
  have hnd : ((lturn os absent N N.length).2.2.map (·.1)).Nodup := by
    have := W'.keys
    rw [List.map_append, List.nodup_append] at this
    exact this.2.1
  generalize (lturn os absent N N.length).2.1 = Nl at a2 hNl
  generalize (lturn os absent N N.length).2.2 = M at a2 hlt hnd
  have hbr2 : ∀ T : List Tri, Brw [some (Fz os), some (Fz absent), some (OwD Nl), some (Ow ts), some (Ow T), some (OwD M), y6, y7] [none, none, none, none, some (Fz T), none, none, none] := fun T => .no _ (.no _ (.no _ (.no _ (.so cv_ow (.no _ (.no _ (.no _ .nil)))))))
  refine wq_if (b := decide ((turnGo os absent (callersM N) N).1 = [])) (et_brw (hbr2 _) (et_tt (ev_eqM (ev_var rfl) (ev_fr ev_nil)))) (fun hb => ?_) (fun hb => ?_)
  · have hb := of_decide_eq_true hb
    have hcn : callersM N = [] := by
      have T := turn_callers (absent := absent) O (by omega) W
      rw [← T.callers, hb]
      rfl
    refine wp_ret (ev_mv rfl) ?_
    show Ow ts = Ow (walkM os absent)
    rw [hw]
    cases f with
    | zero => simp [walkF]
    | succ f => rw [walkF, if_pos hcn, List.append_nil]
  · have hb := of_decide_eq_false hb
    have hcn : callersM N ≠ [] := fun z => hb (by rw [z]; rfl)
    refine wp_next ?_
    have T := turn_callers (absent := absent) O (by omega) W
    have hlen := turn_len (absent := absent) O (by omega) W hcn
    refine wp_seq (wp_appF rfl (ev_fr (ev_mv rfl)) rfl (by omega) ?_)
    refine wp_merge (i := 5) (j := 2) (l := 7) (M := M) (N := Nl) rfl rfl (by decide) (by decide) (by decide) hnd (by omega) (by simp) fun x => ?_
    rw [a2]
    have hk2 := T.inv.klen
    rw [List.length_append, List.length_map, List.length_cons] at hk2
    refine ⟨os.length - (C ++ (turnGo os absent (callersM N) N).1.map (·.b)).length, ?_, (turnGo os absent (callersM N) N).2, C ++ (turnGo os absent (callersM N) N).1.map (·.b), ts ++ [(turnGo os absent (callersM N) N).1], f - 1, _, _, _, _, T.inv, rfl, ?_, ?_, ?_, rfl⟩
    · rw [List.length_append, List.length_map]; omega
    · rw [List.length_append, List.length_map]; omega
    · rw [hw, walkF_eq O hl W (by simpa using hf) hcn, List.append_assoc]; rfl
    · rw [List.length_append, List.length_append, List.length_map, List.length_singleton]; omega
theorem ev_lwalk {ta tb : TE} {Γ Γ1 Γ2 : Env} {os : List (List Int)} {absent : List Int} (h : Ev ta Γ Γ1 (Fz os)) (h' : Ev tb Γ1 Γ2 (Fz absent)) (O : OrdG os) (hl : os.length ≤ 1000) : Ev (tCall sp__law_walk [] E0 (tCons ta (tCons tb tNil))) Γ Γ2 (Ow (walkM os absent)) := ev_call (i := (os, absent)) (ea_2 h h') ⟨O, hl⟩
end Cc

namespace Cc
open PySem L2
local macro_rules | `(tactic| decreasing_trivial) => `(tactic| first | (with_reducible exact ev_int) | (with_reducible exact ev_bl) | ((with_reducible apply ev_var) <;> rfl) | (with_reducible exact ea_nil) | (with_reducible exact Es.nil) | (with_reducible exact Kp.nil) | (with_reducible apply ev_non) | ((with_reducible apply ev_add) <;> decreasing_trivial) | ((with_reducible apply ev_sub) <;> decreasing_trivial) | ((with_reducible apply ev_mod) <;> decreasing_trivial) | ((with_reducible apply ev_div) <;> decreasing_trivial) | ((with_reducible apply ev_mul) <;> decreasing_trivial) | ((with_reducible apply ev_pow) <;> decreasing_trivial) | ((with_reducible apply ev_lt) <;> decreasing_trivial) | ((with_reducible apply ev_le) <;> decreasing_trivial) | ((with_reducible apply ev_gt) <;> decreasing_trivial) | ((with_reducible apply ev_ge) <;> decreasing_trivial) | ((with_reducible apply ev_eqS) <;> decreasing_trivial) | ((with_reducible apply ev_neS) <;> decreasing_trivial) | ((with_reducible apply ev_isB) <;> decreasing_trivial) | ((with_reducible apply ev_notB) <;> decreasing_trivial) | ((with_reducible apply ev_neg) <;> decreasing_trivial) | ((with_reducible apply ev_not) <;> decreasing_trivial) | ((with_reducible apply ev_len) <;> decreasing_trivial) | ((with_reducible apply ev_sum) <;> decreasing_trivial) | ((with_reducible apply ev_ixD) <;> decreasing_trivial) | ((with_reducible apply ev_ixT0) <;> decreasing_trivial) | ((with_reducible apply ev_ixT1) <;> decreasing_trivial) | ((with_reducible apply ev_ixT2) <;> decreasing_trivial) | ((with_reducible apply ev_ixP0) <;> decreasing_trivial) | ((with_reducible apply ev_ixP1) <;> decreasing_trivial) | ((with_reducible apply ev_ixDT) <;> decreasing_trivial) | ((with_reducible apply ev_fr; with_reducible apply ev_cat) <;> decreasing_trivial) | ((with_reducible apply ev_fr; with_reducible apply ev_list) <;> decreasing_trivial) | ((with_reducible apply ev_fr; with_reducible apply ev_sorted) <;> decreasing_trivial) | ((with_reducible apply ev_fr; with_reducible apply ev_slH) <;> decreasing_trivial) | ((with_reducible apply ev_fr; with_reducible apply ev_slL) <;> decreasing_trivial) | ((with_reducible apply ev_fr; with_reducible apply ev_rev) <;> decreasing_trivial) | (with_reducible apply ev_fr; with_reducible exact ev_nil) | ((with_reducible apply ev_fr; with_reducible apply ev_ls) <;> decreasing_trivial) | ((with_reducible apply Es.cons) <;> decreasing_trivial) | ((with_reducible apply ev_in) <;> decreasing_trivial) | ((with_reducible apply ev_notin) <;> decreasing_trivial) | ((with_reducible apply ev_max2) <;> decreasing_trivial) | ((with_reducible apply ev_min2) <;> decreasing_trivial) | ((with_reducible apply ev_eqD) <;> decreasing_trivial) | ((with_reducible apply ev_neD) <;> decreasing_trivial) | ((with_reducible apply ev_all) <;> decreasing_trivial) | ((with_reducible apply ev_any) <;> decreasing_trivial) | ((with_reducible apply ev_fr; with_reducible apply ev_rg1) <;> decreasing_trivial) | ((with_reducible apply ev_fr; with_reducible apply ev_rg2) <;> decreasing_trivial) | ((with_reducible apply ev_p2) <;> decreasing_trivial) | ((with_reducible apply ev_t3) <;> decreasing_trivial) | ((with_reducible apply ev_tp) <;> decreasing_trivial) | ((with_reducible apply et_tt) <;> decreasing_trivial) | ((with_reducible apply et_b) <;> decreasing_trivial) | ((with_reducible apply et_not) <;> decreasing_trivial) | ((with_reducible apply et_or) <;> decreasing_trivial) | ((with_reducible apply et_and) <;> decreasing_trivial) | ((with_reducible apply ev_andV) <;> decreasing_trivial) | ((with_reducible apply ev_orV) <;> decreasing_trivial) | ((with_reducible apply ev_chLL) <;> decreasing_trivial) | ((with_reducible apply ev_chll) <;> decreasing_trivial) | ((with_reducible apply is_list) <;> decreasing_trivial) | ((with_reducible apply is_tup) <;> decreasing_trivial) | ((with_reducible apply is_rng1) <;> decreasing_trivial) | ((with_reducible apply is_rng2) <;> decreasing_trivial) | ((with_reducible apply is_enum) <;> decreasing_trivial) | ((with_reducible apply is_zip) <;> decreasing_trivial) | ((with_reducible apply ea_1) <;> decreasing_trivial) | ((with_reducible apply ea_2) <;> decreasing_trivial) | ((with_reducible apply ea_3) <;> decreasing_trivial) | ((with_reducible apply ev_dg) <;> decreasing_trivial) | ((with_reducible apply ev_dg1) <;> decreasing_trivial) | ((with_reducible apply ev_fr; with_reducible apply ev_listD) <;> decreasing_trivial) | ((with_reducible apply ev_isi) <;> decreasing_trivial) | ((with_reducible apply ev_whole) <;> decreasing_trivial) | ((with_reducible apply ev_betw) <;> decreasing_trivial) | ((with_reducible apply ev_num) <;> decreasing_trivial) | ((apply Kp.so fr_fz) <;> decreasing_trivial) | ((apply Kp.no) <;> decreasing_trivial) | (exact Kp.nil) | (intro (_ : (_ : Bool) = _); decreasing_trivial) | (infer_instance) | (rfl) | (omega) | (decide) | (simp; done) | (skip))
/-! _law_once -/
def sp__law_once : Sp := spG (fun i : List (List Tri) × Nat × List Int => OnceP i.2.1 i.2.2 [0] [] i.1 ∧ i.1.length ≤ 100 ∧ (∀ t ∈ i.1, t.length < 64) ∧ i.2.1 ≤ 1000) (fun i => [Fz i.1, Fz (i.2.1 : Int), Fz i.2.2]) (fun _ => Fz true)
def t__law_once (K : PySem.W.Frag) : TS :=
(tSeq (tAsg (tTup (tCons (tLst (tCons (tC (.int 0)) tNil)) (tCons (tLst tNil) tNil))) (gTup K 2 (gCons (gName 3) (gCons (gName 4) gNil))))
    (tSeq (tFor (iList K (tVar 0)) (gName 5)
    (tSeq (tAsg (tLc (iList K (tVar 5)) (gTup K 3 (gCons (gName 6) (gCons (gName 7) (gCons (gName 8) gNil)))) tYes (tVar 6) [6, 7, 8]) (gName 9))
      (tSeq (tIfS (tOr (tTest (tOp (rNeD K) (tVar 9) (tSortSet K (tVar 9)))) (tNot (tB (tCB (rAll K) (tCons (tLc (iList K (tVar 9)) (gName 6) tYes (tOp (rIn K false) (tVar 6) (tVar 3)) [6]) tNil)))))
      (tRet (tC (.bl false)))
      tNext)
      (tSeq (tFor (iList K (tVar 5)) (gTup K 3 (gCons (gName 6) (gCons (gName 7) (gCons (gName 8) gNil))))
      (tSeq (tDrop (tBM K "list" rAppend (tVar 4) (tCons (tVar 7) tNil)))
        (tIfS (tOr (tTest (tOp rEq (tVar 8) (tOp (rIn K false) (tVar 7) (tVar 2)))) (tNot (tB (tCB (rIsi K) (tCons (tVar 8) (tCons (tC (.ty "bool")) tNil))))))
        (tRet (tC (.bl false)))
        tNext)))
      (tAsg (tOp rCat (tVar 3) (tLc (iList K (tVar 5)) (gTup K 3 (gCons (gName 6) (gCons (gName 7) (gCons (gName 8) gNil)))) (tB (tVar 8)) (tVar 7) [6, 7, 8])) (gName 3))))))
    (tRet (tOp (rEqD K) (tCB (rSortedI K) (tCons (tVar 4) tNil)) (tLstRg (tRg2 (tC (.int 1)) (tVar 1)))))))
theorem OnceP.drop {n : Int} {absent knows called : List Int} {t : List Tri} {ts : List (List Tri)} (h : OnceP n absent knows called (t :: ts)) : (t.map (·.a)).Pairwise (· < ·) ∧ (∀ x ∈ t, x.a ∈ knows) ∧ (∀ x ∈ t, x.c = decide (x.b ∉ absent)) ∧ OnceP n absent (knows ++ (t.filter (·.c)).map (·.b)) (called ++ t.map (·.b)) ts := h
theorem v__law_once {K : PySem.W.Frag} {vs : List V} {H : Hp} {Q : VK} {E : XK} (h : sp__law_once vs H Q E) : t__law_once K (fin Q) (st0 10 vs) H := by
  refine v_of (n := 10) (fun ⟨ts, n, absent⟩ ⟨O, hl, ht, hn⟩ => ?_) h
  have O : OnceP n absent [0] [] ts := O
  have hl : ts.length ≤ 100 := hl
  have ht : ∀ t ∈ ts, t.length < 64 := ht
  have hn : n ≤ 1000 := hn
  have kb : kitB "bool" "bool" = some true := by decide +kernel
  show Wp (t__law_once K) [some (Fz ts), some (Fz (n : Int)), some (Fz absent), none, none, none, none, none, none, none] (Rt (Fz true))
  refine wp_seq (wp_tupO (A := Fz [(0 : Int)]) (B := Ow ([] : List Int)) (ev_fr (ev_l1 ev_int)) ev_nil ?_)
  refine wp_seq (wp_for (xs := ts) (by decreasing_trivial) bd_n (fun k Γ => ∃ (knows called : List Int) (x5 x6 x7 x8 x9 : Option As), OnceP n absent knows called (ts.drop k) ∧ knows.length ≤ 1 + 64 * k ∧ called.length ≤ 64 * k ∧ Γ = [some (Fz ts), some (Fz (n : Int)), some (Fz absent), some (Fz knows), some (Ow called), x5, x6, x7, x8, x9]) (by exact ⟨[0], [], _, _, _, _, _, O, by simp, by simp, rfl⟩) ?_ ?_)
  · rintro k t Γ hk ⟨knows, called, x5, x6, x7, x8, x9, P, hkl, hcl, rfl⟩
    have hkt := lt_of_get hk
    have hdt : ts.drop k = t :: ts.drop (k + 1) := by
      rw [List.getElem?_eq_getElem hkt] at hk
      rw [← Option.some.inj hk, List.getElem_cons_drop]
    rw [hdt] at P
    obtain ⟨p1, p2, p3, p4⟩ := P.drop
    have htl := ht t (List.mem_of_getElem? hk)
    refine wq_asg (ev_fr (ev_map (fun x : Tri => x.a) (by decreasing_trivial) (by decreasing_trivial) bd_3 (by omega) fun a ha => ⟨_, ev_var rfl⟩)) ?_
    have hml : (t.map fun x : Tri => x.a).length < 64 := by rw [List.length_map]; exact htl
    have em : Ev (tLc (iList K (tVar 9)) (gName 6) tYes (tOp (rIn K false) (tVar 6) (tVar 3)) [6]) [some (Fz ts), some (Fz (n : Int)), some (Fz absent), some (Fz knows), some (Ow called), some (Fz t), x6, x7, x8, some (Fz (t.map fun x : Tri => x.a))] [some (Fz ts), some (Fz (n : Int)), some (Fz absent), some (Fz knows), some (Ow called), some (Fz t), x6, x7, x8, some (Fz (t.map fun x : Tri => x.a))] (Ow ((t.map fun x : Tri => x.a).map fun c => decide (c ∈ knows))) :=
      ev_map _ (by decreasing_trivial) (by decreasing_trivial) bd_n (by omega) fun a ha => ⟨_, (by decreasing_trivial)⟩
    refine wq_no (et_or (et_tt (ev_neM (ev_var rfl) (ev_fr (ev_sset (ev_var rfl) hml)))) fun _ => et_not (et_b (ev_all (ev_fr em)))) ?_ ?_
    · rw [sortD_self p1]
      simp
      exact fun x hx => p2 x hx
    refine wp_seq (wp_for (xs := t) (by decreasing_trivial) bd_3 (fun m Γ => ∃ (x6 x7 x8 : Option As), Γ = [some (Fz ts), some (Fz (n : Int)), some (Fz absent), some (Fz knows), some (Ow (called ++ (t.take m).map (·.b))), some (Fz t), x6, x7, x8, some (Fz (t.map fun x : Tri => x.a))]) (by exact ⟨_, _, _, by rw [List.take_zero, List.map_nil, List.append_nil]; rfl⟩) ?_ ?_)
    · rintro m x Γ hx ⟨y6, y7, y8, rfl⟩
      have hmt := lt_of_get hx
      have hxm := p3 x (List.mem_of_getElem? hx)
      have etk : (t.take (m + 1)).map (·.b) = (t.take m).map (·.b) ++ [x.b] := by rw [List.take_add_one, hx, List.map_append]; rfl
      have hll : (called ++ (t.take m).map (·.b)).length < 99999 := by rw [List.length_append, List.length_map, List.length_take]; omega
      refine wp_seq (wp_appF rfl (ev_var rfl) rfl hll ?_)
      refine wn_no (et_or (et_tt (ev_eqB (ev_var rfl) (ev_in (ev_var rfl) (ev_var rfl)))) fun _ => et_not (et_b (ev_isM (a := x.c) (ev_var rfl) kb))) ?_ ⟨_, _, _, by rw [etk, ← List.append_assoc]; rfl⟩
      rw [hxm]
      by_cases hb : x.b ∈ absent <;> simp [hb]
    rintro Γ ⟨y6, y7, y8, rfl⟩
    rw [List.take_length]
    have hfl := List.length_filter_le (fun x : Tri => x.c) t
    refine wp_asg (A := Fz (knows ++ (t.filter (·.c)).map (·.b))) (ev_fr (ev_cat (ev_var rfl) (ev_fr (ev_fil (fun x : Tri => x.c) (fun x : Tri => x.b) (by decreasing_trivial) (by decreasing_trivial) bd_3 (by omega) fun a ha => ⟨_, et_b (ev_var rfl), fun _ => ⟨_, ev_var rfl⟩⟩)) (by rw [List.length_map]; omega))) ⟨_, _, _, _, _, _, _, p4, ?_, ?_, rfl⟩
    · rw [List.length_append, List.length_map]; omega
    · rw [List.length_append, List.length_map]; omega
  · rintro Γ ⟨knows, called, x5, x6, x7, x8, x9, P, hkl, hcl, rfl⟩
    rw [List.drop_length] at P
    have P : sortI called = rangeI 1 n := P
    have brw : Brw [some (Fz ts), some (Fz (n : Int)), some (Fz absent), some (Fz knows), some (Ow called), x5, x6, x7, x8, x9] [none, some (Fz (n : Int)), none, none, some (Fz called), none, none, none, none, none] := .no _ (.so cv_fz (.no _ (.no _ (.so cv_ow (.no _ (.no _ (.no _ (.no _ (.no _ .nil)))))))))
    refine wp_ret (ev_brw brw tpo_fz (ev_eqM (ev_fr (ev_sorted (ev_var rfl))) (by decreasing_trivial))) ?_
    show Fz _ = Fz true
    rw [P, decide_eq_true rfl]
theorem ev_once {ta tb tc : TE} {Γ Γ1 Γ2 Γ3 : Env} {ts : List (List Tri)} {n : Nat} {absent : List Int} (h : Ev ta Γ Γ1 (Fz ts)) (h' : Ev tb Γ1 Γ2 (Fz (n : Int))) (h'' : Ev tc Γ2 Γ3 (Fz absent)) (O : OnceP n absent [0] [] ts) (hl : ts.length ≤ 100) (ht : ∀ t ∈ ts, t.length < 64) (hn : n ≤ 1000) : Ev (tCall sp__law_once [] E0 (tCons ta (tCons tb (tCons tc tNil)))) Γ Γ3 (Fz true) := ev_call (i := (ts, n, absent)) (ea_3 h h' h'') ⟨O, hl, ht, hn⟩
end Cc

namespace Cc
open PySem L2
local macro_rules | `(tactic| decreasing_trivial) => `(tactic| first | (with_reducible exact ev_int) | (with_reducible exact ev_bl) | ((with_reducible apply ev_var) <;> rfl) | (with_reducible exact ea_nil) | (with_reducible exact Es.nil) | (with_reducible exact Kp.nil) | (with_reducible apply ev_non) | ((with_reducible apply ev_add) <;> decreasing_trivial) | ((with_reducible apply ev_sub) <;> decreasing_trivial) | ((with_reducible apply ev_mod) <;> decreasing_trivial) | ((with_reducible apply ev_div) <;> decreasing_trivial) | ((with_reducible apply ev_mul) <;> decreasing_trivial) | ((with_reducible apply ev_pow) <;> decreasing_trivial) | ((with_reducible apply ev_lt) <;> decreasing_trivial) | ((with_reducible apply ev_le) <;> decreasing_trivial) | ((with_reducible apply ev_gt) <;> decreasing_trivial) | ((with_reducible apply ev_ge) <;> decreasing_trivial) | ((with_reducible apply ev_eqS) <;> decreasing_trivial) | ((with_reducible apply ev_neS) <;> decreasing_trivial) | ((with_reducible apply ev_isB) <;> decreasing_trivial) | ((with_reducible apply ev_notB) <;> decreasing_trivial) | ((with_reducible apply ev_neg) <;> decreasing_trivial) | ((with_reducible apply ev_not) <;> decreasing_trivial) | ((with_reducible apply ev_len) <;> decreasing_trivial) | ((with_reducible apply ev_sum) <;> decreasing_trivial) | ((with_reducible apply ev_ixD) <;> decreasing_trivial) | ((with_reducible apply ev_ixT0) <;> decreasing_trivial) | ((with_reducible apply ev_ixT1) <;> decreasing_trivial) | ((with_reducible apply ev_ixT2) <;> decreasing_trivial) | ((with_reducible apply ev_ixP0) <;> decreasing_trivial) | ((with_reducible apply ev_ixP1) <;> decreasing_trivial) | ((with_reducible apply ev_ixDT) <;> decreasing_trivial) | ((with_reducible apply ev_fr; with_reducible apply ev_cat) <;> decreasing_trivial) | ((with_reducible apply ev_fr; with_reducible apply ev_list) <;> decreasing_trivial) | ((with_reducible apply ev_fr; with_reducible apply ev_sorted) <;> decreasing_trivial) | ((with_reducible apply ev_fr; with_reducible apply ev_slH) <;> decreasing_trivial) | ((with_reducible apply ev_fr; with_reducible apply ev_slL) <;> decreasing_trivial) | ((with_reducible apply ev_fr; with_reducible apply ev_rev) <;> decreasing_trivial) | (with_reducible apply ev_fr; with_reducible exact ev_nil) | ((with_reducible apply ev_fr; with_reducible apply ev_ls) <;> decreasing_trivial) | ((with_reducible apply Es.cons) <;> decreasing_trivial) | ((with_reducible apply ev_in) <;> decreasing_trivial) | ((with_reducible apply ev_notin) <;> decreasing_trivial) | ((with_reducible apply ev_max2) <;> decreasing_trivial) | ((with_reducible apply ev_min2) <;> decreasing_trivial) | ((with_reducible apply ev_eqD) <;> decreasing_trivial) | ((with_reducible apply ev_neD) <;> decreasing_trivial) | ((with_reducible apply ev_all) <;> decreasing_trivial) | ((with_reducible apply ev_any) <;> decreasing_trivial) | ((with_reducible apply ev_fr; with_reducible apply ev_rg1) <;> decreasing_trivial) | ((with_reducible apply ev_fr; with_reducible apply ev_rg2) <;> decreasing_trivial) | ((with_reducible apply ev_p2) <;> decreasing_trivial) | ((with_reducible apply ev_t3) <;> decreasing_trivial) | ((with_reducible apply ev_tp) <;> decreasing_trivial) | ((with_reducible apply et_tt) <;> decreasing_trivial) | ((with_reducible apply et_b) <;> decreasing_trivial) | ((with_reducible apply et_not) <;> decreasing_trivial) | ((with_reducible apply et_or) <;> decreasing_trivial) | ((with_reducible apply et_and) <;> decreasing_trivial) | ((with_reducible apply ev_andV) <;> decreasing_trivial) | ((with_reducible apply ev_orV) <;> decreasing_trivial) | ((with_reducible apply ev_chLL) <;> decreasing_trivial) | ((with_reducible apply ev_chll) <;> decreasing_trivial) | ((with_reducible apply is_list) <;> decreasing_trivial) | ((with_reducible apply is_tup) <;> decreasing_trivial) | ((with_reducible apply is_rng1) <;> decreasing_trivial) | ((with_reducible apply is_rng2) <;> decreasing_trivial) | ((with_reducible apply is_enum) <;> decreasing_trivial) | ((with_reducible apply is_zip) <;> decreasing_trivial) | ((with_reducible apply ea_1) <;> decreasing_trivial) | ((with_reducible apply ea_2) <;> decreasing_trivial) | ((with_reducible apply ea_3) <;> decreasing_trivial) | ((with_reducible apply ev_dg) <;> decreasing_trivial) | ((with_reducible apply ev_dg1) <;> decreasing_trivial) | ((with_reducible apply ev_fr; with_reducible apply ev_listD) <;> decreasing_trivial) | ((with_reducible apply ev_isi) <;> decreasing_trivial) | ((with_reducible apply ev_whole) <;> decreasing_trivial) | ((with_reducible apply ev_betw) <;> decreasing_trivial) | ((with_reducible apply ev_num) <;> decreasing_trivial) | ((apply Kp.so fr_fz) <;> decreasing_trivial) | ((apply Kp.no) <;> decreasing_trivial) | (exact Kp.nil) | (intro (_ : (_ : Bool) = _); decreasing_trivial) | (infer_instance) | (rfl) | (omega) | (decide) | (simp; done) | (skip))
/-! law k04 -/
theorem v_lawOf {K : PySem.W.Frag} {t : TS} {n : Nat} (h : ∀ ns : List Int, ns.length ≤ 63 → Wp t (EnvN [Sq K ns] n) (Rt (Fz true))) {vs : List V} {H : Hp} {Q : VK} {E : XK} (hs : sp_law K vs H Q E) : t (fin Q) (st0 n vs) H := by
  obtain ⟨a, ns, rfl, ha, hl, k⟩ := hs
  exact v_of (ok := fun ns : List Int => ns.length ≤ 63) (Bs := fun ns => [Sq K ns]) (A := fun _ => Fz true) (E := E) h ⟨ns, H, hl, Same.refl H, .cons ⟨rfl, a, rfl, ha⟩ .nil, fun v H' F C L r => by
    have : v = .bl true := r.2
    rw [this]
    exact k H'⟩
/-- orders by a list of births -/
def ordChk (os : List (List Int)) (rk : List Nat) : Bool := decide (1 ≤ os.length) && decide ((0 :: os.flatten).Perm (people os.length)) && (List.range os.length).all fun p => (os.getD p []).all fun q => decide (rk.getD p 0 < rk.getD q.toNat 0)
theorem ordG_of {os : List (List Int)} (rk : List Nat) (h : ordChk os rk = true) : OrdG os := by
  unfold ordChk at h
  simp only [Bool.and_eq_true, decide_eq_true_eq, List.all_eq_true, List.mem_range] at h
  refine ⟨h.1.1, h.1.2, fun x => rk.getD x.toNat 0, fun p row hp q hq => ?_⟩
  have := h.2 p (lt_of_get hp) q (by rw [List.getD_eq_getElem?_getD, hp]; exact hq)
  simpa using this
theorem OrdG.rev0 {os : List (List Int)} (O : OrdG os) : OrdG (os.set 0 (rowO os 0).reverse) := by
  have hp := O.pos
  have h0 : os[0]? = some (rowO os 0) := by unfold rowO; simp [List.getD_eq_getElem?_getD, List.getElem?_eq_getElem hp]
  have pf : (os.set 0 (rowO os 0).reverse).flatten.Perm os.flatten := by
    cases os with
    | nil => cases h0
    | cons r os => exact (List.reverse_perm r).append_right _
  obtain ⟨r, hr⟩ := O.rank
  refine ⟨by simpa using hp, ?_, r, fun p row h q hq => ?_⟩
  · rw [List.length_set]
    exact (pf.cons 0).trans O.perm
  · by_cases hz : 0 = p
    · subst hz
      rw [List.getElem?_set_self hp] at h
      cases h
      exact hr 0 _ h0 q (List.mem_reverse.mp hq)
    · rw [List.getElem?_set_ne hz] at h
      exact hr p row h q hq
theorem walkF_turns {os : List (List Int)} {absent : List Int} (O : OrdG os) (hl : os.length ≤ 1000) : ∀ (f : Nat) (N : Nw) (K : List Int), WInv os N K → ∀ t ∈ walkF os absent f N, t.length ≤ os.length
  | 0, N, K, W => fun t h => nomatch h
  | f + 1, N, K, W => by
    intro t h
    unfold walkF at h
    by_cases hc : callersM N = []
    · rw [if_pos hc] at h; cases h
    · rw [if_neg hc] at h
      have T := turn_callers (absent := absent) O (by omega) W
      rcases List.mem_cons.mp h with rfl | h
      · have e := congrArg List.length T.callers
        rw [List.length_map] at e
        have := callersM_len N
        have := W.klen
        omega
      · exact walkF_turns O hl f _ _ T.inv t h
theorem walkM_turns {os : List (List Int)} {absent : List Int} (O : OrdG os) (hl : os.length ≤ 1000) : ∀ t ∈ walkM os absent, t.length ≤ os.length := walkF_turns O hl _ _ _ (WInv.start O)
theorem cutA_mem {α : Type} {xs : List α} {lo hi : Option Int} {x : α} (h : x ∈ cutA xs lo hi) : x ∈ xs := by
  unfold cutA at h
  exact List.mem_of_mem_drop (List.mem_of_mem_take h)
/-- the absent ones that are asked of -/
def lotsM (ns : List Int) (b : Int) (n : Nat) (w : Int) : List (List Int) := [absM ns b n, [], rangeI 1 n, cutA [max 1 (w % (n : Int))] none (some ((n : Int) - 1))]
theorem lotsM_ok {ns : List Int} {b : Int} {n : Nat} {w : Int} (hn : 1 ≤ n) {a : List Int} (h : a ∈ lotsM ns b n w) : AbsOk n a := by
  unfold lotsM at h
  simp only [List.mem_cons, List.not_mem_nil, or_false] at h
  rcases h with rfl | rfl | rfl | rfl
  · exact absM_ok ns b n
  · exact ⟨List.Pairwise.nil, fun x hx => nomatch hx⟩
  · exact ⟨rangeI_sorted _ _, fun x hx => rangeI_mem.mp hx⟩
  · have hc : cutA [max 1 (w % (n : Int))] none (some ((n : Int) - 1)) = [max 1 (w % (n : Int))].take (n - 1) := by
      have := cutA_to [max 1 (w % (n : Int))] (n - 1)
      rw [← this]
      congr 2
      omega
    rw [hc]
    by_cases h1 : n = 1
    · subst h1
      exact ⟨List.Pairwise.nil, fun x hx => nomatch hx⟩
    · rw [List.take_of_length_le (by simp; omega)]
      refine ⟨by simp, fun x hx => ?_⟩
      rw [List.mem_singleton.mp hx]
      have := Int.emod_lt_of_pos w (show 0 < (n : Int) by omega)
      omega
def t_law_k04 (K : PySem.W.Frag) : TS :=
(tSeq (tAsg (tCB (rSum K) (tCons (L2.tSl (rSlL K) (tVar 0) tNoPart (tPart (tC (.int 63)))) tNil)) (gName 1))
    (tSeq (tFor (iRng1 (tCons (tC (.int 2)) tNil)) (gName 2)
    (tSeq (tAsg (tCall (sp__law_orders K) [] E0 (tCons (tVar 0) (tCons (tVar 2) (tCons (tC (.int 40)) tNil)))) (gName 3))
      (tSeq (tAsg (tCB (qLen K) (tCons (tVar 3) tNil)) (gName 4))
      (tSeq (tAsg (tLst (tCons (tCall (sp__law_absent K) [] E0 (tCons (tVar 0) (tCons (tVar 2) (tCons (tVar 4) tNil)))) (tCons (tLst tNil) (tCons (tLstRg (tRg2 (tC (.int 1)) (tVar 4))) (tCons (L2.tSl (rSlL K) (tLst (tCons (tCB qMax2 (tCons (tC (.int 1)) (tCons (tOp qMod (tVar 1) (tVar 4)) tNil))) tNil)) tNoPart (tPart (tOp qSub (tVar 4) (tC (.int 1))))) tNil))))) (gName 5))
      (tFor (iList K (tIf (tTest (tOp qLt (tVar 4) (tC (.int 20)))) (tVar 5) (L2.tSl (rSlL K) (L2.tSl (rSlL K) (tVar 5) (tPart (tOp qMod (tVar 1) (tC (.int 3)))) tNoPart) tNoPart (tPart (tC (.int 2)))))) (gName 6)
      (tSeq (tAsg (tLst (tCons (tLc (iList K (tVar 3)) (gName 7) tYes (tCB (qList K) (tCons (tVar 7) tNil)) [7]) (tCons (tCB (qList K) (tCons (tVar 6) tNil)) tNil))) (gName 8))
        (tSeq (tAsg (tCall sp__law_walk [] E0 (tCons (tVar 3) (tCons (tVar 6) tNil))) (gName 9))
        (tSeq (tFor (iRng1 (tCons (tC (.int 2)) tNil)) (gName 10)
        (tSeq (tAsg (tCall sp_walked [] E0 (tCons (tOp (rIxL K) (tVar 8) (tC (.int 0))) (tCons (tOp (rIxL K) (tVar 8) (tC (.int 1))) tNil))) (gName 11))
          (tSeq (tIfS (tOr (tNot (tB (tCB (rIsi K) (tCons (tVar 11) (tCons (tC (.ty "list")) tNil))))) (tOr (tTest (tOp (rNeD K) (tVar 11) (tVar 9))) (tTest (tOp (rNeD K) (tVar 8) (tLst (tCons (tVar 3) (tCons (tVar 6) tNil)))))))
          (tRet (tC (.bl false)))
          tNext)
          (tSeq (tIfS (tNot (tB (tCB (rAll K) (tCons (tLc (iList K (tVar 11)) (gName 12) tYes (tCB (rIsi K) (tCons (tVar 12) (tCons (tC (.ty "list")) tNil))) [12]) tNil))))
          (tRet (tC (.bl false)))
          tNext)
          (tSeq (tIfS (tNot (tB (tCall sp__law_once [] E0 (tCons (tVar 11) (tCons (tVar 4) (tCons (tVar 6) tNil))))))
          (tRet (tC (.bl false)))
          tNext)
          (tSeq (tFor (iList K (tVar 11)) (gName 12)
          (tDrop (tBM K "list" rAppend (tVar 12) (tCons (tTup tNil) tNil))))
          (tDrop (tBM K "list" rAppend (tVar 11) (tCons (tLst tNil) tNil)))))))))
        (tSeq (tDrop (tBM0 K "list" rReverse (tOp (rIxL K) (tOp (rIxL K) (tVar 8) (tC (.int 0))) (tC (.int 0)))))
        (tIfS (tTest (tOp (rNeD K) (tCall sp_walked [] E0 (tCons (tOp (rIxL K) (tVar 8) (tC (.int 0))) (tCons (tOp (rIxL K) (tVar 8) (tC (.int 1))) tNil))) (tCall sp__law_walk [] E0 (tCons (tOp (rIxL K) (tVar 8) (tC (.int 0))) (tCons (tVar 6) tNil)))))
        (tRet (tC (.bl false)))
        tNext))))))))))
    (tSeq (tAsg (tLst (tCons (tLst (tCons (tC (.int 1)) (tCons (tC (.int 2)) tNil))) (tCons (tLst (tCons (tC (.int 3)) tNil)) (tCons (tLst tNil) (tCons (tLst tNil) tNil))))) (gName 3))
    (tSeq (tIfS (tTest (tOp (rNeD K) (tCall sp_walked [] E0 (tCons (tVar 3) (tCons (tLst (tCons (tC (.int 1)) tNil)) tNil))) (tLst (tCons (tLst (tCons (tTup (tCons (tC (.int 0)) (tCons (tC (.int 1)) (tCons (tC (.bl false)) tNil)))) tNil)) (tCons (tLst (tCons (tTup (tCons (tC (.int 0)) (tCons (tC (.int 3)) (tCons (tC (.bl true)) tNil)))) tNil)) (tCons (tLst (tCons (tTup (tCons (tC (.int 0)) (tCons (tC (.int 2)) (tCons (tC (.bl true)) tNil)))) tNil)) tNil))))))
    (tRet (tC (.bl false)))
    tNext)
    (tSeq (tAsg (tLst (tCons (tLst (tCons (tC (.int 1)) (tCons (tC (.int 4)) tNil))) (tCons (tLst (tCons (tC (.int 2)) tNil)) (tCons (tLst (tCons (tC (.int 3)) tNil)) (tCons (tLst tNil) (tCons (tLst tNil) tNil)))))) (gName 13))
    (tSeq (tIfS (tTest (tOp (rNeD K) (tCall sp_walked [] E0 (tCons (tVar 13) (tCons (tLst (tCons (tC (.int 1)) (tCons (tC (.int 2)) tNil))) tNil))) (tLst (tCons (tLst (tCons (tTup (tCons (tC (.int 0)) (tCons (tC (.int 1)) (tCons (tC (.bl false)) tNil)))) tNil)) (tCons (tLst (tCons (tTup (tCons (tC (.int 0)) (tCons (tC (.int 2)) (tCons (tC (.bl false)) tNil)))) tNil)) (tCons (tLst (tCons (tTup (tCons (tC (.int 0)) (tCons (tC (.int 3)) (tCons (tC (.bl true)) tNil)))) tNil)) (tCons (tLst (tCons (tTup (tCons (tC (.int 0)) (tCons (tC (.int 4)) (tCons (tC (.bl true)) tNil)))) tNil)) tNil)))))))
    (tRet (tC (.bl false)))
    tNext)
    (tRet (tAndV (tOp (rEqD K) (tCall sp_walked [] E0 (tCons (tVar 3) (tCons (tLst tNil) tNil))) (tLst (tCons (tLst (tCons (tTup (tCons (tC (.int 0)) (tCons (tC (.int 1)) (tCons (tC (.bl true)) tNil)))) tNil)) (tCons (tLst (tCons (tTup (tCons (tC (.int 0)) (tCons (tC (.int 2)) (tCons (tC (.bl true)) tNil)))) (tCons (tTup (tCons (tC (.int 1)) (tCons (tC (.int 3)) (tCons (tC (.bl true)) tNil)))) tNil))) tNil)))) (tOp (rEqD K) (tCall sp_walked [] E0 (tCons (tLst (tCons (tLst tNil) tNil)) (tCons (tLst tNil) tNil))) (tLst tNil))))))))))
abbrev TriN (a b : Int) (c : Bool) : Tri := ⟨a, b, c⟩
theorem v_law_k04 {K : PySem.W.Frag} {vs : List V} {H : Hp} {Q : VK} {E : XK} (h : sp_law K vs H Q E) : t_law_k04 K (fin Q) (st0 14 vs) H := by
  refine v_lawOf (n := 14) (fun ns hns => ?_) h
  have kl : kitB "list" "list" = some true := by decide +kernel
  show Wp (t_law_k04 K) [some (Sq K ns), none, none, none, none, none, none, none, none, none, none, none, none, none] (Rt (Fz true))
  refine wq_asg (ev_sum (ev_fr (ev_scr rfl))) ?_
  generalize hw : (ns.take 63).sum = w
  refine wp_seq (wp_for (xs := rangeI 0 2) (by decreasing_trivial) bd_n (fun _ Γ => ∃ x2 x3 x4 x5 x6 x8 x9 x10 x11, Γ = [some (Sq K ns), some (Fz w), x2, x3, x4, x5, x6, none, x8, x9, x10, x11, none, none]) (by exact ⟨_, _, _, _, _, _, _, _, _, rfl⟩) ?_ ?_)
  · rintro i b Γ hb ⟨x2, x3, x4, x5, x6, x8, x9, x10, x11, rfl⟩
    have hbm := rangeI_mem.mp (List.mem_of_getElem? hb)
    refine wq_asg (ev_fr2 (ev_orders rfl (ev_var rfl) ev_int ⟨by omega, by omega, by omega, by omega⟩)) ?_
    have O := ordersM_ok ns b 40
    have hol := ordersM_le ns b (most := 40) (by decide)
    generalize ordersM ns b 40 = os at O hol
    have hp := O.pos
    have hol : os.length ≤ 40 := by omega
    refine wq_asg (ev_len (ev_var rfl)) ?_
    have hn0 : 0 < (os.length : Int) := by omega
    refine wq_asg (a := lotsM ns b os.length w) (ev_fr (ev_ls (.cons (ev_fr (ev_absent rfl (ev_var rfl) (ev_var rfl) (by omega) (by omega))) (.cons (ev_fr ev_nil) (.cons (by decreasing_trivial) (.cons (ev_fr (ev_slH (ev_fr (ev_l1 (ev_max2 ev_int (ev_mod (ev_var rfl) (ev_var rfl) hn0)))) (by decreasing_trivial))) .nil)))) (by simp [lotsM]))) ?_
    have hlok : ∀ a ∈ lotsM ns b os.length w, AbsOk os.length a := fun a ha => lotsM_ok hp ha
    generalize lotsM ns b os.length w = lots at hlok
    -- those that are asked of
    have hq3 : 0 < (3 : Int) := by decide
    refine wp_for (xs := if (os.length : Int) < 20 then lots else cutA (cutA lots (some (w % 3)) none) none (some 2)) (is_list (ev_if (b := decide ((os.length : Int) < 20)) (et_tt (ev_lt (ev_var rfl) ev_int)) (fun hb => by
        rw [if_pos (of_decide_eq_true hb)]; exact ev_var rfl) (fun hb => by
        rw [if_neg (of_decide_eq_false hb)]; exact ev_fr (ev_slH (ev_fr (ev_slL (ev_var rfl) (ev_mod (ev_var rfl) ev_int hq3))) ev_int)))) bd_n
      (fun _ Γ => ∃ x6 x8 x9 x10 x11, Γ = [some (Sq K ns), some (Fz w), some (Fz b), some (Fz os), some (Fz (os.length : Int)), some (Fz lots), x6, none, x8, x9, x10, x11, none, none]) (by exact ⟨_, _, _, _, _, rfl⟩) ?_ ?_
    · rintro k absent Γ hk ⟨y6, y8, y9, y10, y11, rfl⟩
      have ha : AbsOk os.length absent := hlok absent (by
        have := List.mem_of_getElem? hk
        split at this
        · exact this
        · exact cutA_mem (cutA_mem this))
      have hal := ha.len
      have hw1 := walkM_to (absent := absent) O (by omega)
      have hw2 := walkM_once (absent := absent) O (by omega)
      have hw3 := walkM_turns (absent := absent) O (by omega)
      have ecp : Ev (tLc (iList K (tVar 3)) (gName 7) tYes (tCB (qList K) (tCons (tVar 7) tNil)) [7]) [some (Sq K ns), some (Fz w), some (Fz b), some (Fz os), some (Fz (os.length : Int)), some (Fz lots), some (Fz absent), none, y8, y9, y10, y11, none, none] [some (Sq K ns), some (Fz w), some (Fz b), some (Fz os), some (Fz (os.length : Int)), some (Fz lots), some (Fz absent), none, y8, y9, y10, y11, none, none] (OwL (os.map Ow)) := by
        have := ev_mapO (xs := os) (te := tCB (qList K) (tCons (tVar 7) tNil)) (g := gName 7) (ws := [7]) (wi := iList K (tVar 3)) (Γ := [some (Sq K ns), some (Fz w), some (Fz b), some (Fz os), some (Fz (os.length : Int)), some (Fz lots), some (Fz absent), none, y8, y9, y10, y11, none, none]) (fun r : List Int => r) (by decreasing_trivial) (by decreasing_trivial) bd_n (by omega) fun a ha => ⟨_, ev_list (ev_var rfl)⟩
        rwa [List.map_id'] at this
      refine wq_asgO (A := OwL [OwL (os.map Ow), Ow absent]) (ev_lst (by simp) (ea_2 ecp (ev_list (ev_var rfl)))) ?_
      refine wq_asg (ev_fr (ev_lwalk (ev_var rfl) (ev_var rfl) O (by omega))) ?_
      have cvh : Cv (OwL [OwL (os.map Ow), Ow absent]) (Fz (H2.mk os absent)) := cv_h2 cv_ow2 cv_ow
      have brwA : ∀ (x10 x11 : Option As), Brw [some (Sq K ns), some (Fz w), some (Fz b), some (Fz os), some (Fz (os.length : Int)), some (Fz lots), some (Fz absent), none, some (OwL [OwL (os.map Ow), Ow absent]), some (Fz (walkM os absent)), x10, x11, none, none] [none, none, none, some (Fz os), some (Fz (os.length : Int)), none, some (Fz absent), none, some (Fz (H2.mk os absent)), some (Fz (walkM os absent)), none, none, none, none] := fun x10 x11 =>
        .no _ (.no _ (.no _ (.so cv_fz (.so cv_fz (.no _ (.so cv_fz (.no _ (.so cvh (.so cv_fz (.no _ (.no _ (.no _ (.no _ .nil)))))))))))))
      have brwB : ∀ (x10 : Option As), Brw [some (Sq K ns), some (Fz w), some (Fz b), some (Fz os), some (Fz (os.length : Int)), some (Fz lots), some (Fz absent), none, some (OwL [OwL (os.map Ow), Ow absent]), some (Fz (walkM os absent)), x10, some (OwL ((walkM os absent).map Ow)), none, none] [none, none, none, some (Fz os), some (Fz (os.length : Int)), none, some (Fz absent), none, some (Fz (H2.mk os absent)), some (Fz (walkM os absent)), none, some (Fz (walkM os absent)), none, none] := fun x10 =>
        .no _ (.no _ (.no _ (.so cv_fz (.so cv_fz (.no _ (.so cv_fz (.no _ (.so cvh (.so cv_fz (.no _ (.so cv_ow2 (.no _ (.no _ .nil)))))))))))))
      refine wp_seq (wp_for (xs := rangeI 0 2) (by decreasing_trivial) bd_n (fun _ Γ => ∃ x10 x11, Γ = [some (Sq K ns), some (Fz w), some (Fz b), some (Fz os), some (Fz (os.length : Int)), some (Fz lots), some (Fz absent), none, some (OwL [OwL (os.map Ow), Ow absent]), some (Fz (walkM os absent)), x10, x11, none, none]) (by exact ⟨_, _, rfl⟩) ?_ ?_)
      · rintro k2 again Γ hk2 ⟨z10, z11, rfl⟩
        refine wq_asgO (A := OwL ((walkM os absent).map Ow)) (ev_brw (brwA _ _) tpo_ow2 (ev_walked (ev_ixH0 (x := H2.mk os absent) (ev_var rfl)) (ev_ixH1 (x := H2.mk os absent) (ev_var rfl)) O hol ha)) ?_
        refine wq_no (et_brw (brwB _) (et_or (et_not (et_b (ev_isM (ev_var rfl) kl))) fun _ => et_or (et_tt (ev_neM (ev_var rfl) (ev_var rfl))) fun _ => et_tt (ev_neM (ev_var rfl) (ev_frz (ev_lst (by simp) (ea_2 (ev_var rfl) (ev_var rfl))) (cv_h2 cv_fz cv_fz))))) (by simp) ?_
        refine wq_no (et_brw (brwB _) (et_not (et_b (ev_all (ev_fr (ev_map (fun _ => true) (is_list (ev_var rfl)) (by decreasing_trivial) bd_n (by omega) fun a ha => ⟨_, ev_isM (ev_var rfl) kl⟩)))))) (by simp) ?_
        refine wq_no (et_brw (brwB _) (et_not (et_b (ev_once (ev_var rfl) (ev_var rfl) (ev_var rfl) hw2 (by omega) (fun t ht => by have := hw3 t ht; omega) (by omega))))) rfl ?_
        refine wp_seq (wp_appAll (i := 11) (j := 12) (rows := walkM os absent) rfl (by decide) (by simp) (fun Hs G σ H F X Cs Γ' I Q q => ⟨by show 0 ≤ sizeLine; decide, fun p hp => q _ _ (Same.new hp _)⟩) (by omega) (fun t ht => by have := hw3 t ht; omega) ?_)
        exact wp_appLk (A := Ow ([] : List Int)) rfl ev_nil rfl (by decide) ⟨_, _, rfl⟩
      · rintro Γ ⟨z10, z11, rfl⟩
        have h0 : os[0]? = some (rowO os 0) := by unfold rowO; simp [List.getD_eq_getElem?_getD, List.getElem?_eq_getElem hp]
        have i1 : ixN [OwL (os.map Ow), Ow absent].length 0 = some 0 := by simp [ixN]
        have i2 : ixN (os.map (Ow : List Int → As)).length 0 = some 0 := by rw [List.length_map]; exact ixN_nat (i := 0) hp
        refine wp_seq (wp_rev0 (fo_ix (fo_ix (fo_var rfl) i1 rfl) i2 (by rw [List.getElem?_map, h0]; rfl)) ?_)
        have O2 := O.rev0
        have hl2 : (os.set 0 (rowO os 0).reverse).length ≤ 40 := by simpa using hol
        have ha2 : AbsOk (os.set 0 (rowO os 0).reverse).length absent := by rw [List.length_set]; exact ha
        show Wp _ [some (Sq K ns), some (Fz w), some (Fz b), some (Fz os), some (Fz (os.length : Int)), some (Fz lots), some (Fz absent), none, some (OwL [OwL ((os.map Ow).set 0 (Ow (rowO os 0).reverse)), Ow absent]), some (Fz (walkM os absent)), z10, z11, none, none] _
        rw [← List.map_set]
        generalize os.set 0 (rowO os 0).reverse = os2 at O2 hl2 ha2
        have cvh2 : Cv (OwL [OwL (os2.map Ow), Ow absent]) (Fz (H2.mk os2 absent)) := cv_h2 cv_ow2 cv_ow
        have brwC : Brw [some (Sq K ns), some (Fz w), some (Fz b), some (Fz os), some (Fz (os.length : Int)), some (Fz lots), some (Fz absent), none, some (OwL [OwL (os2.map Ow), Ow absent]), some (Fz (walkM os absent)), z10, z11, none, none] [none, none, none, none, none, none, some (Fz absent), none, some (Fz (H2.mk os2 absent)), none, none, none, none, none] :=
          .no _ (.no _ (.no _ (.no _ (.no _ (.no _ (.so cv_fz (.no _ (.so cvh2 (.no _ (.no _ (.no _ (.no _ (.no _ .nil)))))))))))))
        refine wn_no (et_brw brwC (et_tt (ev_neM (ev_fr2 (ev_walked (ev_ixH0 (x := H2.mk os2 absent) (ev_var rfl)) (ev_ixH1 (x := H2.mk os2 absent) (ev_var rfl)) O2 hl2 ha2)) (ev_fr (ev_lwalk (ev_ixH0 (x := H2.mk os2 absent) (ev_var rfl)) (ev_var rfl) O2 (show os2.length ≤ 1000 by omega)))))) (by simp) ⟨_, _, _, _, _, rfl⟩
    · rintro Γ ⟨y6, y8, y9, y10, y11, rfl⟩
      exact ⟨_, _, _, _, _, _, _, _, _, rfl⟩
  · rintro Γ ⟨x2, x3, x4, x5, x6, x8, x9, x10, x11, rfl⟩
    have O1 : OrdG [[1, 2], [3], [], []] := ordG_of [0, 1, 1, 2] (by decide)
    have O2 : OrdG [[1, 4], [2], [3], [], []] := ordG_of [0, 1, 2, 3, 1] (by decide)
    have O3 : OrdG [([] : List Int)] := ordG_of [0] (by decide)
    have a1 : AbsOk ([[1, 2], [3], [], []] : List (List Int)).length [1] := ⟨by simp, by simp⟩
    have a2 : AbsOk ([[1, 4], [2], [3], [], []] : List (List Int)).length [1, 2] := ⟨by simp, by simp⟩
    have a0 : ∀ n : Nat, AbsOk n [] := fun n => ⟨List.Pairwise.nil, fun x hx => nomatch hx⟩
    have w1 : walkM [[1, 2], [3], [], []] [1] = [[TriN 0 1 false], [TriN 0 3 true], [TriN 0 2 true]] := by decide +kernel
    have w2 : walkM [[1, 4], [2], [3], [], []] [1, 2] = [[TriN 0 1 false], [TriN 0 2 false], [TriN 0 3 true], [TriN 0 4 true]] := by decide +kernel
    have w3 : walkM [[1, 2], [3], [], []] [] = [[TriN 0 1 true], [TriN 0 2 true, TriN 1 3 true]] := by decide +kernel
    have w4 : walkM [[]] [] = [] := by decide +kernel
    refine wq_asg (a := [[1, 2], [3], [], []]) (ev_fr (ev_ls (.cons (ev_fr (ev_ls (.cons ev_int (.cons ev_int .nil)) (by simp))) (.cons (ev_fr (ev_ls (.cons ev_int .nil) (by simp))) (.cons (ev_fr ev_nil) (.cons (ev_fr ev_nil) .nil)))) (by simp))) ?_
    refine wq_no (et_tt (ev_neM (ev_fr2 (ev_walked (ev_var rfl) (ev_fr (ev_ls (.cons ev_int .nil) (by simp))) O1 (by decide) a1)) (ev_fr (ev_ls (.cons (ev_fr (ev_ls (.cons (ev_t3 ev_int ev_int ev_bl) .nil) (by simp))) (.cons (ev_fr (ev_ls (.cons (ev_t3 ev_int ev_int ev_bl) .nil) (by simp))) (.cons (ev_fr (ev_ls (.cons (ev_t3 ev_int ev_int ev_bl) .nil) (by simp))) .nil))) (by simp))))) (by rw [w1]; simp) ?_
    refine wq_asg (a := [[1, 4], [2], [3], [], []]) (ev_fr (ev_ls (.cons (ev_fr (ev_ls (.cons ev_int (.cons ev_int .nil)) (by simp))) (.cons (ev_fr (ev_ls (.cons ev_int .nil) (by simp))) (.cons (ev_fr (ev_ls (.cons ev_int .nil) (by simp))) (.cons (ev_fr ev_nil) (.cons (ev_fr ev_nil) .nil))))) (by simp))) ?_
    refine wq_no (et_tt (ev_neM (ev_fr2 (ev_walked (ev_var rfl) (ev_fr (ev_ls (.cons ev_int (.cons ev_int .nil)) (by simp))) O2 (by decide) a2)) (ev_fr (ev_ls (.cons (ev_fr (ev_ls (.cons (ev_t3 ev_int ev_int ev_bl) .nil) (by simp))) (.cons (ev_fr (ev_ls (.cons (ev_t3 ev_int ev_int ev_bl) .nil) (by simp))) (.cons (ev_fr (ev_ls (.cons (ev_t3 ev_int ev_int ev_bl) .nil) (by simp))) (.cons (ev_fr (ev_ls (.cons (ev_t3 ev_int ev_int ev_bl) .nil) (by simp))) .nil)))) (by simp))))) (by rw [w2]; simp) ?_
    refine wp_ret (ev_andV (ev_eqM (ev_fr2 (ev_walked (ev_var rfl) (ev_fr ev_nil) O1 (by decide) (a0 _))) (ev_fr (ev_ls (.cons (ev_fr (ev_ls (.cons (ev_t3 ev_int ev_int ev_bl) .nil) (by simp))) (.cons (ev_fr (ev_ls (.cons (ev_t3 ev_int ev_int ev_bl) (.cons (ev_t3 ev_int ev_int ev_bl) .nil)) (by simp))) .nil)) (by simp)))) fun _ => ev_eqM (ev_fr2 (ev_walked (ev_fr (ev_ls (.cons (ev_fr ev_nil) .nil) (by simp))) (ev_fr ev_nil) O3 (by decide) (a0 _))) (ev_fr ev_nil)) ?_
    show Fz _ = Fz true
    rw [w3, w4]
    simp
end Cc

namespace Cc
open PySem L2
/-! all rising lists of at most so many -/
def firstOf (s : List Int) : Int := match s.getLast? with
  | some x => x + 1
  | none => 1
def longerOf (n : Int) (s : List Int) : List (List Int) := (rangeI (firstOf s) n).map fun x => s ++ [x]
def setL (n : Int) : Nat → List (List Int)
  | 0 => [[]]
  | k + 1 => (setL n k).flatMap (longerOf n)
def foundM (n : Int) : Nat → List (List Int)
  | 0 => [[]]
  | k + 1 => foundM n k ++ setL n (k + 1)
theorem firstOf_snoc (s : List Int) (x : Int) : firstOf (s ++ [x]) = x + 1 := by unfold firstOf; simp
theorem AbsOk.snoc {n : Int} {s : List Int} {x : Int} : AbsOk n (s ++ [x]) ↔ AbsOk n s ∧ firstOf s ≤ x ∧ x < n := by
  unfold AbsOk
  rw [List.pairwise_append]
  constructor
  · rintro ⟨⟨h1, _, h3⟩, h4⟩
    refine ⟨⟨h1, fun y hy => h4 y (List.mem_append_left _ hy)⟩, ?_, (h4 x (by simp)).2⟩
    rcases List.eq_nil_or_concat s with rfl | ⟨s', y, rfl⟩
    · exact (h4 x (by simp)).1
    · rw [List.concat_eq_append, firstOf_snoc]
      have := h3 y (by simp) x (by simp)
      omega
  · rintro ⟨⟨h1, h2⟩, h3, h4⟩
    have hx1 : 1 ≤ x ∧ ∀ y ∈ s, y < x := by
      rcases List.eq_nil_or_concat s with rfl | ⟨s', z, rfl⟩
      · exact ⟨h3, fun y hy => nomatch hy⟩
      · rw [List.concat_eq_append] at h1 h2 h3 ⊢
        rw [firstOf_snoc] at h3
        rw [List.pairwise_append] at h1
        refine ⟨by have := (h2 z (by simp)).1; omega, fun y hy => ?_⟩
        rcases List.mem_append.mp hy with hy | hy
        · have := h1.2.2 y hy z (by simp); omega
        · rw [List.mem_singleton.mp hy]; omega
    refine ⟨⟨h1, by simp, fun a ha b hb => by rw [List.mem_singleton.mp hb]; exact hx1.2 a ha⟩, fun y hy => ?_⟩
    rcases List.mem_append.mp hy with hy | hy
    · exact h2 y hy
    · rw [List.mem_singleton.mp hy]; exact ⟨hx1.1, h4⟩
theorem absOk_nil (n : Int) : AbsOk n [] := ⟨List.Pairwise.nil, fun _ h => nomatch h⟩
theorem setL_mem {n : Int} : ∀ {k : Nat} {s : List Int}, s ∈ setL n k ↔ s.length = k ∧ AbsOk n s
  | 0, s => by
    unfold setL
    rw [List.mem_singleton]
    exact ⟨fun e => by rw [e]; exact ⟨rfl, absOk_nil n⟩, fun h => List.length_eq_zero_iff.mp h.1⟩
  | k + 1, s => by
    unfold setL
    rw [List.mem_flatMap]
    constructor
    · rintro ⟨s', h1, h2⟩
      obtain ⟨x, hx, rfl⟩ := List.mem_map.mp h2
      have ih := setL_mem.mp h1
      have := rangeI_mem.mp hx
      exact ⟨by simp [ih.1], AbsOk.snoc.mpr ⟨ih.2, this.1, this.2⟩⟩
    · rintro ⟨h1, h2⟩
      rcases List.eq_nil_or_concat s with rfl | ⟨s', x, rfl⟩
      · simp at h1
      · rw [List.concat_eq_append] at h1 h2 ⊢
        have h3 := AbsOk.snoc.mp h2
        refine ⟨s', setL_mem.mpr ⟨by simpa using h1, h3.1⟩, List.mem_map.mpr ⟨x, rangeI_mem.mpr h3.2, rfl⟩⟩
theorem foundM_mem {n : Int} : ∀ {k : Nat} {s : List Int}, s ∈ foundM n k ↔ s.length ≤ k ∧ AbsOk n s
  | 0, s => by
    unfold foundM
    rw [List.mem_singleton]
    exact ⟨fun e => by rw [e]; exact ⟨Nat.le_refl _, absOk_nil n⟩, fun h => List.length_eq_zero_iff.mp (by omega)⟩
  | k + 1, s => by
    unfold foundM
    rw [List.mem_append, foundM_mem, setL_mem]
    constructor
    · rintro (⟨h1, h2⟩ | ⟨h1, h2⟩)
      · exact ⟨by omega, h2⟩
      · exact ⟨by omega, h2⟩
    · rintro ⟨h1, h2⟩
      by_cases h : s.length ≤ k
      · exact .inl ⟨h, h2⟩
      · exact .inr ⟨by omega, h2⟩
theorem setL_len {n : Int} (hn : n ≤ 40) : ∀ k : Nat, k ≤ 3 → (setL n k).length ≤ 40 ^ k
  | 0, _ => by simp [setL]
  | k + 1, hk => by
    have ih := setL_len hn k (by omega)
    have key : ∀ l : List (List Int), (∀ s ∈ l, 1 ≤ firstOf s) → (l.flatMap (longerOf n)).length ≤ l.length * 40 := by
      intro l
      induction l with
      | nil => simp
      | cons s l ih =>
        intro h
        rw [List.flatMap_cons, List.length_append, List.length_cons]
        have h1 := ih fun s hs => h s (List.mem_cons_of_mem _ hs)
        have h2 : (longerOf n s).length ≤ 40 := by
          unfold longerOf
          rw [List.length_map, rangeI_len]
          have := h s List.mem_cons_self
          omega
        omega
    have := key (setL n k) fun s hs => by
      have := setL_mem.mp hs
      rcases List.eq_nil_or_concat s with rfl | ⟨s', x, rfl⟩
      · simp [firstOf]
      · rw [List.concat_eq_append, firstOf_snoc]
        have := this.2.2 x (by simp)
        omega
    show ((setL n k).flatMap (longerOf n)).length ≤ _
    rw [Nat.pow_succ]
    exact Nat.le_trans this (Nat.mul_le_mul_right _ ih)
theorem setL_len3 {n : Int} (hn : n ≤ 40) {k : Nat} (hk : k ≤ 3) : (setL n k).length ≤ 64000 := by
  have := setL_len hn k hk
  have h2 : 40 ^ k ≤ 40 ^ 3 := Nat.pow_le_pow_right (by decide) hk
  omega
theorem setL_len12 {n : Int} (hn : n ≤ 12) : ∀ k : Nat, k ≤ 3 → (setL n k).length ≤ 12 ^ k
  | 0, _ => by simp [setL]
  | k + 1, hk => by
    have ih := setL_len12 hn k (by omega)
    have key : ∀ l : List (List Int), (∀ s ∈ l, 1 ≤ firstOf s) → (l.flatMap (longerOf n)).length ≤ l.length * 12 := by
      intro l
      induction l with
      | nil => simp
      | cons s l ih =>
        intro h
        rw [List.flatMap_cons, List.length_append, List.length_cons]
        have h1 := ih fun s hs => h s (List.mem_cons_of_mem _ hs)
        have h2 : (longerOf n s).length ≤ 12 := by
          unfold longerOf
          rw [List.length_map, rangeI_len]
          have := h s List.mem_cons_self
          omega
        omega
    have := key (setL n k) fun s hs => by
      have := setL_mem.mp hs
      rcases List.eq_nil_or_concat s with rfl | ⟨s', x, rfl⟩
      · simp [firstOf]
      · rw [List.concat_eq_append, firstOf_snoc]
        have := this.2.2 x (by simp)
        omega
    show ((setL n k).flatMap (longerOf n)).length ≤ _
    rw [Nat.pow_succ]
    exact Nat.le_trans this (Nat.mul_le_mul_right _ ih)
theorem foundM_len {n : Int} (hn : n ≤ 12) : ∀ k : Nat, k ≤ 3 → (setL n k).length ≤ 1728 ∧ (foundM n k).length ≤ 2000 * (k + 1)
  | 0, _ => by simp [foundM, setL]
  | k + 1, hk => by
    have ih := foundM_len hn k (by omega)
    have h1 := setL_len12 hn (k + 1) hk
    have h2 : 12 ^ (k + 1) ≤ 12 ^ 3 := Nat.pow_le_pow_right (by decide) hk
    refine ⟨by omega, ?_⟩
    show (foundM n k ++ setL n (k + 1)).length ≤ _
    rw [List.length_append]
    omega
/-! the laws' own list of them -/
def lsetsM (many : Int) : List Int → List (List Int)
  | [] => [[]]
  | _ => [[]]
def lsetStep (many : Int) (found : List (List Int)) (p : Int) : List (List Int) := found ++ (found.filter fun s => decide ((s.length : Int) < many)).map fun s => s ++ [p]
def lsets (n : Nat) (many : Int) (i : Nat) : List (List Int) := ((rangeI 1 n).take i).foldl (lsetStep many) [[]]
theorem lsets_succ {n : Nat} {many : Int} {i : Nat} {p : Int} (h : (rangeI 1 n)[i]? = some p) : lsets n many (i + 1) = lsetStep many (lsets n many i) p := by
  unfold lsets
  rw [List.take_add_one, h, List.foldl_append]
  rfl
theorem lsets_mem {n : Nat} {many : Nat} : ∀ {i : Nat}, i ≤ (rangeI 1 n).length → ∀ {s : List Int}, s ∈ lsets n many i ↔ s.length ≤ many ∧ AbsOk ((i : Int) + 1) s
  | 0, _, s => by
    have e : lsets n many 0 = [[]] := rfl
    rw [e, List.mem_singleton]
    constructor
    · rintro rfl; exact ⟨Nat.zero_le _, absOk_nil _⟩
    · rintro ⟨_, h⟩
      cases s with
      | nil => rfl
      | cons x s => have := h.2 x List.mem_cons_self; simp at this; omega
  | i + 1, hi, s => by
    have hil : i < (rangeI 1 n).length := by omega
    have hg : (rangeI 1 n)[i]? = some (1 + (i : Int)) := rangeI_get (by rw [rangeI_len] at hil; exact hil)
    rw [lsets_succ hg]
    unfold lsetStep
    have ih := fun s => lsets_mem (n := n) (many := many) (i := i) (by omega) (s := s)
    rw [List.mem_append, ih]
    constructor
    · rintro (⟨h1, h2⟩ | h)
      · exact ⟨h1, h2.1, fun x hx => by have := h2.2 x hx; omega⟩
      · obtain ⟨s', h1, rfl⟩ := List.mem_map.mp h
        rw [List.mem_filter, decide_eq_true_eq, ih] at h1
        refine ⟨by simp; omega, AbsOk.snoc.mpr ⟨⟨h1.1.2.1, fun x hx => by have := h1.1.2.2 x hx; omega⟩, ?_, by omega⟩⟩
        rcases List.eq_nil_or_concat s' with rfl | ⟨s2, y, rfl⟩
        · simp [firstOf]; omega
        · rw [List.concat_eq_append, firstOf_snoc]
          have := h1.1.2.2 y (by simp)
          omega
    · rintro ⟨h1, h2⟩
      by_cases hm : (1 + (i : Int)) ∈ s
      · right
        rcases List.eq_nil_or_concat s with rfl | ⟨s', y, rfl⟩
        · cases hm
        · rw [List.concat_eq_append] at *
          have hy : y = 1 + (i : Int) := by
            rcases List.mem_append.mp hm with hm | hm
            · have a := h2.1
              rw [List.pairwise_append] at a
              have b := a.2.2 _ hm y (by simp)
              have c := (h2.2 y (by simp)).2
              omega
            · exact (List.mem_singleton.mp hm).symm
          subst hy
          refine List.mem_map.mpr ⟨s', ?_, rfl⟩
          rw [List.mem_filter, decide_eq_true_eq, ih]
          have h3 := AbsOk.snoc.mp h2
          simp at h1
          refine ⟨⟨by omega, h3.1.1, fun x hx => ⟨(h3.1.2 x hx).1, ?_⟩⟩, by omega⟩
          have a := h2.1
          rw [List.pairwise_append] at a
          have := a.2.2 x hx (1 + (i : Int)) (by simp)
          omega
      · left
        refine ⟨h1, h2.1, fun x hx => ⟨(h2.2 x hx).1, ?_⟩⟩
        have := (h2.2 x hx).2
        have : x ≠ 1 + (i : Int) := fun e => hm (e ▸ hx)
        omega
theorem lsets_len (n : Nat) (many : Int) : ∀ i : Nat, (lsets n many i).length ≤ 2 ^ i
  | 0 => by simp [lsets]
  | i + 1 => by
    have ih := lsets_len n many i
    cases h : (rangeI 1 n)[i]? with
    | none =>
      have e : lsets n many (i + 1) = lsets n many i := by
        unfold lsets
        rw [List.take_add_one, h]
        simp
      rw [e, Nat.pow_succ]
      omega
    | some p =>
      rw [lsets_succ h]
      unfold lsetStep
      rw [List.length_append, List.length_map, Nat.pow_succ]
      have := List.length_filter_le (fun s : List Int => decide ((s.length : Int) < many)) (lsets n many i)
      omega
theorem lsets_all {n : Nat} (hn : 1 ≤ n) {many : Nat} {s : List Int} : s ∈ lsets n many (rangeI 1 n).length ↔ s.length ≤ many ∧ AbsOk n s := by
  rw [lsets_mem (Nat.le_refl _), rangeI_len]
  rw [show ((((n : Int) - 1).toNat : Nat) : Int) + 1 = n by omega]
end Cc

namespace Cc
open PySem L2
/-! methods that change their object -/
/-- no list, no tuple -/
def NL (c : Cell) : Prop := (∀ xs, c.2 ≠ HO.tup xs) ∧ ∀ xs, c.2 ≠ HO.lst xs
/-- what leans on lists and tuples alone -/
def LsO (A : As) : Prop := ∀ (H H' : Hp) (v : V) (C : List Cell), (∀ t xs, H t = some (.tup xs) → H' t = some (.tup xs)) → (∀ t xs, H t = some (.lst xs) → H' t = some (.lst xs)) → A.p H v C → A.p H' v C
class EncL (α : Type) [Enc α] : Prop where
  ls : ∀ {a : α} {H H' : Hp} {v : V}, (∀ t xs, H t = some (.tup xs) → H' t = some (.tup xs)) → (∀ t xs, H t = some (.lst xs) → H' t = some (.lst xs)) → Enc.is a H v → Enc.is a H' v
instance encTL {α : Type} [Enc α] [EncT α] : EncL α := ⟨fun f _ h => EncT.tp f h⟩
instance {α : Type} [Enc α] [EncL α] : EncL (List α) := ⟨fun f g ⟨l, vs, e, h, al⟩ => ⟨l, vs, e, g _ _ h, al.mp fun _ _ r => EncL.ls f g r⟩⟩
theorem lso_fz {α : Type} [Enc α] [EncL α] {a : α} : LsO (Fz a) := fun _ _ _ _ f g ⟨e, h⟩ => ⟨e, EncL.ls f g h⟩
/-- an object's method: the object's own cells change, what is handed in stands -/
def spM {ι : Type} (ok : ι → Prop) (S0 S1 : ι → As) (Bs : ι → List As) (A : ι → As) : Sp := fun vs H Q _ => ∃ (i : ι) (Hs G : Hp) (v0 : V) (vs' : List V) (C0 : List Cell), ok i ∧ vs = v0 :: vs' ∧ Same Hs G ∧ Lo G H C0 ∧ (S0 i).p Hs v0 C0 ∧ Al3 G (Bs i) vs' ((Bs i).map fun _ => []) ∧
  ∀ v H' F C C1, Lo G H' (F ++ (C ++ C1)) → (S1 i).p (plus Hs F) v0 C1 → (A i).p (plus Hs F) v C → Q v H'
/-- the object is an instance of C without an attribute m -/
def InsO (S : As) (C : Addr) (m : Str) : Prop := ∀ (Hb H : Hp) (v : V) (C0 : List Cell), S.p Hb v C0 → Same Hb H → (∀ c ∈ C0, H c.1 = some c.2) → ∃ a dx fs, v = .ref a ∧ H a = some (.ins C dx fs) ∧ fs.lookup m = none
theorem Al3.lso {H H' : Hp} {Bs : List As} {vs : List V} {Cs : List (List Cell)} (g : Al3 H Bs vs Cs) (h : ∀ A ∈ Bs, LsO A) (f : ∀ t xs, H t = some (.tup xs) → H' t = some (.tup xs)) (f2 : ∀ t xs, H t = some (.lst xs) → H' t = some (.lst xs)) : Al3 H' Bs vs Cs := by
  induction g with
  | nil => exact .nil
  | cons r t ih => exact .cons (h _ List.mem_cons_self _ _ _ _ f f2 r) (ih fun A hA => h A (List.mem_cons_of_mem _ hA))
theorem Iv.outC {Γ : Env} {Hs G : Hp} {σ : L2.St} {H : Hp} {F X : List Cell} {Cs : List (List Cell)} (I : Iv Hs G Γ σ H F X Cs) {A : As} {i : Nat} (e : Γ[i]? = some (some A)) : ∃ v C, σ[i]? = some (some v) ∧ A.p (plus Hs F) v C ∧ Iv Hs G (Γ.set i none) σ H F (C ++ X) (Cs.set i []) ∧ Cs[i]? = some C := by
  obtain ⟨v, C, C1, C2, h1, h2, h3, h4⟩ := I.ok.get e
  have eC : Cs[i]? = some C := by rw [h2, ← h3]; simp
  refine ⟨v, C, h1, h4, ⟨I.ls, ?_, I.ok.off i, fun c h => (List.mem_append.mp h).elim (As.nt _ h4 c) (I.nx c)⟩, eC⟩
  obtain ⟨R, g1, g2⟩ := flat_set_perm (C := []) eC
  have L1 : Lo G H (F ++ (X ++ (C ++ R))) := I.lo.perm ((g1.append_left _).append_left _)
  have L2 : Lo G H (F ++ ((C ++ X) ++ R)) := L1.pk [F, X, C, R] [0, 1, 2, 3] [0, 2, 1, 3]
  exact L2.perm ((g2.symm.append_left _).append_left _)
theorem plus_at {Hs : Hp} {F : List Cell} {t : Addr} {o : HO} (h : plus Hs F t = some o) : (t, o) ∈ F ∨ Hs t = some o := by
  unfold plus at h
  cases e : F.lookup t with
  | some u =>
    rw [e] at h
    cases h
    exact .inl (lookup_mem e)
  | none =>
    rw [e] at h
    exact .inr h
section
variable {ta : TA} {Γ Γb Γ' : Env} {K : PySem.W.Frag} {j : Nat}
theorem ev_methM {ι : Type} {ok : ι → Prop} {S0 S1 : ι → As} {Bs : ι → List As} {A : ι → As} {i : ι} {C : Addr} {m : Str} {E : XK} (e : Γ[j]? = some (some (S0 i))) (hi : InsO (S0 i) C m) (hnl : ∀ H v C0, (S0 i).p H v C0 → ∀ c ∈ C0, NL c) (b : Brw Γ Γb) (ha : Ea ta Γb Γ' (Bs i)) (hz : FrL (Bs i)) (hls : ∀ B ∈ Bs i, LsO B) (hok : ok i) :
    Ev (tMeth C m (spM ok S0 S1 Bs A) [] E (tVar j) ta) Γ (Γ.set j (some (S1 i))) (A i) := fun Hs G σ H F X Cs I Q q => by
  obtain ⟨v0, C0, h1, h2, I1⟩ := I.out e
  obtain ⟨a, dx, fs, e1, e2, e3⟩ := hi _ H _ _ h2 I.b fun c hc => I1.gX (List.mem_append_left _ hc)
  refine ⟨v0, h1, a, dx, fs, e1, e2, e3, ha Hs G σ H _ _ _ (I.brw b) _ fun vs H2 F2 Cs0 Cs2 I2 r2 => ?_⟩
  have en := hz.nils r2
  subst en
  rw [nils_flat] at I2
  have I3 := I.unb2 (C := []) I2
  have I3 : Iv Hs G Γ σ H2 (F2 ++ F) X Cs := I3
  obtain ⟨v0', C0', h1', h2', I4, eC⟩ := I3.outC e
  rw [h1] at h1'
  have ev := Option.some.inj (Option.some.inj h1')
  subst ev
  have L : Lo G H2 (C0' ++ ((F2 ++ F) ++ (X ++ (Cs.set j []).flatten))) := I4.lo.pk [F2, F, C0', X, (Cs.set j []).flatten] [0, 1, 2, 3, 4] [2, 0, 1, 3, 4]
  obtain ⟨H1, LS, sG, hR, back⟩ := L.split
  have sB : Same (plus Hs (F2 ++ F)) H1 := plus_le (I.ls.trans sG) fun a o h => hR (List.mem_append_left _ h)
  rw [List.append_nil]
  refine ⟨i, plus Hs (F2 ++ F), H1, v0, vs, C0', hok, rfl, sB, LS, h2', ?_, fun v H3 F3 C3 C1 L3 r1 rA => ?_⟩
  · -- what is handed in stands in H1 too
    have big : ∀ t o, plus Hs (F2 ++ (F ++ (X ++ Cs.flatten))) t = some o → (∀ c : Cell, c ∈ C0' → NL c) → ((∃ xs, o = .tup xs) ∨ ∃ xs, o = .lst xs) → H1 t = some o := fun t o ht hn ho => by
      have hcs : ∀ c ∈ Cs.flatten, c ∈ C0' ∨ c ∈ (Cs.set j []).flatten := fun c hc => by
        obtain ⟨R0, p1, p2⟩ := flat_set_perm (C := []) eC
        rcases List.mem_append.mp (p1.mem_iff.mp hc) with h | h
        · exact .inl h
        · exact .inr (p2.mem_iff.mpr (by simpa using h))
      rcases plus_at ht with hc | ht
      · rcases List.mem_append.mp hc with hc | hc
        · exact hR (List.mem_append_left _ (List.mem_append_left _ hc))
        · rcases List.mem_append.mp hc with hc | hc
          · exact hR (List.mem_append_left _ (List.mem_append_right _ hc))
          · rcases List.mem_append.mp hc with hc | hc
            · exact hR (List.mem_append_right _ (List.mem_append_left _ hc))
            · rcases hcs _ hc with hc | hc
              · have n := hn _ hc
                rcases ho with ⟨xs, rfl⟩ | ⟨xs, rfl⟩
                · exact absurd rfl (n.1 xs)
                · exact absurd rfl (n.2 xs)
              · exact hR (List.mem_append_right _ (List.mem_append_right _ hc))
      · exact sG _ _ (I.ls _ _ ht)
    exact r2.lso hls (fun t xs h => big t _ h (hnl _ _ _ h2') (.inl ⟨xs, rfl⟩)) (fun t xs h => big t _ h (hnl _ _ _ h2') (.inr ⟨xs, rfl⟩))
  · have L4 := back L3
    rw [plus_plus] at r1 rA
    have L5 : Lo G H3 ((F3 ++ (F2 ++ F)) ++ ((C1 ++ (C3 ++ X)) ++ (Cs.set j []).flatten)) := L4.pk [F3, C3, C1, F2, F, X, (Cs.set j []).flatten] [0, 1, 2, 3, 4, 5, 6] [0, 3, 4, 2, 1, 5, 6]
    have up : Same (plus Hs (F2 ++ F)) (plus Hs (F3 ++ (F2 ++ F))) := (L5.sub (List.sublist_append_left _ _)).pUp I.ls fun c hc => List.mem_append_right _ hc
    have I5 : Iv Hs G (Γ.set j none) σ H3 (F3 ++ (F2 ++ F)) (C1 ++ (C3 ++ X)) (Cs.set j []) := ⟨I.ls, L5, I4.ok.mo up, fun c hc => by
      rcases List.mem_append.mp hc with hc | hc
      · exact As.nt _ r1 c hc
      · rcases List.mem_append.mp hc with hc | hc
        · exact As.nt _ rA c hc
        · exact I.nx c hc⟩
    have I6 := I5.put h1 r1
    rw [List.set_set] at I6
    exact q _ _ ⟨F3 ++ F2, C3, _, I6.asc, by rw [List.append_assoc]; exact rA⟩
end
end Cc
namespace Cc
open PySem L2
/-- a name's own thing is let stand -/
theorem wp_std {ts : TS} {Γ : Env} {R : Post} {i : Nat} {A B : As} (e : Γ[i]? = some (some A)) (c : Cv A B) (h : Wp ts (Γ.set i (some B)) R) : Wp ts Γ R := fun Hs G σ H F X Cs D I nx rt bk ct => by
  obtain ⟨v, C, h1, h2, I1⟩ := I.out e
  have I2 := I1.frz
  have r : B.p (plus Hs (C ++ F)) v [] := c _ _ _ _ h2 (I2.loF.pUp I.ls fun c hc => List.mem_append_right _ hc) fun c hc => I2.loF.pGc (List.mem_append_left _ hc)
  have I3 := Iv.put (C := []) I2 h1 r
  rw [List.set_set, List.set_set] at I3
  exact h Hs G σ H (C ++ F) X _ D I3 (fun Γ2 σ2 H2 F3 Cs2 r2 I2 => nx Γ2 σ2 H2 _ Cs2 r2 I2.asc)
    (fun A v H2 F3 C2 r2 L2 p2 => rt A v H2 (F3 ++ C) C2 r2 (by rw [List.append_assoc F3]; exact L2) (by rw [List.append_assoc F3]; exact p2))
    (fun Γ2 σ2 H2 F3 Cs2 r2 I2 => bk Γ2 σ2 H2 _ Cs2 r2 I2.asc) (fun Γ2 σ2 H2 F3 Cs2 r2 I2 => ct Γ2 σ2 H2 _ Cs2 r2 I2.asc)
end Cc

namespace Cc
open PySem L2
local macro_rules | `(tactic| decreasing_trivial) => `(tactic| first | (with_reducible exact ev_int) | (with_reducible exact ev_bl) | ((with_reducible apply ev_var) <;> rfl) | (with_reducible exact ea_nil) | (with_reducible exact Es.nil) | (with_reducible exact Kp.nil) | (with_reducible apply ev_non) | ((with_reducible apply ev_add) <;> decreasing_trivial) | ((with_reducible apply ev_sub) <;> decreasing_trivial) | ((with_reducible apply ev_mod) <;> decreasing_trivial) | ((with_reducible apply ev_div) <;> decreasing_trivial) | ((with_reducible apply ev_mul) <;> decreasing_trivial) | ((with_reducible apply ev_pow) <;> decreasing_trivial) | ((with_reducible apply ev_lt) <;> decreasing_trivial) | ((with_reducible apply ev_le) <;> decreasing_trivial) | ((with_reducible apply ev_gt) <;> decreasing_trivial) | ((with_reducible apply ev_ge) <;> decreasing_trivial) | ((with_reducible apply ev_eqS) <;> decreasing_trivial) | ((with_reducible apply ev_neS) <;> decreasing_trivial) | ((with_reducible apply ev_isB) <;> decreasing_trivial) | ((with_reducible apply ev_notB) <;> decreasing_trivial) | ((with_reducible apply ev_neg) <;> decreasing_trivial) | ((with_reducible apply ev_not) <;> decreasing_trivial) | ((with_reducible apply ev_len) <;> decreasing_trivial) | ((with_reducible apply ev_sum) <;> decreasing_trivial) | ((with_reducible apply ev_ixD) <;> decreasing_trivial) | ((with_reducible apply ev_ixT0) <;> decreasing_trivial) | ((with_reducible apply ev_ixT1) <;> decreasing_trivial) | ((with_reducible apply ev_ixT2) <;> decreasing_trivial) | ((with_reducible apply ev_ixP0) <;> decreasing_trivial) | ((with_reducible apply ev_ixP1) <;> decreasing_trivial) | ((with_reducible apply ev_ixDT) <;> decreasing_trivial) | ((with_reducible apply ev_fr; with_reducible apply ev_cat) <;> decreasing_trivial) | ((with_reducible apply ev_fr; with_reducible apply ev_list) <;> decreasing_trivial) | ((with_reducible apply ev_fr; with_reducible apply ev_sorted) <;> decreasing_trivial) | ((with_reducible apply ev_fr; with_reducible apply ev_slH) <;> decreasing_trivial) | ((with_reducible apply ev_fr; with_reducible apply ev_slL) <;> decreasing_trivial) | ((with_reducible apply ev_fr; with_reducible apply ev_rev) <;> decreasing_trivial) | (with_reducible apply ev_fr; with_reducible exact ev_nil) | ((with_reducible apply ev_fr; with_reducible apply ev_ls) <;> decreasing_trivial) | ((with_reducible apply Es.cons) <;> decreasing_trivial) | ((with_reducible apply ev_in) <;> decreasing_trivial) | ((with_reducible apply ev_notin) <;> decreasing_trivial) | ((with_reducible apply ev_max2) <;> decreasing_trivial) | ((with_reducible apply ev_min2) <;> decreasing_trivial) | ((with_reducible apply ev_eqD) <;> decreasing_trivial) | ((with_reducible apply ev_neD) <;> decreasing_trivial) | ((with_reducible apply ev_all) <;> decreasing_trivial) | ((with_reducible apply ev_any) <;> decreasing_trivial) | ((with_reducible apply ev_fr; with_reducible apply ev_rg1) <;> decreasing_trivial) | ((with_reducible apply ev_fr; with_reducible apply ev_rg2) <;> decreasing_trivial) | ((with_reducible apply ev_p2) <;> decreasing_trivial) | ((with_reducible apply ev_t3) <;> decreasing_trivial) | ((with_reducible apply ev_tp) <;> decreasing_trivial) | ((with_reducible apply et_tt) <;> decreasing_trivial) | ((with_reducible apply et_b) <;> decreasing_trivial) | ((with_reducible apply et_not) <;> decreasing_trivial) | ((with_reducible apply et_or) <;> decreasing_trivial) | ((with_reducible apply et_and) <;> decreasing_trivial) | ((with_reducible apply ev_andV) <;> decreasing_trivial) | ((with_reducible apply ev_orV) <;> decreasing_trivial) | ((with_reducible apply ev_chLL) <;> decreasing_trivial) | ((with_reducible apply ev_chll) <;> decreasing_trivial) | ((with_reducible apply is_list) <;> decreasing_trivial) | ((with_reducible apply is_tup) <;> decreasing_trivial) | ((with_reducible apply is_rng1) <;> decreasing_trivial) | ((with_reducible apply is_rng2) <;> decreasing_trivial) | ((with_reducible apply is_enum) <;> decreasing_trivial) | ((with_reducible apply is_zip) <;> decreasing_trivial) | ((with_reducible apply ea_1) <;> decreasing_trivial) | ((with_reducible apply ea_2) <;> decreasing_trivial) | ((with_reducible apply ea_3) <;> decreasing_trivial) | ((with_reducible apply ev_dg) <;> decreasing_trivial) | ((with_reducible apply ev_dg1) <;> decreasing_trivial) | ((with_reducible apply ev_fr; with_reducible apply ev_listD) <;> decreasing_trivial) | ((with_reducible apply ev_isi) <;> decreasing_trivial) | ((with_reducible apply ev_whole) <;> decreasing_trivial) | ((with_reducible apply ev_betw) <;> decreasing_trivial) | ((with_reducible apply ev_num) <;> decreasing_trivial) | ((apply Kp.so fr_fz) <;> decreasing_trivial) | ((apply Kp.no) <;> decreasing_trivial) | (exact Kp.nil) | (intro (_ : (_ : Bool) = _); decreasing_trivial) | (infer_instance) | (rfl) | (omega) | (decide) | (simp; done) | (skip))
/-! sets_of, rounds_of, _law_sets, _law_most -/
def roundsM (os : List (List Int)) (absent : List Int) : Int := ((walkM os absent).length : Nat)
def sp_rounds_of : Sp := spG (fun i : List (List Int) × List Int => OrdG i.1 ∧ i.1.length ≤ 1000) (fun i => [Fz i.1, Fz i.2]) (fun i => Fz (roundsM i.1 i.2))
def t_rounds_of (K : PySem.W.Frag) : TS := (tRet (tCB (qLen K) (tCons (tCall sp_walkG [] E0 (tCons (tVar 0) (tCons (tVar 1) tNil))) tNil)))
theorem v_rounds_of {K : PySem.W.Frag} {vs : List V} {H : Hp} {Q : VK} {E : XK} (h : sp_rounds_of vs H Q E) : t_rounds_of K (fin Q) (st0 2 vs) H := by
  refine v_of (n := 2) (fun ⟨os, absent⟩ ⟨O, hl⟩ => ?_) h
  exact wr (ev_len (ev_fr2 (ev_walk (ev_var rfl) (ev_var rfl) O hl)))
theorem ev_rounds {ta tb : TE} {Γ Γ1 Γ2 : Env} {os : List (List Int)} {absent : List Int} (h : Ev ta Γ Γ1 (Fz os)) (h' : Ev tb Γ1 Γ2 (Fz absent)) (O : OrdG os) (hl : os.length ≤ 1000) : Ev (tCall sp_rounds_of [] E0 (tCons ta (tCons tb tNil))) Γ Γ2 (Fz (roundsM os absent)) := ev_call (i := (os, absent)) (ea_2 h h') ⟨O, hl⟩
def sp_sets_of : Sp := spG (fun i : Nat × Nat => i.1 ≤ 12 ∧ i.2 ≤ 3) (fun i => [Fz (i.1 : Int), Fz (i.2 : Int)]) (fun i => Fz (foundM i.1 i.2))
def t_sets_of (K : PySem.W.Frag) : TS :=
(tSeq (tPar 2 3 (tCons (tLst (tCons (tLst tNil) tNil)) (tCons (tLst (tCons (tLst tNil) tNil)) tNil)))
    (tSeq (tFor (iRng1 (tCons (tVar 1) tNil)) (gName 4)
    (tSeq (tAsg (tLst tNil) (gName 5))
      (tSeq (tFor (iList K (tVar 3)) (gName 6)
      (tSeq (tAsg (tIf (tTest (tOp (rNeD K) (tVar 6) (tLst tNil))) (tOp qAdd (tOp (rIxL K) (tVar 6) (tUn qNeg (tC (.int 1)))) (tC (.int 1))) (tC (.int 1))) (gName 7))
        (tDrop (tBM K "list" rExtend (tVar 5) (tCons (tLc (iRng2 (tCons (tVar 7) (tCons (tVar 0) tNil))) (gName 8) tYes (tOp rCat (tVar 6) (tLst (tCons (tVar 8) tNil))) [8]) tNil)))))
      (tPar 2 3 (tCons (tOp rCat (tVar 2) (tVar 5)) (tCons (tVar 5) tNil))))))
    (tRet (tVar 2))))
theorem v_sets_of {K : PySem.W.Frag} {vs : List V} {H : Hp} {Q : VK} {E : XK} (h : sp_sets_of vs H Q E) : t_sets_of K (fin Q) (st0 9 vs) H := by
  refine v_of (n := 9) (fun ⟨n, m⟩ ⟨hn, hm⟩ => ?_) h
  have hn : n ≤ 12 := hn
  have hm : m ≤ 3 := hm
  show Wp (t_sets_of K) [some (Fz (n : Int)), some (Fz (m : Int)), none, none, none, none, none, none, none] (Rt (Fz (foundM n m)))
  have e0 : ∀ Γ, Ev (tLst (tCons (tLst tNil) tNil)) Γ Γ (Fz [([] : List Int)]) := fun Γ => ev_fr (ev_l1 (ev_fr ev_nil))
  refine wq_parO (e0 _) (e0 _) ?_
  refine wp_seq (wp_for (xs := rangeI 0 m) (by decreasing_trivial) bd_n (fun k Γ => ∃ x4 x5 x6 x7, Γ = [some (Fz (n : Int)), some (Fz (m : Int)), some (Fz (foundM n k)), some (Fz (setL n k)), x4, x5, x6, x7, none]) (by exact ⟨_, _, _, _, rfl⟩) ?_ ?_)
  · rintro k a Γ hk ⟨x4, x5, x6, x7, rfl⟩
    have hkm := lt_of_get hk
    rw [rangeI_len] at hkm
    have hfl := foundM_len (n := n) (by omega) k (by omega)
    have hfl2 := foundM_len (n := n) (by omega) (k + 1) (by omega)
    refine wq_asgO (A := Ow ([] : List (List Int))) ev_nil ?_
    refine wp_seq (wp_for (xs := setL n k) (by decreasing_trivial) bd_n (fun j Γ => ∃ x4 x6 x7, Γ = [some (Fz (n : Int)), some (Fz (m : Int)), some (Fz (foundM n k)), some (Fz (setL n k)), x4, some (Ow (((setL n k).take j).flatMap (longerOf n))), x6, x7, none]) (by exact ⟨_, _, _, rfl⟩) ?_ ?_)
    · rintro j s Γ hj ⟨y4, y6, y7, rfl⟩
      have hsm := List.mem_of_getElem? hj
      have hs := setL_mem.mp hsm
      have et : (setL n k).take (j + 1) = (setL n k).take j ++ [s] := by rw [List.take_add_one, hj]; rfl
      have ef : ((setL n k).take (j + 1)).flatMap (longerOf n) = ((setL n k).take j).flatMap (longerOf n) ++ longerOf n s := by rw [et, List.flatMap_append]; simp
      have hlen : (((setL n k).take (j + 1)).flatMap (longerOf n)).length ≤ 1728 := by
        have h1 : ((setL n k).take (j + 1)).flatMap (longerOf n) = (((setL n k).take (j + 1)).flatMap (longerOf n)) := rfl
        have h2 : (setL n (k + 1)).length ≤ 1728 := hfl2.1
        have h3 : setL n (k + 1) = ((setL n k).take (j + 1)).flatMap (longerOf n) ++ ((setL n k).drop (j + 1)).flatMap (longerOf n) := by
          show (setL n k).flatMap (longerOf n) = _
          rw [← List.flatMap_append, List.take_append_drop]
        rw [h3, List.length_append] at h2
        omega
      rw [ef, List.length_append] at hlen
      have hf1 : 1 ≤ firstOf s := by
        rcases List.eq_nil_or_concat s with rfl | ⟨s', x, rfl⟩
        · simp [firstOf]
        · rw [List.concat_eq_append, firstOf_snoc]
          have := hs.2.2 x (by simp)
          omega
      have hf2 : firstOf s ≤ n + 1 := by
        rcases List.eq_nil_or_concat s with rfl | ⟨s', x, rfl⟩
        · simp [firstOf]; omega
        · rw [List.concat_eq_append, firstOf_snoc]
          have := hs.2.2 x (by simp)
          omega
      have efs : ∀ Γ : Env, Γ[6]? = some (some (Fz s)) → Ev (tIf (tTest (tOp (rNeD K) (tVar 6) (tLst tNil))) (tOp qAdd (tOp (rIxL K) (tVar 6) (tUn qNeg (tC (.int 1)))) (tC (.int 1))) (tC (.int 1))) Γ Γ (Fz (firstOf s)) := fun Γ hΓ => by
        refine ev_if (b := !decide (s = [])) (et_tt (ev_neM (ev_var hΓ) (ev_fr ev_nil))) (fun hb => ?_) (fun hb => ?_)
        · rcases List.eq_nil_or_concat s with rfl | ⟨s', x, rfl⟩
          · simp at hb
          · have hx : atI (s'.concat x) (-1) = some x := atI_neg1 (by simp)
            rw [List.concat_eq_append] at hx hΓ ⊢
            rw [firstOf_snoc]
            exact ev_add (ev_ix (ev_var hΓ) (ev_neg ev_int) hx) ev_int
        · have : s = [] := by simpa using hb
          subst this
          exact ev_int
      refine wq_asg (efs _ rfl) ?_
      have em : Ev (tLc (iRng2 (tCons (tVar 7) (tCons (tVar 0) tNil))) (gName 8) tYes (tOp rCat (tVar 6) (tLst (tCons (tVar 8) tNil))) [8]) [some (Fz (n : Int)), some (Fz (m : Int)), some (Fz (foundM n k)), some (Fz (setL n k)), y4, some (Ow (((setL n k).take j).flatMap (longerOf n))), some (Fz s), some (Fz (firstOf s)), none] [some (Fz (n : Int)), some (Fz (m : Int)), some (Fz (foundM n k)), some (Fz (setL n k)), y4, some (Ow (((setL n k).take j).flatMap (longerOf n))), some (Fz s), some (Fz (firstOf s)), none] (Ow (longerOf n s)) :=
        ev_map (fun x => s ++ [x]) (by decreasing_trivial) (by decreasing_trivial) bd_n (by rw [rangeI_len]; omega) fun a ha => ⟨_, ev_fr (ev_cat (ev_var rfl) (ev_fr (ev_l1 (ev_var rfl))) (by have := hs.1; simp; omega))⟩
      exact wp_ext rfl (ev_fr em) rfl (by omega) ⟨_, _, _, by rw [ef]; rfl⟩
    rintro Γ ⟨y4, y6, y7, rfl⟩
    rw [List.take_length]
    refine wp_std (i := 5) rfl cv_ow ?_
    refine wp_par (ev_fr (ev_cat (ev_var rfl) (ev_var rfl) ?_)) (ev_var rfl) ⟨_, _, _, _, rfl⟩
    have : ((setL n k).flatMap (longerOf n)).length ≤ 1728 := hfl2.1
    omega
  · rintro Γ ⟨x4, x5, x6, x7, rfl⟩
    rw [rangeI_len, show ((m : Int) - 0).toNat = m by omega]
    exact wr (ev_var rfl)
theorem ev_sets {ta tb : TE} {Γ Γ1 Γ2 : Env} {n m : Nat} (h : Ev ta Γ Γ1 (Fz (n : Int))) (h' : Ev tb Γ1 Γ2 (Fz (m : Int))) (hn : n ≤ 12) (hm : m ≤ 3) : Ev (tCall sp_sets_of [] E0 (tCons ta (tCons tb tNil))) Γ Γ2 (Fz (foundM n m)) := ev_call (i := (n, m)) (ea_2 h h') ⟨hn, hm⟩
end Cc

namespace Cc
open PySem L2
local macro_rules | `(tactic| decreasing_trivial) => `(tactic| first | (with_reducible exact ev_int) | (with_reducible exact ev_bl) | ((with_reducible apply ev_var) <;> rfl) | (with_reducible exact ea_nil) | (with_reducible exact Es.nil) | (with_reducible exact Kp.nil) | (with_reducible apply ev_non) | ((with_reducible apply ev_add) <;> decreasing_trivial) | ((with_reducible apply ev_sub) <;> decreasing_trivial) | ((with_reducible apply ev_mod) <;> decreasing_trivial) | ((with_reducible apply ev_div) <;> decreasing_trivial) | ((with_reducible apply ev_mul) <;> decreasing_trivial) | ((with_reducible apply ev_pow) <;> decreasing_trivial) | ((with_reducible apply ev_lt) <;> decreasing_trivial) | ((with_reducible apply ev_le) <;> decreasing_trivial) | ((with_reducible apply ev_gt) <;> decreasing_trivial) | ((with_reducible apply ev_ge) <;> decreasing_trivial) | ((with_reducible apply ev_eqS) <;> decreasing_trivial) | ((with_reducible apply ev_neS) <;> decreasing_trivial) | ((with_reducible apply ev_isB) <;> decreasing_trivial) | ((with_reducible apply ev_notB) <;> decreasing_trivial) | ((with_reducible apply ev_neg) <;> decreasing_trivial) | ((with_reducible apply ev_not) <;> decreasing_trivial) | ((with_reducible apply ev_len) <;> decreasing_trivial) | ((with_reducible apply ev_sum) <;> decreasing_trivial) | ((with_reducible apply ev_ixD) <;> decreasing_trivial) | ((with_reducible apply ev_ixT0) <;> decreasing_trivial) | ((with_reducible apply ev_ixT1) <;> decreasing_trivial) | ((with_reducible apply ev_ixT2) <;> decreasing_trivial) | ((with_reducible apply ev_ixP0) <;> decreasing_trivial) | ((with_reducible apply ev_ixP1) <;> decreasing_trivial) | ((with_reducible apply ev_ixDT) <;> decreasing_trivial) | ((with_reducible apply ev_fr; with_reducible apply ev_cat) <;> decreasing_trivial) | ((with_reducible apply ev_fr; with_reducible apply ev_list) <;> decreasing_trivial) | ((with_reducible apply ev_fr; with_reducible apply ev_sorted) <;> decreasing_trivial) | ((with_reducible apply ev_fr; with_reducible apply ev_slH) <;> decreasing_trivial) | ((with_reducible apply ev_fr; with_reducible apply ev_slL) <;> decreasing_trivial) | ((with_reducible apply ev_fr; with_reducible apply ev_rev) <;> decreasing_trivial) | (with_reducible apply ev_fr; with_reducible exact ev_nil) | ((with_reducible apply ev_fr; with_reducible apply ev_ls) <;> decreasing_trivial) | ((with_reducible apply Es.cons) <;> decreasing_trivial) | ((with_reducible apply ev_in) <;> decreasing_trivial) | ((with_reducible apply ev_notin) <;> decreasing_trivial) | ((with_reducible apply ev_max2) <;> decreasing_trivial) | ((with_reducible apply ev_min2) <;> decreasing_trivial) | ((with_reducible apply ev_eqD) <;> decreasing_trivial) | ((with_reducible apply ev_neD) <;> decreasing_trivial) | ((with_reducible apply ev_all) <;> decreasing_trivial) | ((with_reducible apply ev_any) <;> decreasing_trivial) | ((with_reducible apply ev_fr; with_reducible apply ev_rg1) <;> decreasing_trivial) | ((with_reducible apply ev_fr; with_reducible apply ev_rg2) <;> decreasing_trivial) | ((with_reducible apply ev_p2) <;> decreasing_trivial) | ((with_reducible apply ev_t3) <;> decreasing_trivial) | ((with_reducible apply ev_tp) <;> decreasing_trivial) | ((with_reducible apply et_tt) <;> decreasing_trivial) | ((with_reducible apply et_b) <;> decreasing_trivial) | ((with_reducible apply et_not) <;> decreasing_trivial) | ((with_reducible apply et_or) <;> decreasing_trivial) | ((with_reducible apply et_and) <;> decreasing_trivial) | ((with_reducible apply ev_andV) <;> decreasing_trivial) | ((with_reducible apply ev_orV) <;> decreasing_trivial) | ((with_reducible apply ev_chLL) <;> decreasing_trivial) | ((with_reducible apply ev_chll) <;> decreasing_trivial) | ((with_reducible apply is_list) <;> decreasing_trivial) | ((with_reducible apply is_tup) <;> decreasing_trivial) | ((with_reducible apply is_rng1) <;> decreasing_trivial) | ((with_reducible apply is_rng2) <;> decreasing_trivial) | ((with_reducible apply is_enum) <;> decreasing_trivial) | ((with_reducible apply is_zip) <;> decreasing_trivial) | ((with_reducible apply ea_1) <;> decreasing_trivial) | ((with_reducible apply ea_2) <;> decreasing_trivial) | ((with_reducible apply ea_3) <;> decreasing_trivial) | ((with_reducible apply ev_dg) <;> decreasing_trivial) | ((with_reducible apply ev_dg1) <;> decreasing_trivial) | ((with_reducible apply ev_fr; with_reducible apply ev_listD) <;> decreasing_trivial) | ((with_reducible apply ev_isi) <;> decreasing_trivial) | ((with_reducible apply ev_whole) <;> decreasing_trivial) | ((with_reducible apply ev_betw) <;> decreasing_trivial) | ((with_reducible apply ev_num) <;> decreasing_trivial) | ((apply Kp.so fr_fz) <;> decreasing_trivial) | ((apply Kp.no) <;> decreasing_trivial) | (exact Kp.nil) | (intro (_ : (_ : Bool) = _); decreasing_trivial) | (infer_instance) | (rfl) | (omega) | (decide) | (simp; done) | (skip))
/-! _law_sets, _law_most, _law_is_worst -/
def sp__law_sets : Sp := spG (fun i : Nat × Nat => 1 ≤ i.1 ∧ i.1 ≤ 13 ∧ i.2 ≤ 100) (fun i => [Fz (i.1 : Int), Fz (i.2 : Int)]) (fun i => Fz (lsets i.1 i.2 (rangeI 1 i.1).length))
def t__law_sets (K : PySem.W.Frag) : TS :=
(tSeq (tAsg (tLst (tCons (tLst tNil) tNil)) (gName 2))
    (tSeq (tFor (iRng2 (tCons (tC (.int 1)) (tCons (tVar 0) tNil))) (gName 3)
    (tAsg (tOp rCat (tVar 2) (tLc (iList K (tVar 2)) (gName 4) (tTest (tOp qLt (tCB (qLen K) (tCons (tVar 4) tNil)) (tVar 1))) (tOp rCat (tVar 4) (tLst (tCons (tVar 3) tNil))) [4])) (gName 2)))
    (tRet (tVar 2))))
theorem v__law_sets {K : PySem.W.Frag} {vs : List V} {H : Hp} {Q : VK} {E : XK} (h : sp__law_sets vs H Q E) : t__law_sets K (fin Q) (st0 5 vs) H := by
  refine v_of (n := 5) (fun ⟨n, m⟩ ⟨h1, hn, hm⟩ => ?_) h
  have h1 : 1 ≤ n := h1
  have hn : n ≤ 13 := hn
  have hm : m ≤ 100 := hm
  show Wp (t__law_sets K) [some (Fz (n : Int)), some (Fz (m : Int)), none, none, none] (Rt (Fz (lsets n m (rangeI 1 n).length)))
  refine wq_asgO (A := Fz [([] : List Int)]) (ev_fr (ev_l1 (ev_fr ev_nil))) ?_
  refine wp_seq (wp_for (xs := rangeI 1 n) (by decreasing_trivial) bd_n (fun k Γ => ∃ x3, Γ = [some (Fz (n : Int)), some (Fz (m : Int)), some (Fz (lsets n m k)), x3, none]) (by exact ⟨_, rfl⟩) ?_ ?_)
  · rintro k p Γ hk ⟨x3, rfl⟩
    have hkl := lt_of_get hk
    rw [rangeI_len] at hkl
    have hl := lsets_len n m k
    have h2 : 2 ^ k ≤ 2 ^ 12 := Nat.pow_le_pow_right (by decide) (by omega)
    have hfl := List.length_filter_le (fun s : List Int => decide ((s.length : Int) < m)) (lsets n m k)
    have em : Ev (tLc (iList K (tVar 2)) (gName 4) (tTest (tOp qLt (tCB (qLen K) (tCons (tVar 4) tNil)) (tVar 1))) (tOp rCat (tVar 4) (tLst (tCons (tVar 3) tNil))) [4]) [some (Fz (n : Int)), some (Fz (m : Int)), some (Fz (lsets n m k)), some (Fz p), none] [some (Fz (n : Int)), some (Fz (m : Int)), some (Fz (lsets n m k)), some (Fz p), none] (Ow (((lsets n m k).filter fun s => decide ((s.length : Int) < m)).map fun s => s ++ [p])) :=
      ev_fil (fun s : List Int => decide ((s.length : Int) < m)) (fun s => s ++ [p]) (by decreasing_trivial) (by decreasing_trivial) bd_n (by omega) fun s hs => ⟨_, et_tt (ev_lt (ev_len (ev_var rfl)) (ev_var rfl)), fun hq => ⟨_, ev_fr (ev_cat (ev_var rfl) (ev_fr (ev_l1 (ev_var rfl))) (by have := of_decide_eq_true hq; simp; omega))⟩⟩
    refine wp_asg (ev_fr (ev_cat (ev_var rfl) (ev_fr em) (by rw [List.length_map]; omega))) ⟨_, by rw [lsets_succ hk]; rfl⟩
  · rintro Γ ⟨x3, rfl⟩
    exact wr (ev_var rfl)
theorem ev_lsets {ta tb : TE} {Γ Γ1 Γ2 : Env} {n m : Nat} (h : Ev ta Γ Γ1 (Fz (n : Int))) (h' : Ev tb Γ1 Γ2 (Fz (m : Int))) (h1 : 1 ≤ n) (hn : n ≤ 13) (hm : m ≤ 100) : Ev (tCall sp__law_sets [] E0 (tCons ta (tCons tb tNil))) Γ Γ2 (Fz (lsets n m (rangeI 1 n).length)) := ev_call (i := (n, m)) (ea_2 h h') ⟨h1, hn, hm⟩
/-- the most rounds -/
def IsMost (os : List (List Int)) (m : Nat) (x : Int) : Prop := (∃ s, s.length ≤ m ∧ AbsOk os.length s ∧ roundsM os s = x) ∧ ∀ s, s.length ≤ m → AbsOk os.length s → roundsM os s ≤ x
theorem IsMost.uniq {os : List (List Int)} {m : Nat} {x y : Int} (h : IsMost os m x) (h' : IsMost os m y) : x = y := by
  obtain ⟨⟨s, a1, a2, a3⟩, a4⟩ := h
  obtain ⟨⟨t, b1, b2, b3⟩, b4⟩ := h'
  have := a4 t b1 b2
  have := b4 s a1 a2
  omega
def mostM (os : List (List Int)) (m : Nat) : Int := maxL ((lsets os.length m (rangeI 1 os.length).length).map (roundsM os))
theorem mostM_is {os : List (List Int)} (hp : 1 ≤ os.length) (m : Nat) : IsMost os m (mostM os m) := by
  have hmem : ∀ s : List Int, s ∈ lsets os.length m (rangeI 1 os.length).length ↔ s.length ≤ m ∧ AbsOk os.length s := fun s => lsets_all hp
  have hne : (lsets os.length m (rangeI 1 os.length).length).map (roundsM os) ≠ [] := fun e => by
    have := (hmem []).mpr ⟨Nat.zero_le _, absOk_nil _⟩
    rw [List.map_eq_nil_iff.mp e] at this
    cases this
  refine ⟨?_, fun s h1 h2 => maxL_ge (List.mem_map.mpr ⟨s, (hmem s).mpr ⟨h1, h2⟩, rfl⟩)⟩
  obtain ⟨s, h1, h2⟩ := List.mem_map.mp (maxL_mem hne)
  have := (hmem s).mp h1
  exact ⟨s, this.1, this.2, h2⟩
def sp__law_most : Sp := spG (fun i : List (List Int) × Nat => OrdG i.1 ∧ i.1.length ≤ 13 ∧ i.2 ≤ 100) (fun i => [Fz i.1, Fz (i.2 : Int)]) (fun i => Fz (mostM i.1 i.2))
def t__law_most (K : PySem.W.Frag) : TS :=
(tRet (tCB (rMax K) (tCons (tLc (iList K (tCall sp__law_sets [] E0 (tCons (tCB (qLen K) (tCons (tVar 0) tNil)) (tCons (tVar 1) tNil)))) (gName 2) tYes (tCB (qLen K) (tCons (tCall sp__law_walk [] E0 (tCons (tVar 0) (tCons (tVar 2) tNil))) tNil)) [2]) tNil)))
theorem v__law_most {K : PySem.W.Frag} {vs : List V} {H : Hp} {Q : VK} {E : XK} (h : sp__law_most vs H Q E) : t__law_most K (fin Q) (st0 3 vs) H := by
  refine v_of (n := 3) (fun ⟨os, m⟩ ⟨O, hn, hm⟩ => ?_) h
  have O : OrdG os := O
  have hn : os.length ≤ 13 := hn
  have hm : m ≤ 100 := hm
  have hp := O.pos
  show Wp (t__law_most K) [some (Fz os), some (Fz (m : Int)), none] (Rt (Fz (mostM os m)))
  have hl := lsets_len os.length m (rangeI 1 os.length).length
  have h2 : 2 ^ (rangeI 1 os.length).length ≤ 2 ^ 12 := Nat.pow_le_pow_right (by decide) (by rw [rangeI_len]; omega)
  have hmem : ([] : List Int) ∈ lsets os.length m (rangeI 1 os.length).length := (lsets_all hp).mpr ⟨Nat.zero_le _, absOk_nil _⟩
  have hne : (lsets os.length m (rangeI 1 os.length).length).map (roundsM os) ≠ [] := fun e => by
    rw [List.map_eq_nil_iff.mp e] at hmem
    cases hmem
  have em : Ev (tLc (iList K (tCall sp__law_sets [] E0 (tCons (tCB (qLen K) (tCons (tVar 0) tNil)) (tCons (tVar 1) tNil)))) (gName 2) tYes (tCB (qLen K) (tCons (tCall sp__law_walk [] E0 (tCons (tVar 0) (tCons (tVar 2) tNil))) tNil)) [2]) [some (Fz os), some (Fz (m : Int)), none] [some (Fz os), some (Fz (m : Int)), none] (Ow ((lsets os.length m (rangeI 1 os.length).length).map (roundsM os))) :=
    ev_map (roundsM os) (is_list (ev_lsets (ev_len (ev_var rfl)) (ev_var rfl) hp hn hm)) (by decreasing_trivial) bd_n (by omega) fun s hs => ⟨_, ev_len (ev_fr (ev_lwalk (ev_var rfl) (ev_var rfl) O (by omega)))⟩
  exact wr (ev_max (ev_fr em) (maxL_mem hne) fun y hy => maxL_ge hy)
theorem ev_most {ta tb : TE} {Γ Γ1 Γ2 : Env} {os : List (List Int)} {m : Nat} (h : Ev ta Γ Γ1 (Fz os)) (h' : Ev tb Γ1 Γ2 (Fz (m : Int))) (O : OrdG os) (hn : os.length ≤ 13) (hm : m ≤ 100) : Ev (tCall sp__law_most [] E0 (tCons ta (tCons tb tNil))) Γ Γ2 (Fz (mostM os m)) := ev_call (i := (os, m)) (ea_2 h h') ⟨O, hn, hm⟩
/-- whether absent ones bring the most rounds -/
def isWorstM (os : List (List Int)) (m : Nat) (most : Int) (absent : List Int) (turns : Int) : Bool :=
  !((!decide (absent = sortI (dedup absent))) || (decide ((m : Int) < absent.length) || !(absent.map fun x => decide (0 < x) && decide (x < (os.length : Int))).all id)) && (decide (roundsM os absent = turns) && decide (turns = most))
def sp__law_is_worst : Sp := spG (fun i : List (List Int) × Nat × Int × List Int × Int => OrdG i.1 ∧ i.1.length ≤ 1000 ∧ i.2.2.2.1.length < 64) (fun i => [Fz i.1, Fz (i.2.1 : Int), Fz i.2.2.1, Fz i.2.2.2.1, Fz i.2.2.2.2]) (fun i => Fz (isWorstM i.1 i.2.1 i.2.2.1 i.2.2.2.1 i.2.2.2.2))
def t__law_is_worst (K : PySem.W.Frag) : TS :=
(tSeq (tIfS (tOr (tTest (tOp (rNeD K) (tVar 3) (tSortSet K (tVar 3)))) (tOr (tTest (tOp qGt (tCB (qLen K) (tCons (tVar 3) tNil)) (tVar 1))) (tNot (tB (tCB (rAll K) (tCons (tLc (iList K (tVar 3)) (gName 5) tYes (tChain qLt qLt (tC (.int 0)) (tVar 5) (tCB (qLen K) (tCons (tVar 0) tNil))) [5]) tNil))))))
    (tRet (tC (.bl false)))
    tNext)
    (tRet (tAndV (tOp rEq (tCB (qLen K) (tCons (tCall sp__law_walk [] E0 (tCons (tVar 0) (tCons (tVar 3) tNil))) tNil)) (tVar 4)) (tOp rEq (tVar 4) (tVar 2)))))
theorem v__law_is_worst {K : PySem.W.Frag} {vs : List V} {H : Hp} {Q : VK} {E : XK} (h : sp__law_is_worst vs H Q E) : t__law_is_worst K (fin Q) (st0 6 vs) H := by
  refine v_of (n := 6) (fun ⟨os, m, most, absent, turns⟩ ⟨O, hn, ha⟩ => ?_) h
  have O : OrdG os := O
  have hn : os.length ≤ 1000 := hn
  have ha : absent.length < 64 := ha
  show Wp (t__law_is_worst K) [some (Fz os), some (Fz (m : Int)), some (Fz most), some (Fz absent), some (Fz turns), none] (Rt (Fz (isWorstM os m most absent turns)))
  have em : Ev (tLc (iList K (tVar 3)) (gName 5) tYes (tChain qLt qLt (tC (.int 0)) (tVar 5) (tCB (qLen K) (tCons (tVar 0) tNil))) [5]) [some (Fz os), some (Fz (m : Int)), some (Fz most), some (Fz absent), some (Fz turns), none] [some (Fz os), some (Fz (m : Int)), some (Fz most), some (Fz absent), some (Fz turns), none] (Ow (absent.map fun x => decide (0 < x) && decide (x < (os.length : Int)))) :=
    ev_map _ (by decreasing_trivial) (by decreasing_trivial) bd_n (by omega) fun s hs => ⟨_, (by decreasing_trivial)⟩
  refine wq_if (et_or (et_tt (ev_neM (ev_var rfl) (ev_fr (ev_sset (ev_var rfl) ha)))) fun _ => et_or (et_tt (ev_gt (ev_len (ev_var rfl)) (ev_var rfl))) fun _ => et_not (et_b (ev_all (ev_fr em)))) (fun hb => ?_) (fun hb => ?_)
  · refine wp_ret ev_bl ?_
    show Fz _ = Fz _
    unfold isWorstM
    rw [hb]
    rfl
  · refine wp_next (wp_ret (ev_andV (ev_eqI (ev_len (ev_fr (ev_lwalk (ev_var rfl) (ev_var rfl) O hn))) (ev_var rfl)) fun _ => ev_eqI (ev_var rfl) (ev_var rfl)) ?_)
    show Fz _ = Fz _
    unfold isWorstM
    rw [hb]
    rfl
theorem ea_5 {ta tb tc td te : TE} {Γ Γ1 Γ2 Γ3 Γ4 Γ5 : Env} {A B C D E : As} (h1 : Ev ta Γ Γ1 A) (h2 : Ev tb Γ1 Γ2 B) (h3 : Ev tc Γ2 Γ3 C) (h4 : Ev td Γ3 Γ4 D) (h5 : Ev te Γ4 Γ5 E) : Ea (tCons ta (tCons tb (tCons tc (tCons td (tCons te tNil))))) Γ Γ5 [A, B, C, D, E] := ea_cons h1 (ea_cons h2 (ea_3 h3 h4 h5))
theorem ev_isw {ta tb tc td te : TE} {Γ Γ1 Γ2 Γ3 Γ4 Γ5 : Env} {os : List (List Int)} {m : Nat} {most : Int} {absent : List Int} {turns : Int} (h1 : Ev ta Γ Γ1 (Fz os)) (h2 : Ev tb Γ1 Γ2 (Fz (m : Int))) (h3 : Ev tc Γ2 Γ3 (Fz most)) (h4 : Ev td Γ3 Γ4 (Fz absent)) (h5 : Ev te Γ4 Γ5 (Fz turns)) (O : OrdG os) (hn : os.length ≤ 1000) (ha : absent.length < 64) :
    Ev (tCall sp__law_is_worst [] E0 (tCons ta (tCons tb (tCons tc (tCons td (tCons te tNil)))))) Γ Γ5 (Fz (isWorstM os m most absent turns)) := ev_call (i := (os, m, most, absent, turns)) (ea_5 h1 h2 h3 h4 h5) ⟨O, hn, ha⟩
end Cc

namespace Cc
open PySem L2
local macro_rules | `(tactic| decreasing_trivial) => `(tactic| first | (with_reducible exact ev_int) | (with_reducible exact ev_bl) | ((with_reducible apply ev_var) <;> rfl) | (with_reducible exact ea_nil) | (with_reducible exact Es.nil) | (with_reducible exact Kp.nil) | (with_reducible apply ev_non) | ((with_reducible apply ev_add) <;> decreasing_trivial) | ((with_reducible apply ev_sub) <;> decreasing_trivial) | ((with_reducible apply ev_mod) <;> decreasing_trivial) | ((with_reducible apply ev_div) <;> decreasing_trivial) | ((with_reducible apply ev_mul) <;> decreasing_trivial) | ((with_reducible apply ev_pow) <;> decreasing_trivial) | ((with_reducible apply ev_lt) <;> decreasing_trivial) | ((with_reducible apply ev_le) <;> decreasing_trivial) | ((with_reducible apply ev_gt) <;> decreasing_trivial) | ((with_reducible apply ev_ge) <;> decreasing_trivial) | ((with_reducible apply ev_eqS) <;> decreasing_trivial) | ((with_reducible apply ev_neS) <;> decreasing_trivial) | ((with_reducible apply ev_isB) <;> decreasing_trivial) | ((with_reducible apply ev_notB) <;> decreasing_trivial) | ((with_reducible apply ev_neg) <;> decreasing_trivial) | ((with_reducible apply ev_not) <;> decreasing_trivial) | ((with_reducible apply ev_len) <;> decreasing_trivial) | ((with_reducible apply ev_sum) <;> decreasing_trivial) | ((with_reducible apply ev_ixD) <;> decreasing_trivial) | ((with_reducible apply ev_ixT0) <;> decreasing_trivial) | ((with_reducible apply ev_ixT1) <;> decreasing_trivial) | ((with_reducible apply ev_ixT2) <;> decreasing_trivial) | ((with_reducible apply ev_ixP0) <;> decreasing_trivial) | ((with_reducible apply ev_ixP1) <;> decreasing_trivial) | ((with_reducible apply ev_ixDT) <;> decreasing_trivial) | ((with_reducible apply ev_fr; with_reducible apply ev_cat) <;> decreasing_trivial) | ((with_reducible apply ev_fr; with_reducible apply ev_list) <;> decreasing_trivial) | ((with_reducible apply ev_fr; with_reducible apply ev_sorted) <;> decreasing_trivial) | ((with_reducible apply ev_fr; with_reducible apply ev_slH) <;> decreasing_trivial) | ((with_reducible apply ev_fr; with_reducible apply ev_slL) <;> decreasing_trivial) | ((with_reducible apply ev_fr; with_reducible apply ev_rev) <;> decreasing_trivial) | (with_reducible apply ev_fr; with_reducible exact ev_nil) | ((with_reducible apply ev_fr; with_reducible apply ev_ls) <;> decreasing_trivial) | ((with_reducible apply Es.cons) <;> decreasing_trivial) | ((with_reducible apply ev_in) <;> decreasing_trivial) | ((with_reducible apply ev_notin) <;> decreasing_trivial) | ((with_reducible apply ev_max2) <;> decreasing_trivial) | ((with_reducible apply ev_min2) <;> decreasing_trivial) | ((with_reducible apply ev_eqD) <;> decreasing_trivial) | ((with_reducible apply ev_neD) <;> decreasing_trivial) | ((with_reducible apply ev_all) <;> decreasing_trivial) | ((with_reducible apply ev_any) <;> decreasing_trivial) | ((with_reducible apply ev_fr; with_reducible apply ev_rg1) <;> decreasing_trivial) | ((with_reducible apply ev_fr; with_reducible apply ev_rg2) <;> decreasing_trivial) | ((with_reducible apply ev_p2) <;> decreasing_trivial) | ((with_reducible apply ev_t3) <;> decreasing_trivial) | ((with_reducible apply ev_tp) <;> decreasing_trivial) | ((with_reducible apply et_tt) <;> decreasing_trivial) | ((with_reducible apply et_b) <;> decreasing_trivial) | ((with_reducible apply et_not) <;> decreasing_trivial) | ((with_reducible apply et_or) <;> decreasing_trivial) | ((with_reducible apply et_and) <;> decreasing_trivial) | ((with_reducible apply ev_andV) <;> decreasing_trivial) | ((with_reducible apply ev_orV) <;> decreasing_trivial) | ((with_reducible apply ev_chLL) <;> decreasing_trivial) | ((with_reducible apply ev_chll) <;> decreasing_trivial) | ((with_reducible apply is_list) <;> decreasing_trivial) | ((with_reducible apply is_tup) <;> decreasing_trivial) | ((with_reducible apply is_rng1) <;> decreasing_trivial) | ((with_reducible apply is_rng2) <;> decreasing_trivial) | ((with_reducible apply is_enum) <;> decreasing_trivial) | ((with_reducible apply is_zip) <;> decreasing_trivial) | ((with_reducible apply ea_1) <;> decreasing_trivial) | ((with_reducible apply ea_2) <;> decreasing_trivial) | ((with_reducible apply ea_3) <;> decreasing_trivial) | ((with_reducible apply ev_dg) <;> decreasing_trivial) | ((with_reducible apply ev_dg1) <;> decreasing_trivial) | ((with_reducible apply ev_fr; with_reducible apply ev_listD) <;> decreasing_trivial) | ((with_reducible apply ev_isi) <;> decreasing_trivial) | ((with_reducible apply ev_whole) <;> decreasing_trivial) | ((with_reducible apply ev_betw) <;> decreasing_trivial) | ((with_reducible apply ev_num) <;> decreasing_trivial) | ((apply Kp.so fr_fz) <;> decreasing_trivial) | ((apply Kp.no) <;> decreasing_trivial) | (exact Kp.nil) | (intro (_ : (_ : Bool) = _); decreasing_trivial) | (infer_instance) | (rfl) | (omega) | (decide) | (simp; done) | (skip))
/-! the class Worst -/
structure KWorst (K : PySem.W.Frag) (C : Addr) : Prop where
  cl : Cls K C
  nA : NoAttr K C "absent"
  nT : NoAttr K C "turns"
def woF (q : Addr) (t : Int) : List (Str × V) := putF "turns" (.int t) (putF "absent" (.ref q) [])
theorem woF_absent (q : Addr) (t : Int) : (woF q t).lookup ("absent" : Str) = some (.ref q) := by
  unfold woF
  rw [lookup_putF, if_neg (by decide +kernel), lookup_putF, if_pos rfl]
theorem woF_turns (q : Addr) (t : Int) : (woF q t).lookup ("turns" : Str) = some (.int t) := by
  unfold woF
  rw [lookup_putF, if_pos rfl]
theorem woF_no (q : Addr) (t : Int) {m : Str} (h1 : ¬ m = "turns") (h2 : ¬ m = "absent") : (woF q t).lookup m = none := by
  unfold woF
  rw [lookup_putF, if_neg h1, lookup_putF, if_neg h2]
  rfl
/-- an own object; what its list is -/
def WoX (C : Addr) (B : As) (t : Int) : As where
  p := fun H v Cc => ∃ x dx q C', v = .ref x ∧ Cc = [(x, HO.ins C dx (woF q t)), (dx, HO.own x)] ++ C' ∧ B.p H (.ref q) C'
  mo := fun ⟨x, dx, q, C', e, c, r⟩ s => ⟨x, dx, q, C', e, c, B.mo r s⟩
  nt := fun ⟨x, dx, q, C', e, c, r⟩ z hz => by
    rw [c] at hz
    rcases List.mem_append.mp hz with h | h
    · rcases List.mem_cons.mp h with rfl | h
      · exact fun xs y => by cases y
      · rw [List.mem_singleton.mp h]; exact fun xs y => by cases y
    · exact B.nt r z h
/-- its list its own -/
abbrev WoA (C : Addr) (absent : List Int) (t : Int) : As := WoX C (Ow absent) t
/-- standing -/
def WoF (C : Addr) (absent : List Int) (t : Int) : As where
  p := fun H v Cc => Cc = [] ∧ ∃ x dx q, v = .ref x ∧ H x = some (.ins C dx (woF q t)) ∧ H q = some (intsO absent)
  mo := fun ⟨c, x, dx, q, e, h, h2⟩ s => ⟨c, x, dx, q, e, s _ _ h, s _ _ h2⟩
  nt := fun ⟨c, _⟩ z hz => by rw [c] at hz; cases hz
theorem cv_woA {C : Addr} {absent : List Int} {t : Int} : Cv (WoA C absent t) (WoF C absent t) := fun Hb H _ _ ⟨x, dx, q, C', e, c, r⟩ s hc => by
  subst c
  obtain ⟨-, h⟩ := cv_ow Hb H _ _ r s fun c m => hc c (List.mem_append_right _ m)
  obtain ⟨p, e2, hp⟩ := is_toI h
  cases e2
  exact ⟨rfl, x, dx, q, e, hc (x, .ins C dx (woF q t)) List.mem_cons_self, hp⟩
theorem tpo_woA {C : Addr} {absent : List Int} {t : Int} : TpO (WoA C absent t) := fun H H' v Cc f ⟨x, dx, q, C', e, c, r⟩ => ⟨x, dx, q, C', e, c, tpo_ow _ _ _ _ f r⟩
theorem cv_woF {C : Addr} {absent : List Int} {t : Int} : Cv (WoF C absent t) (WoF C absent t) := fun _ _ _ _ ⟨c, x, dx, q, e, h, h2⟩ s hc => ⟨rfl, x, dx, q, e, s _ _ h, s _ _ h2⟩
theorem fr_woF {C : Addr} {absent : List Int} {t : Int} : Fr (WoF C absent t) := fun _ _ _ h => h.1
theorem ins_woF {C : Addr} {absent : List Int} {t : Int} {m : Str} (h1 : ¬ m = "turns") (h2 : ¬ m = "absent") : InsO (WoF C absent t) C m := fun _ _ _ _ ⟨c, x, dx, q, e, h, h3⟩ s _ => ⟨x, dx, _, e, s _ _ h, woF_no q t h1 h2⟩
def sp_Worst___init__ (C : Addr) : Sp := fun vs H Q _ => ∃ (H0 : Hp) (x dx pa : Addr) (absent : List Int) (t : Int), vs = [.ref x, .ref pa, .int t] ∧ Lo H0 H [(x, .ins C dx []), (dx, .own x)] ∧ H0 pa = some (intsO absent) ∧
  ∀ q H', Lo H0 H' [(q, intsO absent), (x, .ins C dx (woF q t)), (dx, .own x)] → Q .non H'
def t_Worst___init__ (K : PySem.W.Frag) : TS :=
(tSeq (sFld K (tVar 0) (tCB (qList K) (tCons (tVar 1) tNil)) "absent")
    (sFld K (tVar 0) (tVar 2) "turns"))
theorem v_Worst___init__ {K : PySem.W.Frag} {C : Addr} (T : KWorst K C) {vs : List V} {H : Hp} {Q : VK} {E : XK} (h : sp_Worst___init__ C vs H Q E) : t_Worst___init__ K (fin Q) (st0 3 vs) H := by
  obtain ⟨H0, x, dx, pa, absent, t, rfl, L, ha, k⟩ := h
  refine q_fld (vr_list (va_var rfl) (SqL.of (L.same _ _ ha))) ?_
  rintro _ H1 ⟨q, rfl, hq, rfl⟩
  have L1 := L.al hq (intsO absent)
  refine ⟨_, rfl, x, C, dx, _, rfl, L1.get (List.mem_cons_of_mem _ List.mem_cons_self), T.cl, T.nA, by decide, ?_⟩
  have L2 := Lo.wr (A := [(q, intsO absent)]) (B := [(dx, .own x)]) L1 (.ins C dx (putF "absent" (.ref q) []))
  refine s_fld (va_var rfl).r ?_
  rintro _ H2 ⟨rfl, rfl⟩
  refine ⟨_, rfl, x, C, dx, _, rfl, L2.get (List.mem_cons_of_mem _ List.mem_cons_self), T.cl, T.nT, by show 1 < 1000; decide, ?_⟩
  have L3 := Lo.wr (A := [(q, intsO absent)]) (B := [(dx, .own x)]) L2 (.ins C dx (woF q t))
  exact k q _ L3
section
variable {ta tb tc : TE} {tr : TA} {Γ Γ1 Γ2 Γ3 : Env} {C : Addr} {absent : List Int} {t : Int} {K : PySem.W.Frag}
theorem ev_mkWo (h : Ev ta Γ Γ1 (Fz absent)) (h' : Ev tb Γ1 Γ2 (Fz t)) : Ev (tMake C (sp_Worst___init__ C) [] E0 (tCons ta (tCons tb tNil))) Γ Γ2 (WoA C absent t) := fun Hs G σ H F X Cs I Q q => h Hs G σ H F X Cs I _ fun v H1 ⟨F1, C1, Cs1, I1, e1, r1⟩ => by
  subst e1
  refine h' Hs G σ H1 _ _ Cs1 I1 _ fun w H2 ⟨F2, C2, Cs2, I2, e2, r2⟩ => ?_
  subst e2
  have r2 : w = .int t := r2
  subst r2
  obtain ⟨pa, e3, hpa⟩ := is_toI r1
  subst e3
  intro x dx hx hdx hne
  have L3 := ((Lo.nil H2).al hdx (.own x)).al (p := x) (by rw [upd_ne hne.symm]; exact hx) (.ins C dx [])
  refine ⟨H2, x, dx, pa, absent, t, rfl, L3, I2.b _ _ (I2.up _ _ hpa), fun qa H' L => ⟨rfl, ?_⟩⟩
  have L4 : Lo H2 H' ([] ++ ([(x, .ins C dx (woF qa t)), (dx, .own x)] ++ [(qa, intsO absent)])) := L.pk [[(qa, intsO absent)], [(x, .ins C dx (woF qa t))], [(dx, .own x)]] [0, 1, 2] [1, 2, 0]
  have I3 := I2.ext L4 (fun c hc => by
    rcases List.mem_append.mp hc with h | h
    · rcases List.mem_cons.mp h with rfl | h
      · exact fun xs y => by cases y
      · rw [List.mem_singleton.mp h]; exact fun xs y => by cases y
    · rw [List.mem_singleton.mp h]; exact fun xs z => by cases z)
  refine q _ _ ⟨F2 ++ F1, [(x, .ins C dx (woF qa t)), (dx, .own x)] ++ [(qa, intsO absent)], Cs2, by simpa only [List.append_assoc, List.nil_append] using I3, x, dx, qa, _, rfl, rfl, Ow.of (al_ofI absent)⟩
theorem ev_wAbs (T : KWorst K C) (h : Ev ta Γ Γ1 (WoF C absent t)) : Ev (tFld K ta "absent") Γ Γ1 (Fz absent) := fun Hs G σ H F X Cs I Q q => h Hs G σ H F X Cs I _ fun v H1 ⟨F1, C1, Cs1, I1, e1, x, dx, qa, e2, h2, h3⟩ => by
  subst e1
  exact ⟨x, C, dx, _, _, e2, I1.b _ _ h2, T.cl, T.nA, woF_absent _ _, q _ _ ⟨F1, [], Cs1, I1, rfl, is_ofI h3⟩⟩
theorem ev_wTur (T : KWorst K C) (h : Ev ta Γ Γ1 (WoF C absent t)) : Ev (tFld K ta "turns") Γ Γ1 (Fz t) := fun Hs G σ H F X Cs I Q q => h Hs G σ H F X Cs I _ fun v H1 ⟨F1, C1, Cs1, I1, e1, x, dx, qa, e2, h2, h3⟩ => by
  subst e1
  exact ⟨x, C, dx, _, _, e2, I1.b _ _ h2, T.cl, T.nT, woF_turns _ _, q _ _ ⟨F1, [], Cs1, I1, rfl, rfl⟩⟩
/-- its list, a place within -/
theorem fo_wAbs {te : TE} {Γ : Env} {i : Nat} {B : As} {bk : As → As} (T : KWorst K C) (f : Fo te Γ i (WoX C B t) bk) : Fo (tFld K te "absent") Γ i B (fun B' => bk (WoX C B' t)) := fun Hs G σ H F X Cs I => by
  obtain ⟨v, C0, ⟨x, dx, q, C', e1, e2, r⟩, kc, k0⟩ := f Hs G σ H F X Cs I
  subst e1 e2
  refine ⟨.ref q, C', r, fun c hc => kc c (List.mem_append_right _ hc), fun H' F2 X' I' => ?_⟩
  obtain ⟨q1, q2, q3⟩ := k0 H' F2 X' I'
  refine ⟨fun Q k => q1 _ ⟨x, C, dx, _, _, rfl, q2 (x, .ins C dx (woF q t)) List.mem_cons_self, T.cl, T.nA, woF_absent _ _, k⟩, fun c hc => q2 c (List.mem_append_right _ hc), fun B' D' H2 TT nt r' => ?_⟩
  refine q3 (WoX C B' t) ([(x, .ins C dx (woF q t)), (dx, .own x)] ++ D') H2 (fun L LL => ?_) (fun c hc => ?_) ⟨x, dx, q, D', rfl, rfl, r'⟩
  · have L1 : Lo G H' ((F2 ++ F) ++ (C' ++ ([(x, .ins C dx (woF q t)), (dx, .own x)] ++ L))) := LL.pk [F2, F, [(x, .ins C dx (woF q t)), (dx, .own x)], C', L] [0, 1, 2, 3, 4] [0, 1, 3, 2, 4]
    have L2 := TT _ L1
    exact L2.pk [F2, F, D', [(x, .ins C dx (woF q t)), (dx, .own x)], L] [0, 1, 2, 3, 4] [0, 1, 3, 2, 4]
  · rcases List.mem_append.mp hc with h | h
    · rcases List.mem_cons.mp h with rfl | h
      · exact fun xs y => by cases y
      · rw [List.mem_singleton.mp h]; exact fun xs y => by cases y
    · exact nt c h
/-- a method of an object that stands -/
theorem ev_methF {ι : Type} {ok : ι → Prop} {S : ι → As} {Bs : ι → List As} {A : ι → As} {i : ι} {m : Str} {E : XK} (hs : Ev ta Γ Γ1 (S i)) (fs : Fr (S i)) (hi : InsO (S i) C m) (ha : Ea tr Γ1 Γ2 (Bs i)) (hok : ok i) (hz : FrL (Bs i) := by repeat (first | exact FrL.nil | refine FrL.so fr_fz ?_)) : Ev (tMeth C m (spG ok (fun i => S i :: Bs i) A) [] E ta tr) Γ Γ2 (A i) := fun Hs G σ H F X Cs I Q q => hs Hs G σ H F X Cs I _ fun v H1 ⟨F1, C1, Cs1, I1, r1⟩ => by
  have e0 := fs _ _ _ r1
  subst e0
  obtain ⟨a, dx, fl, e1, e2, e3⟩ := hi _ H1 _ _ r1 I1.b (fun c hc => nomatch hc)
  refine ⟨a, dx, fl, e1, e2, e3, ha Hs G σ H1 _ _ Cs1 I1 _ fun vs H2 F2 Cs0 Cs2 I2 r2 => ?_⟩
  have e := hz.nils r2
  subst e
  rw [nils_flat] at I2
  rw [List.append_nil]
  refine ⟨i, _, hok, I2.b, .cons (As.mo _ r1 I2.up) r2, fun w H3 F3 C3 L r => q w H3 ⟨F3 ++ (F2 ++ F1), C3, Cs2, ?_, ?_⟩⟩
  · have := I2.ext L (As.nt _ r)
    simpa only [List.append_assoc, List.nil_append] using this
  · rw [plus_plus] at r
    simpa only [List.append_assoc] using r
/-- isinstance of an own class's object -/
theorem ev_isiW {D : Addr} {b : Bool} (h : Ev ta Γ Γ1 (WoF C absent t)) (k : KIns K C) (e : PySem.W.kitOne K (.ref C) (.ref D) = some b) : Ev (tCB (rIsi K) (tCons ta (tCons (tC (.ref D)) tNil))) Γ Γ1 (Fz b) := fun Hs G σ H F X Cs I Q q => h Hs G σ H F X Cs I _ fun v H1 ⟨F1, C1, Cs1, I1, e1, x, dx, qa, e2, h2, h3⟩ => by
  subst e1 e2
  exact ⟨.ref x, .ref D, _, _, b, rfl, .own D, .base (.ins (I1.b _ _ h2) k.cl k.ha k.hn k.htk k.hm), e, q _ _ ⟨F1, [], Cs1, I1, rfl, rfl⟩⟩
end
end Cc

namespace Cc
open PySem L2
local macro_rules | `(tactic| decreasing_trivial) => `(tactic| first | (with_reducible exact ev_int) | (with_reducible exact ev_bl) | ((with_reducible apply ev_var) <;> rfl) | (with_reducible exact ea_nil) | (with_reducible exact Es.nil) | (with_reducible exact Kp.nil) | (with_reducible apply ev_non) | ((with_reducible apply ev_add) <;> decreasing_trivial) | ((with_reducible apply ev_sub) <;> decreasing_trivial) | ((with_reducible apply ev_mod) <;> decreasing_trivial) | ((with_reducible apply ev_div) <;> decreasing_trivial) | ((with_reducible apply ev_mul) <;> decreasing_trivial) | ((with_reducible apply ev_pow) <;> decreasing_trivial) | ((with_reducible apply ev_lt) <;> decreasing_trivial) | ((with_reducible apply ev_le) <;> decreasing_trivial) | ((with_reducible apply ev_gt) <;> decreasing_trivial) | ((with_reducible apply ev_ge) <;> decreasing_trivial) | ((with_reducible apply ev_eqS) <;> decreasing_trivial) | ((with_reducible apply ev_neS) <;> decreasing_trivial) | ((with_reducible apply ev_isB) <;> decreasing_trivial) | ((with_reducible apply ev_notB) <;> decreasing_trivial) | ((with_reducible apply ev_neg) <;> decreasing_trivial) | ((with_reducible apply ev_not) <;> decreasing_trivial) | ((with_reducible apply ev_len) <;> decreasing_trivial) | ((with_reducible apply ev_sum) <;> decreasing_trivial) | ((with_reducible apply ev_ixD) <;> decreasing_trivial) | ((with_reducible apply ev_ixT0) <;> decreasing_trivial) | ((with_reducible apply ev_ixT1) <;> decreasing_trivial) | ((with_reducible apply ev_ixT2) <;> decreasing_trivial) | ((with_reducible apply ev_ixP0) <;> decreasing_trivial) | ((with_reducible apply ev_ixP1) <;> decreasing_trivial) | ((with_reducible apply ev_ixDT) <;> decreasing_trivial) | ((with_reducible apply ev_fr; with_reducible apply ev_cat) <;> decreasing_trivial) | ((with_reducible apply ev_fr; with_reducible apply ev_list) <;> decreasing_trivial) | ((with_reducible apply ev_fr; with_reducible apply ev_sorted) <;> decreasing_trivial) | ((with_reducible apply ev_fr; with_reducible apply ev_slH) <;> decreasing_trivial) | ((with_reducible apply ev_fr; with_reducible apply ev_slL) <;> decreasing_trivial) | ((with_reducible apply ev_fr; with_reducible apply ev_rev) <;> decreasing_trivial) | (with_reducible apply ev_fr; with_reducible exact ev_nil) | ((with_reducible apply ev_fr; with_reducible apply ev_ls) <;> decreasing_trivial) | ((with_reducible apply Es.cons) <;> decreasing_trivial) | ((with_reducible apply ev_in) <;> decreasing_trivial) | ((with_reducible apply ev_notin) <;> decreasing_trivial) | ((with_reducible apply ev_max2) <;> decreasing_trivial) | ((with_reducible apply ev_min2) <;> decreasing_trivial) | ((with_reducible apply ev_eqD) <;> decreasing_trivial) | ((with_reducible apply ev_neD) <;> decreasing_trivial) | ((with_reducible apply ev_all) <;> decreasing_trivial) | ((with_reducible apply ev_any) <;> decreasing_trivial) | ((with_reducible apply ev_fr; with_reducible apply ev_rg1) <;> decreasing_trivial) | ((with_reducible apply ev_fr; with_reducible apply ev_rg2) <;> decreasing_trivial) | ((with_reducible apply ev_p2) <;> decreasing_trivial) | ((with_reducible apply ev_t3) <;> decreasing_trivial) | ((with_reducible apply ev_tp) <;> decreasing_trivial) | ((with_reducible apply et_tt) <;> decreasing_trivial) | ((with_reducible apply et_b) <;> decreasing_trivial) | ((with_reducible apply et_not) <;> decreasing_trivial) | ((with_reducible apply et_or) <;> decreasing_trivial) | ((with_reducible apply et_and) <;> decreasing_trivial) | ((with_reducible apply ev_andV) <;> decreasing_trivial) | ((with_reducible apply ev_orV) <;> decreasing_trivial) | ((with_reducible apply ev_chLL) <;> decreasing_trivial) | ((with_reducible apply ev_chll) <;> decreasing_trivial) | ((with_reducible apply is_list) <;> decreasing_trivial) | ((with_reducible apply is_tup) <;> decreasing_trivial) | ((with_reducible apply is_rng1) <;> decreasing_trivial) | ((with_reducible apply is_rng2) <;> decreasing_trivial) | ((with_reducible apply is_enum) <;> decreasing_trivial) | ((with_reducible apply is_zip) <;> decreasing_trivial) | ((with_reducible apply ea_1) <;> decreasing_trivial) | ((with_reducible apply ea_2) <;> decreasing_trivial) | ((with_reducible apply ea_3) <;> decreasing_trivial) | ((with_reducible apply ev_dg) <;> decreasing_trivial) | ((with_reducible apply ev_dg1) <;> decreasing_trivial) | ((with_reducible apply ev_fr; with_reducible apply ev_listD) <;> decreasing_trivial) | ((with_reducible apply ev_isi) <;> decreasing_trivial) | ((with_reducible apply ev_whole) <;> decreasing_trivial) | ((with_reducible apply ev_betw) <;> decreasing_trivial) | ((with_reducible apply ev_num) <;> decreasing_trivial) | ((apply Kp.so fr_fz) <;> decreasing_trivial) | ((apply Kp.no) <;> decreasing_trivial) | (exact Kp.nil) | (intro (_ : (_ : Bool) = _); decreasing_trivial) | (infer_instance) | (rfl) | (omega) | (decide) | (simp; done) | (skip))
/-! Worst.shows, worst -/
theorem zip_rise : ∀ (xs : List Int), (∀ p ∈ xs.zip (xs.drop 1), p.1 < p.2) ↔ xs.Pairwise (· < ·)
  | [] => by simp
  | [x] => by simp
  | x :: y :: xs => by
    have ih := zip_rise (y :: xs)
    constructor
    · intro h
      have h1 : x < y := h (x, y) (by simp)
      have h2 := ih.mp fun p hp => h p (by simp only [List.drop_one, List.tail_cons, List.zip_cons_cons] at hp ⊢; exact List.mem_cons_of_mem _ hp)
      refine List.Pairwise.cons (fun z hz => ?_) h2
      rcases List.mem_cons.mp hz with rfl | hz
      · exact h1
      · exact Int.lt_trans h1 ((List.pairwise_cons.mp h2).1 z hz)
    · intro h p hp
      obtain ⟨h1, h2⟩ := List.pairwise_cons.mp h
      simp only [List.drop_one, List.tail_cons, List.zip_cons_cons] at hp
      rcases List.mem_cons.mp hp with rfl | hp
      · exact h1 y (by simp)
      · exact ih.mpr h2 p (by simpa only [List.drop_one, List.tail_cons] using hp)
theorem isWorst_iff {os : List (List Int)} {m : Nat} {most : Int} {absent : List Int} {turns : Int} : isWorstM os m most absent turns = true ↔ absent.length ≤ m ∧ AbsOk os.length absent ∧ roundsM os absent = turns ∧ turns = most := by
  unfold isWorstM
  simp only [Bool.and_eq_true, Bool.not_eq_true', Bool.or_eq_false_iff, decide_eq_false_iff_not, decide_eq_true_eq, Bool.not_eq_false', Bool.not_eq_true, List.all_eq_true, List.mem_map, id]
  constructor
  · rintro ⟨⟨h1, h2, h3⟩, h4, h5⟩
    have h1 : absent = sortI (dedup absent) := by
      by_cases h : absent = sortI (dedup absent)
      · exact h
      · simp [h] at h1
    refine ⟨by omega, ⟨h1 ▸ sortD_lt absent, fun x hx => ?_⟩, h4, h5⟩
    have := h3 _ ⟨x, hx, rfl⟩
    simp only [Bool.and_eq_true, decide_eq_true_eq] at this
    omega
  · rintro ⟨h1, ⟨h2, h3⟩, h4, h5⟩
    refine ⟨⟨by simp [sortD_self h2], by omega, ?_⟩, h4, h5⟩
    rintro b ⟨x, hx, rfl⟩
    have := h3 x hx
    simp only [Bool.and_eq_true, decide_eq_true_eq]
    omega
def sp_Worst_shows (C : Addr) : Sp := spG (fun i : (List Int × Int) × List (List Int) × Nat => OrdG i.2.1 ∧ i.2.1.length ≤ 12 ∧ i.2.2 ≤ 3 ∧ i.1.1.length ≤ 1000) (fun i => WoF C i.1.1 i.1.2 :: [Fz i.2.1, Fz (i.2.2 : Int)]) (fun i => Fz (isWorstM i.2.1 i.2.2 (mostM i.2.1 i.2.2) i.1.1 i.1.2))
def t_Worst_shows (K : PySem.W.Frag) : TS :=
(tSeq (tIfS (tOr (tTest (tOp qGt (tCB (qLen K) (tCons (tFld K (tVar 0) "absent") tNil)) (tVar 2))) (tNot (tB (tCB (rAll K) (tCons (tLc (iList K (tFld K (tVar 0) "absent")) (gName 3) tYes (tChain qLt qLt (tC (.int 0)) (tVar 3) (tCB (qLen K) (tCons (tVar 1) tNil))) [3]) tNil)))))
    (tRet (tC (.bl false)))
    tNext)
    (tSeq (tIfS (tB (tCB (rAny K) (tCons (tLc (iZip K (tCons (tFld K (tVar 0) "absent") (tCons (L2.tSl (rSlL K) (tFld K (tVar 0) "absent") (tPart (tC (.int 1))) tNoPart) tNil))) (gTup K 2 (gCons (gName 4) (gCons (gName 5) gNil))) tYes (tOp qGe (tVar 4) (tVar 5)) [4, 5]) tNil)))
    (tRet (tC (.bl false)))
    tNext)
    (tSeq (tIfS (tTest (tOp rNe (tCall sp_rounds_of [] E0 (tCons (tVar 1) (tCons (tFld K (tVar 0) "absent") tNil))) (tFld K (tVar 0) "turns")))
    (tRet (tC (.bl false)))
    tNext)
    (tRet (tCB (rAll K) (tCons (tLc (iList K (tCall sp_sets_of [] E0 (tCons (tCB (qLen K) (tCons (tVar 1) tNil)) (tCons (tVar 2) tNil)))) (gName 6) tYes (tOp qLe (tCall sp_rounds_of [] E0 (tCons (tVar 1) (tCons (tVar 6) tNil))) (tFld K (tVar 0) "turns")) [6]) tNil))))))
theorem v_Worst_shows {K : PySem.W.Frag} {C : Addr} (T : KWorst K C) {vs : List V} {H : Hp} {Q : VK} {E : XK} (h : sp_Worst_shows C vs H Q E) : t_Worst_shows K (fin Q) (st0 7 vs) H := by
  refine v_of (n := 7) (fun ⟨⟨absent, turns⟩, os, m⟩ ⟨O, hn, hm, ha⟩ => ?_) h
  have O : OrdG os := O
  have hn : os.length ≤ 12 := hn
  have hm : m ≤ 3 := hm
  have ha : absent.length ≤ 1000 := ha
  have hp := O.pos
  show Wp (t_Worst_shows K) [some (WoF C absent turns), some (Fz os), some (Fz (m : Int)), none, none, none, none] (Rt (Fz (isWorstM os m (mostM os m) absent turns)))
  have hmost := mostM_is hp m
  generalize mostM os m = most at *
  have sv : ∀ {x3 x4 x5 x6 : Option As}, Ev (tVar 0) [some (WoF C absent turns), some (Fz os), some (Fz (m : Int)), x3, x4, x5, x6] [some (WoF C absent turns), some (Fz os), some (Fz (m : Int)), x3, x4, x5, x6] (WoF C absent turns) := ev_same rfl fr_woF
  have kk : Kp [some (WoF C absent turns), some (Fz os), some (Fz (m : Int)), none, none, none, none] [some (WoF C absent turns), some (Fz os), some (Fz (m : Int)), none, none, none, none] := Kp.so fr_woF (by decreasing_trivial)
  have em1 : Ev (tLc (iList K (tFld K (tVar 0) "absent")) (gName 3) tYes (tChain qLt qLt (tC (.int 0)) (tVar 3) (tCB (qLen K) (tCons (tVar 1) tNil))) [3]) [some (WoF C absent turns), some (Fz os), some (Fz (m : Int)), none, none, none, none] [some (WoF C absent turns), some (Fz os), some (Fz (m : Int)), none, none, none, none] (Ow (absent.map fun x => decide (0 < x) && decide (x < (os.length : Int)))) :=
    ev_map _ (is_list (ev_wAbs T sv)) kk bd_n (by omega) fun s hs => ⟨_, (by decreasing_trivial)⟩
  have hz : (absent.zip (cutA absent (some 1) none)).length ≤ absent.length := by rw [List.length_zip]; omega
  have em2 : Ev (tLc (iZip K (tCons (tFld K (tVar 0) "absent") (tCons (L2.tSl (rSlL K) (tFld K (tVar 0) "absent") (tPart (tC (.int 1))) tNoPart) tNil))) (gTup K 2 (gCons (gName 4) (gCons (gName 5) gNil))) tYes (tOp qGe (tVar 4) (tVar 5)) [4, 5]) [some (WoF C absent turns), some (Fz os), some (Fz (m : Int)), none, none, none, none] [some (WoF C absent turns), some (Fz os), some (Fz (m : Int)), none, none, none, none] (Ow ((absent.zip (cutA absent (some 1) none)).map fun p => decide (p.2 ≤ p.1))) :=
    ev_map _ (is_zip (ev_wAbs T sv) (ev_fr (ev_slL (ev_wAbs T sv) ev_int))) kk bd_2 (by omega) fun s hs => ⟨_, (by decreasing_trivial)⟩
  have hf := foundM_len (n := (os.length : Int)) (by omega) m hm
  have em3 : Ev (tLc (iList K (tCall sp_sets_of [] E0 (tCons (tCB (qLen K) (tCons (tVar 1) tNil)) (tCons (tVar 2) tNil)))) (gName 6) tYes (tOp qLe (tCall sp_rounds_of [] E0 (tCons (tVar 1) (tCons (tVar 6) tNil))) (tFld K (tVar 0) "turns")) [6]) [some (WoF C absent turns), some (Fz os), some (Fz (m : Int)), none, none, none, none] [some (WoF C absent turns), some (Fz os), some (Fz (m : Int)), none, none, none, none] (Ow ((foundM os.length m).map fun s => decide (roundsM os s ≤ turns))) :=
    ev_map _ (is_list (ev_sets (ev_len (ev_var rfl)) (ev_var rfl) hn hm)) kk bd_n (by omega) fun s hs => ⟨_, ev_le (ev_rounds (ev_var rfl) (ev_var rfl) O (by omega)) (ev_wTur T sv)⟩
  have no : ∀ {b : Bool}, (¬ (absent.length ≤ m ∧ AbsOk os.length absent ∧ roundsM os absent = turns ∧ turns = most)) → isWorstM os m most absent turns = false := fun h => by
    by_cases hb : isWorstM os m most absent turns = true
    · exact absurd (isWorst_iff.mp hb) h
    · simpa using hb
  refine wq_if (et_or (et_tt (ev_gt (ev_len (ev_wAbs T sv)) (ev_var rfl))) fun _ => et_not (et_b (ev_all (ev_fr em1)))) (fun hb => ?_) (fun hb => ?_)
  · refine wp_ret ev_bl ?_
    show Fz _ = Fz _
    rw [no (b := true)]
    rintro ⟨h1, ⟨h2, h3⟩, -, -⟩
    have e1 : decide ((m : Int) < absent.length) = false := by simp; omega
    rw [e1, Bool.false_or, Bool.not_eq_true'] at hb
    have : (absent.map fun x => decide (0 < x) && decide (x < (os.length : Int))).all id = true := by
      simp only [List.all_eq_true, List.mem_map, id]
      rintro b ⟨x, hx, rfl⟩
      have := h3 x hx
      simp only [Bool.and_eq_true, decide_eq_true_eq]
      omega
    rw [this] at hb
    cases hb
  · refine wp_next ?_
    rw [Bool.or_eq_false_iff, Bool.not_eq_false', decide_eq_false_iff_not] at hb
    have hall : ∀ x ∈ absent, 1 ≤ x ∧ x < (os.length : Int) := fun x hx => by
      have := (List.all_eq_true.mp hb.2) _ (List.mem_map.mpr ⟨x, hx, rfl⟩)
      simp only [id, Bool.and_eq_true, decide_eq_true_eq] at this
      omega
    refine wq_if (et_b (ev_any (ev_fr em2))) (fun hc => ?_) (fun hc => ?_)
    · refine wp_ret ev_bl ?_
      show Fz _ = Fz _
      rw [no (b := true)]
      rintro ⟨h1, ⟨h2, h3⟩, -, -⟩
      have := (zip_rise absent).mpr h2
      obtain ⟨b, hb1, hb2⟩ := List.any_eq_true.mp hc
      obtain ⟨p, hp1, rfl⟩ := List.mem_map.mp hb1
      rw [show cutA absent (some 1) none = absent.drop 1 from cutA_from absent 1] at hp1
      have := this p hp1
      simp only [id, decide_eq_true_eq] at hb2
      omega
    · refine wp_next ?_
      have hrise : absent.Pairwise (· < ·) := by
        refine (zip_rise absent).mp fun p hp1 => ?_
        have := (List.any_eq_false.mp hc) _ (List.mem_map.mpr ⟨p, by rw [show cutA absent (some 1) none = absent.drop 1 from cutA_from absent 1]; exact hp1, rfl⟩)
        simp only [id, decide_eq_true_eq] at this
        omega
      refine wq_if (et_tt (ev_neI (ev_rounds (ev_var rfl) (ev_wAbs T sv) O (by omega)) (ev_wTur T sv))) (fun hd => ?_) (fun hd => ?_)
      · refine wp_ret ev_bl ?_
        show Fz _ = Fz _
        rw [no (b := true)]
        rintro ⟨h1, h2, h3, -⟩
        rw [h3] at hd
        simp at hd
      · refine wp_next (wp_ret (ev_all (ev_fr em3)) ?_)
        show Fz _ = Fz _
        congr 1
        have hd : roundsM os absent = turns := by simpa using hd
        rw [Bool.eq_iff_iff, isWorst_iff]
        simp only [List.all_eq_true, List.mem_map, id]
        constructor
        · intro h
          refine ⟨by omega, ⟨hrise, hall⟩, hd, ?_⟩
          obtain ⟨⟨s, h1, h2, h3⟩, h4⟩ := hmost
          have := h _ ⟨s, foundM_mem.mpr ⟨h1, h2⟩, rfl⟩
          have h5 := h4 absent (by omega) ⟨hrise, hall⟩
          simp only [decide_eq_true_eq] at this
          omega
        · rintro ⟨h1, h2, h3, h4⟩ b ⟨s, hs, rfl⟩
          have h5 := foundM_mem.mp hs
          have := hmost.2 s h5.1 h5.2
          simp only [decide_eq_true_eq]
          omega
theorem ev_shows {tn ta tb : TE} {C : Addr} {Γ Γ1 Γ2 Γ3 : Env} {absent : List Int} {turns : Int} {os : List (List Int)} {m : Nat} (hs : Ev tn Γ Γ1 (WoF C absent turns)) (h : Ev ta Γ1 Γ2 (Fz os)) (h' : Ev tb Γ2 Γ3 (Fz (m : Int))) (O : OrdG os) (hn : os.length ≤ 12) (hm : m ≤ 3) (ha : absent.length ≤ 1000) : Ev (tMeth C "shows" (sp_Worst_shows C) [] E0 tn (tCons ta (tCons tb tNil))) Γ Γ3 (Fz (isWorstM os m (mostM os m) absent turns)) :=
  ev_methF (ι := (List Int × Int) × List (List Int) × Nat) (S := fun i => WoF C i.1.1 i.1.2) (Bs := fun i => [Fz i.2.1, Fz (i.2.2 : Int)]) (A := fun i => Fz (isWorstM i.2.1 i.2.2 (mostM i.2.1 i.2.2) i.1.1 i.1.2)) (i := ((absent, turns), os, m)) hs fr_woF (ins_woF (by decide +kernel) (by decide +kernel)) (ea_2 h h') ⟨O, hn, hm, ha⟩
/-- the worst: the first of those that bring the most -/
def worstF (os : List (List Int)) : Int × List Int → List (List Int) → Int × List Int
  | p, [] => p
  | p, s :: l => worstF os (if p.1 < roundsM os s then (roundsM os s, s) else p) l
def worstM (os : List (List Int)) (m : Nat) : Int × List Int := worstF os (-1, []) (foundM os.length m)
theorem worstF_ge (os : List (List Int)) : ∀ (l : List (List Int)) (p : Int × List Int), p.1 ≤ (worstF os p l).1 ∧ (∀ s ∈ l, roundsM os s ≤ (worstF os p l).1) ∧ (worstF os p l = p ∨ ((worstF os p l).2 ∈ l ∧ roundsM os (worstF os p l).2 = (worstF os p l).1))
  | [], p => ⟨Int.le_refl _, (fun s h => by cases h), Or.inl rfl⟩
  | s :: l, p => by
    obtain ⟨h1, h2, h3⟩ := worstF_ge os l (if p.1 < roundsM os s then (roundsM os s, s) else p)
    show p.1 ≤ (worstF os (if p.1 < roundsM os s then (roundsM os s, s) else p) l).1 ∧ (∀ t ∈ s :: l, roundsM os t ≤ (worstF os (if p.1 < roundsM os s then (roundsM os s, s) else p) l).1) ∧ (worstF os (if p.1 < roundsM os s then (roundsM os s, s) else p) l = p ∨ ((worstF os (if p.1 < roundsM os s then (roundsM os s, s) else p) l).2 ∈ s :: l ∧ roundsM os (worstF os (if p.1 < roundsM os s then (roundsM os s, s) else p) l).2 = (worstF os (if p.1 < roundsM os s then (roundsM os s, s) else p) l).1))
    by_cases hc : p.1 < roundsM os s
    · rw [if_pos hc] at h1 h2 h3 ⊢
      refine ⟨by simp only at h1; omega, fun t ht => ?_, .inr ?_⟩
      · rcases List.mem_cons.mp ht with rfl | ht
        · exact h1
        · exact h2 t ht
      · rcases h3 with h3 | h3
        · rw [h3]
          exact ⟨List.mem_cons_self, rfl⟩
        · exact ⟨List.mem_cons_of_mem _ h3.1, h3.2⟩
    · rw [if_neg hc] at h1 h2 h3 ⊢
      refine ⟨h1, fun t ht => ?_, ?_⟩
      · rcases List.mem_cons.mp ht with rfl | ht
        · omega
        · exact h2 t ht
      · rcases h3 with h3 | h3
        · exact .inl h3
        · exact .inr ⟨List.mem_cons_of_mem _ h3.1, h3.2⟩
theorem worstM_is {os : List (List Int)} (m : Nat) : (worstM os m).2.length ≤ m ∧ AbsOk os.length (worstM os m).2 ∧ roundsM os (worstM os m).2 = (worstM os m).1 ∧ IsMost os m (worstM os m).1 := by
  obtain ⟨h1, h2, h3⟩ := worstF_ge os (foundM os.length m) (-1, [])
  have h0 : ([] : List Int) ∈ foundM os.length m := foundM_mem.mpr ⟨Nat.zero_le _, absOk_nil _⟩
  have h4 := h2 _ h0
  have h5 : 0 ≤ roundsM os [] := by unfold roundsM; omega
  rcases h3 with h3 | ⟨h6, h7⟩
  · rw [h3] at h4
    have : roundsM os [] ≤ -1 := h4
    omega
  · have h8 := foundM_mem.mp h6
    exact ⟨h8.1, h8.2, h7, ⟨_, h8.1, h8.2, h7⟩, fun s a b => h2 s (foundM_mem.mpr ⟨a, b⟩)⟩
theorem worstM_most {os : List (List Int)} (hp : 1 ≤ os.length) (m : Nat) : (worstM os m).1 = mostM os m := (worstM_is m).2.2.2.uniq (mostM_is hp m)
theorem worstM_worst {os : List (List Int)} (hp : 1 ≤ os.length) (m : Nat) : isWorstM os m (mostM os m) (worstM os m).2 (worstM os m).1 = true := isWorst_iff.mpr ⟨(worstM_is m).1, (worstM_is m).2.1, (worstM_is m).2.2.1, worstM_most hp m⟩
def sp_worst (C : Addr) : Sp := spG (fun i : List (List Int) × Nat => OrdG i.1 ∧ i.1.length ≤ 12 ∧ i.2 ≤ 3) (fun i => [Fz i.1, Fz (i.2 : Int)]) (fun i => WoA C (worstM i.1 i.2).2 (worstM i.1 i.2).1)
def t_worst (K : PySem.W.Frag) (C_Worst : Addr) : TS :=
(tSeq (tDrop (tCall sp_check_orders [] E0 (tCons (tVar 0) tNil)))
    (tSeq (tIfS (tNot (tB (tCall sp_is_between [] E0 (tCons (tVar 1) (tCons (tC (.int 0)) (tCons (tC (.int 3)) tNil))))))
    tNever
    tNext)
    (tSeq (tIfS (tTest (tOp qGt (tCB (qLen K) (tCons (tVar 0) tNil)) (tC (.int 12))))
    tNever
    tNext)
    (tSeq (tPar 2 3 (tCons (tUn qNeg (tC (.int 1))) (tCons (tLst tNil) tNil)))
    (tSeq (tFor (iList K (tCall sp_sets_of [] E0 (tCons (tCB (qLen K) (tCons (tVar 0) tNil)) (tCons (tVar 1) tNil)))) (gName 4)
    (tSeq (tAsg (tCall sp_rounds_of [] E0 (tCons (tVar 0) (tCons (tVar 4) tNil))) (gName 5))
      (tIfS (tTest (tOp qGt (tVar 5) (tVar 2)))
      (tPar 2 3 (tCons (tVar 5) (tCons (tVar 4) tNil)))
      tNext)))
    (tRet (tMake C_Worst (sp_Worst___init__ C_Worst) [] E0 (tCons (tVar 3) (tCons (tVar 2) tNil)))))))))
theorem worstF_snoc (os : List (List Int)) (s : List Int) : ∀ (l : List (List Int)) (p : Int × List Int), worstF os p (l ++ [s]) = if (worstF os p l).1 < roundsM os s then (roundsM os s, s) else worstF os p l
  | [], p => rfl
  | t :: l, p => worstF_snoc os s l _
theorem v_worst {K : PySem.W.Frag} {C : Addr} {vs : List V} {H : Hp} {Q : VK} {E : XK} (h : sp_worst C vs H Q E) : t_worst K C (fin Q) (st0 6 vs) H := by
  refine v_of (n := 6) (fun ⟨os, m⟩ ⟨O, hn, hm⟩ => ?_) h
  have O : OrdG os := O
  have hn : os.length ≤ 12 := hn
  have hm : m ≤ 3 := hm
  have hp := O.pos
  show Wp (t_worst K C) [some (Fz os), some (Fz (m : Int)), none, none, none, none] (Rt (WoA C (worstM os m).2 (worstM os m).1))
  refine wq_drop (ev_chkO (by decreasing_trivial) O (by omega)) ?_
  refine wq_no (et_not (et_b (ev_betw (ev_var rfl) ev_int ev_int))) (by simp; omega) ?_
  refine wq_no (et_tt (ev_gt (ev_len (ev_var rfl)) ev_int)) (by simp; omega) ?_
  refine wq_parO (A := Fz (-1 : Int)) (B := Fz ([] : List Int)) (ev_neg ev_int) (ev_fr ev_nil) ?_
  refine wp_seq (wp_for (xs := foundM os.length m) (is_list (ev_sets (ev_len (ev_var rfl)) (ev_var rfl) hn hm)) bd_n (fun k Γ => ∃ x4 x5, Γ = [some (Fz os), some (Fz (m : Int)), some (Fz (worstF os (-1, []) ((foundM os.length m).take k)).1), some (Fz (worstF os (-1, []) ((foundM os.length m).take k)).2), x4, x5]) (by exact ⟨_, _, rfl⟩) ?_ ?_)
  · rintro k s Γ hk ⟨x4, x5, rfl⟩
    have hs : (foundM os.length m).take (k + 1) = (foundM os.length m).take k ++ [s] := by
      rw [List.take_succ, hk]; rfl
    have e := worstF_snoc os s ((foundM os.length m).take k) (-1, [])
    refine wq_asg (ev_rounds (ev_var rfl) (ev_var rfl) O (by omega)) ?_
    refine wp_if (et_tt (ev_gt (ev_var rfl) (ev_var rfl))) (fun hb => ?_) (fun hb => ?_)
    · rw [if_pos (of_decide_eq_true hb)] at e
      refine wp_par (ev_var rfl) (ev_var rfl) ⟨_, _, by rw [hs, e]; rfl⟩
    · rw [if_neg (of_decide_eq_false hb)] at e
      refine wp_next ⟨_, _, by rw [hs, e]; rfl⟩
  · rintro Γ ⟨x4, x5, rfl⟩
    rw [List.take_of_length_le (Nat.le_refl _)]
    exact wr (ev_mkWo (ev_var rfl) (ev_var rfl))
theorem ev_worst {ta tb : TE} {C : Addr} {Γ Γ1 Γ2 : Env} {os : List (List Int)} {m : Nat} (h : Ev ta Γ Γ1 (Fz os)) (h' : Ev tb Γ1 Γ2 (Fz (m : Int))) (O : OrdG os) (hn : os.length ≤ 12) (hm : m ≤ 3) : Ev (tCall (sp_worst C) [] E0 (tCons ta (tCons tb tNil))) Γ Γ2 (WoA C (worstM os m).2 (worstM os m).1) := ev_call (i := (os, m)) (ea_2 h h') ⟨O, hn, hm⟩
def sp__law_saysG : Sp := spG (fun _ : Bool × Bool => True) (fun i => [Fz i.1, Fz i.2]) (fun i => Fz (decide (i.1 = i.2)))
def t__law_saysG (K : PySem.W.Frag) : TS :=
(tRet (tAndV (tCB (rIsi K) (tCons (tVar 0) (tCons (tC (.ty "bool")) tNil))) (tOp rEq (tVar 0) (tVar 1))))
theorem v__law_saysG {K : PySem.W.Frag} {vs : List V} {H : Hp} {Q : VK} {E : XK} (h : sp__law_saysG vs H Q E) : t__law_saysG K (fin Q) (st0 2 vs) H := by
  refine v_of (n := 2) (fun ⟨a, b⟩ _ => ?_) h
  show Wp (t__law_saysG K) [some (Fz a), some (Fz b)] (Rt (Fz (decide (a = b))))
  exact wp_ret (ev_andV (ev_isM (ev_var rfl) (b := true) rfl) fun _ => ev_eqB (ev_var rfl) (ev_var rfl)) rfl
theorem ev_says {ta tb : TE} {Γ Γ1 Γ2 : Env} {a b : Bool} (h : Ev ta Γ Γ1 (Fz a)) (h' : Ev tb Γ1 Γ2 (Fz b)) : Ev (tCall sp__law_saysG [] E0 (tCons ta (tCons tb tNil))) Γ Γ2 (Fz (decide (a = b))) := ev_call (i := (a, b)) (ea_2 h h') trivial
end Cc

namespace Cc
open PySem L2
theorem _root_.L2.Room.units65 {k : Nat} {A : Around} (r : Room k A) : A.units + 65 < cLine := by have := r.un; omega
/-! {k: e, ..} -/
inductive Eps {α : Type} [Enc α] : List (TE × TE) → Env → Env → List (Int × α) → Prop
  | nil {Γ : Env} : Eps [] Γ Γ []
  | cons {ta tb : TE} {tr : List (TE × TE)} {Γ Γ1 Γ2 Γ3 : Env} {k : Int} {a : α} {N : List (Int × α)} : Ev ta Γ Γ1 (Fz k) → Ev tb Γ1 Γ2 (Fz a) → Eps tr Γ2 Γ3 N → Eps ((ta, tb) :: tr) Γ Γ3 ((k, a) :: N)
theorem Eps.run {α : Type} {_ : Enc α} {Hs G : Hp} {σ : L2.St} : ∀ {trs : List (TE × TE)} {Γ Γ' : Env} {N : List (Int × α)}, Eps trs Γ Γ' N → ∀ {H : Hp} {F X : List Cell} {Cs : List (List Cell)}, Iv Hs G Γ σ H F X Cs →
    ∀ (Qp : List (V × V) → Hp → Prop), (∀ (kvs : List (Key × V)) H' F2 Cs', Iv Hs G Γ' σ H' (F2 ++ F) X Cs' → Al (kvR (plus Hs (F2 ++ F))) N kvs → Qp (kvs.map fun kv => (kV kv.1, kv.2)) H') → tPairs trs σ H Qp
  | _, _, _, _, .nil, H, F, X, Cs, I, Qp, q => q [] H [] Cs I .nil
  | _, _, _, _, .cons (k := k) h h' t, H, F, X, Cs, I, Qp, q => by
    refine h Hs G σ H F X Cs I _ fun x H1 ⟨F1, C1, Cs1, I1, e1, r1⟩ => ?_
    subst e1
    refine h' Hs G σ H1 _ _ Cs1 I1 _ fun y H2 ⟨F2, C2, Cs2, I2, e2, r2⟩ => ?_
    subst e2
    have r1 : x = .int k := r1
    subst r1
    refine t.run I2 _ fun kvs H3 F3 Cs3 I3 al => ?_
    refine q ((.inl k, y) :: kvs) H3 (F3 ++ (F2 ++ F1)) Cs3 (by simpa only [List.append_assoc, List.nil_append] using I3) (.cons ⟨rfl, ?_⟩ ?_)
    · have := Enc.mo r2 I3.up
      simpa only [List.append_assoc] using this
    · simpa only [List.append_assoc] using al
theorem mergeK_nd {α : Type} {_ : Enc α} {H : Hp} : ∀ {N : List (Int × α)} {kvs acc : List (Key × V)}, Al (kvR H) N kvs → (N.map (·.1)).Nodup → (∀ e ∈ N, ∀ kv ∈ acc, kv.1 ≠ Sum.inl e.1) → mergeK acc kvs = acc ++ kvs
  | [], _, acc, .nil, _, _ => by simp [mergeK]
  | (k, a) :: N, _, acc, .cons (b := kv) r t, nd, dj => by
    obtain ⟨n1, n2⟩ := List.nodup_cons.mp nd
    show mergeK (putK acc kv.1 kv.2) _ = _
    have e : putK acc kv.1 kv.2 = acc ++ [(kv.1, kv.2)] := by
      unfold putK
      rw [if_neg]
      rw [List.any_eq_true]
      rintro ⟨x, hx, hx2⟩
      exact dj _ List.mem_cons_self x hx ((of_decide_eq_true hx2).trans r.1)
    rw [e, mergeK_nd t n2 fun e he x hx => ?_]
    · simp
    · rcases List.mem_append.mp hx with hx | hx
      · exact dj e (List.mem_cons_of_mem _ he) x hx
      · rw [List.mem_singleton.mp hx]
        show kv.1 ≠ _
        rw [r.1]
        intro z
        have : k = e.1 := Sum.inl.inj z
        exact n1 (List.mem_map.mpr ⟨e, he, this.symm⟩)
theorem ev_disp {α : Type} {_ : Enc α} {trs : List (TE × TE)} {Γ Γ' : Env} {N : List (Int × α)} (h : Eps trs Γ Γ' N) (nd : (N.map (·.1)).Nodup) (hn : N.length ≤ 15) : Ev (tDisp trs) Γ Γ' (OwD N) := fun Hs G σ H F X Cs I Q q p hp => by
  have I0 := I.al hp (.dK []) (fun xs z => by cases z)
  refine h.run I0 _ fun kvs H2 F2 Cs2 I2 al => ?_
  refine ⟨I2.gX (c := (p, .dK [])) List.mem_cons_self, kvs, rfl, by rw [← al.len]; exact hn, ?_⟩
  rw [mergeK_nd al nd (fun _ _ _ z => by cases z), List.nil_append]
  have I3 : Iv Hs G Γ' σ (upd H2 p (.dK kvs)) (F2 ++ F) ([(p, .dK kvs)] ++ X) Cs2 := Iv.wrX I2 (fun xs z => by cases z)
  exact q _ _ ⟨F2, [(p, .dK kvs)], Cs2, I3, p, _, rfl, rfl, al⟩
/-- not in, by data -/
theorem any_eqv {α : Type} [Enc α] [EncD α] [DecidableEq α] [EncQ α] (a : α) (xs : List α) : ((xs.map EncD.dat).any fun z => PyData.eqv z (EncD.dat a)) = decide (a ∈ xs) := by
  induction xs with
  | nil => simp
  | cons x xs ih =>
    rw [List.map_cons, List.any_cons, ih, EncQ.eqv, Bool.eq_iff_iff]
    simp only [Bool.or_eq_true, decide_eq_true_eq, List.mem_cons]
    exact ⟨fun h => h.elim (fun h => .inl h.symm) .inr, fun h => h.elim (fun h => .inl h.symm) .inr⟩
theorem ev_notinM {α : Type} [Enc α] [EncD α] [DecidableEq α] [EncQ α] {ta tb : TE} {Γ Γ1 Γ2 : Env} {K : PySem.W.Frag} {a : α} {xs : List α} (ha : Ev ta Γ Γ1 (Fz a)) (hb : Ev tb Γ1 Γ2 (Fz xs)) (hn : EncD.dep α + 1 ≤ 64 := by decide) : Ev (tOp (rNotInD K) ta tb) Γ Γ2 (Fz (!decide (a ∈ xs))) := ev_o2p ha hb fun Hb H v w s e1 e2 =>
  ⟨_, rfl, fun Q q => ⟨_, xs.map EncD.dat, EncD.dp (Enc.mo e1 s), EncD.dp (a := xs) (Enc.mo e2 s), (EncD.sh a).shaped (by omega), (EncD.sh xs).shaped hn, by rw [any_eqv]; exact q⟩⟩
theorem ev_inM {α : Type} [Enc α] [EncD α] [DecidableEq α] [EncQ α] {ta tb : TE} {Γ Γ1 Γ2 : Env} {K : PySem.W.Frag} {a : α} {xs : List α} (ha : Ev ta Γ Γ1 (Fz a)) (hb : Ev tb Γ1 Γ2 (Fz xs)) (hn : EncD.dep α + 1 ≤ 64 := by decide) : Ev (tOp (rInD K) ta tb) Γ Γ2 (Fz (decide (a ∈ xs))) := ev_o2p ha hb fun Hb H v w s e1 e2 =>
  ⟨_, rfl, fun Q q => ⟨_, xs.map EncD.dat, EncD.dp (Enc.mo e1 s), EncD.dp (a := xs) (Enc.mo e2 s), (EncD.sh a).shaped (by omega), (EncD.sh xs).shaped hn, by rw [any_eqv]; exact q⟩⟩
theorem ev_abs {ta : TE} {Γ Γ1 : Env} {i : Int} (h : Ev ta Γ Γ1 (Fz i)) : Ev (tCB qAbs (tCons ta tNil)) Γ Γ1 (Fz (if i < 0 then -i else i)) := ev_c1p h fun Hb H v s e => ⟨_, rfl, fun Q q => ⟨i, by rw [show v = .int i from e], q⟩⟩
end Cc

namespace Cc
open PySem PySem.Spec PyProof.Rows L2
/-! xs[lo::step] -/
def pickI (n : Nat) (lo : Option Int) (st : Int) : List Nat := sliceRange (sliceBounds lo none (some st) n).1 (sliceBounds lo none (some st) n).2.1 (sliceBounds lo none (some st) n).2.2
def stepA {α : Type} (xs : List α) (lo : Option Int) (st : Int) : List α := (pickI xs.length lo st).filterMap (xs[·]?)
theorem vals_pick {xs : List V} {us : List Value} (r : Vals xs us) : ∀ idx : List Nat, Vals (idx.filterMap (xs[·]?)) (idx.filterMap (us[·]?))
  | [] => .nil
  | i :: idx => by
    rw [List.filterMap_cons, List.filterMap_cons]
    cases e : xs[i]? with
    | none =>
      rw [r.none_of e]
      exact vals_pick r idx
    | some x =>
      obtain ⟨u, hu, ru⟩ := r.get e
      rw [hu]
      exact .cons ru (vals_pick r idx)
theorem stepA_pick (its : List Value) (lo : Option Int) (st : Int) : slicePick its.toArray lo none (some st) = ((pickI its.length lo st).filterMap (its[·]?)).toArray := by
  unfold slicePick pickI
  rw [List.size_toArray, show (fun x => its.toArray[x]?) = (fun x : Nat => its[x]?) from funext fun x => by simp]
theorem range_len {a b st : Int} (h : 0 < st) (ha : 0 ≤ a) : (sliceRange a b st).length ≤ (b - a).toNat := by
  unfold sliceRange
  rw [List.length_map, List.length_range, if_pos h]
  by_cases hc : a < b
  · rw [if_pos hc]
    have := ceilDiv_le (b - a) st (by omega) (by omega)
    omega
  · rw [if_neg hc]
    omega
theorem stepA_len {α : Type} (xs : List α) (lo : Option Int) {st : Int} (h : 0 < st) : (stepA xs lo st).length ≤ xs.length := by
  unfold stepA
  refine Nat.le_trans (List.length_filterMap_le _ _) ?_
  unfold pickI
  have e1 : 0 ≤ (sliceBounds lo none (some st) xs.length).1 := by
    unfold sliceBounds
    cases lo with
    | none => simp [h]
    | some i => simp [h]; omega
  have e2 : (sliceBounds lo none (some st) xs.length).2.1 = xs.length := by
    unfold sliceBounds
    simp [h]
  have e3 : (sliceBounds lo none (some st) xs.length).2.2 = st := rfl
  rw [e3]
  refine Nat.le_trans (range_len h e1) ?_
  rw [e2]
  omega
theorem stepA_mem {α : Type} {xs : List α} {lo : Option Int} {st : Int} {x : α} (h : x ∈ stepA xs lo st) : x ∈ xs := by
  unfold stepA at h
  obtain ⟨i, _, hi⟩ := List.mem_filterMap.mp h
  exact List.mem_of_getElem? hi
def tStp (K : PySem.W.Frag) (te : TE) (tl : L2.St → Hp → (Option Int → Hp → Prop) → Prop) (st : Int) : TE := fun σ H Q => te σ H fun x H1 => tl σ H1 fun lo H2 => ∃ a xs, x = .ref a ∧ SqL K H2 a xs ∧ ∀ p, H2 p = none → Q (.ref p) (upd H2 p (.lst (stepA xs lo st)))
theorem pe_stp {X : Cx} {e el : Expr} {te : TE} {tl : L2.St → Hp → (Option Int → Hp → Prop) → Prop} {st : Int} {k : Nat} {p1 p3 pos : Pos} (he : PE X e te) (hl : PO X (some el) tl) (h0 : 0 < st) : PE X (.Subscript e (.Slice (some el) none (some (.Constant (.int st) k p1)) p3) pos) (tStp X.K te tl st) := by
  refine ⟨fun pins s σ H Q I h => ?_⟩
  refine Subscript_ (thn (he.run pins s σ H _ I h) fun v s1 ⟨x, H1, I1, r1, q1⟩ => ?_)
  have hst : PO X (some (.Constant (.int st) k p1)) (tPart (tC (.int st))) := po_some pe_int
  refine wpAny_Slice (thn (hl.run pins s1 σ H1 _ I1 q1) fun vl s2 ⟨lo, H2, I2, pl, a, xs, ex, hx, q⟩ => ?_)
  subst ex
  cases r1
  refine thn (po_none.run pins s2 σ H2 (fun o H3 => o = none ∧ H3 = H2) I2 ⟨rfl, rfl⟩) fun vu s3 ⟨u, H3, I3, pu, eu, e3⟩ => ?_
  subst eu e3
  refine thn (hst.run pins s3 σ H3 (fun o H4 => o = some st ∧ H4 = H3) I3 ⟨st, rfl, rfl, rfl⟩) fun vs s4 ⟨o, H4, I4, ps, eo, e4⟩ => ?_
  subst eo e4
  have I5 : Inv X pins σ H4 { s4 with heap := s4.heap.push { cls := .type "slice", data := .fields #[vl, vu, vs] } } := I4.kept (t' := s4.toks) fun b ob q => Heap.get?_push_of_some _ q
  obtain ⟨its, r, ht, hz⟩ := I5.list hx
  have hlen := r.length
  show wpAny (model X.prog X.w) X.A (subscriptTail e (.Slice (some el) none (some (.Constant (.int st) k p1)) p3) (.ref a) (.ref s4.heap.objs.size)) (EP X pins σ Q) X.xe { s4 with heap := s4.heap.push { cls := .type "slice", data := .fields #[vl, vu, vs] } }
  refine tail_any (ops := [.ref a, .ref s4.heap.objs.size]) ht.isList.typeIs (PySem.slot_list_getitem.lookup) ?_ (by with_unfolding_all rfl)
  refine wpAny_getItem_list_slice ht.isList (Heap.IsSliceOf.new _ vl vu vs) pl pu ps (by intro z; cases z; omega) ?_ (by rw [List.size_toArray]; omega)
  rw [stepA_pick, ← hlen]
  refine ⟨.ref _, _, I5.laid (t' := s4.toks) (o := .lst (stepA xs lo st)) (fun b ob q => Heap.get?_push_of_some _ q) (Nat.le_refl _) ?_, rfl, q _ (I5.hok.fresh (Nat.le_refl _))⟩
  exact ⟨Nat.le_trans (stepA_len xs lo h0) hz, _, 0, vals_pick r _, Heap.get?_push_size _ rfl⟩
theorem al_pick {α β : Type} {R : α → β → Prop} {as : List α} {bs : List β} (h : Al R as bs) : ∀ idx : List Nat, Al R (idx.filterMap (as[·]?)) (idx.filterMap (bs[·]?))
  | [] => .nil
  | i :: idx => by
    rw [List.filterMap_cons, List.filterMap_cons]
    cases e : as[i]? with
    | none =>
      have : bs[i]? = none := by rw [List.getElem?_eq_none_iff] at e ⊢; rw [← h.len]; exact e
      rw [this]
      exact al_pick h idx
    | some x =>
      obtain ⟨u, hu, ru⟩ := h.get e
      rw [hu]
      exact .cons ru (al_pick h idx)
theorem ev_stp {α : Type} {_ : Enc α} {ta tb : TE} {Γ Γ1 Γ2 : Env} {K : PySem.W.Frag} {xs : List α} {i st : Int} (ha : Ev ta Γ Γ1 (Fz xs)) (hb : Ev tb Γ1 Γ2 (Fz i)) : Ev (tStp K ta (tPart tb) st) Γ Γ2 (Ow (stepA xs (some i) st)) := ev_o2l (r := fun x y H Q => ∃ i, y = .int i ∧ ∃ a xs, x = .ref a ∧ SqL K H a xs ∧ ∀ p, H p = none → Q (.ref p) (upd H p (.lst (stepA xs (some i) st)))) ha hb fun Hb H v w s ⟨l, vs, e1, e2, e3⟩ e4 => ⟨stepA vs (some i) st, by
    unfold stepA
    rw [e3.len]
    exact al_pick e3 _, fun Q q => ⟨i, e4, l, vs, e1, SqL.of (s _ _ e2), q⟩⟩
end Cc

namespace Cc
open PySem PySem.Spec PyProof.Rows L2
/-! C() where there is no __init__ but object's -/
structure Mk0 (K : PySem.W.Frag) (C : Addr) : Prop where
  makes : PySem.W.makesIn K C = true
  init : PySem.W.findIn K (.ref C) "__init__" = some (some (.builtin "object.__init__"))
  top : PySem.W.mroIn K C (.type "object") = some true
  kp : PySem.W.keepIn K (.ref C) = true
def tMake0 (C : Addr) : TE := fun σ H Q => ∀ x dx, H x = none → H dx = none → dx ≠ x → Q (.ref x) (upd (upd H dx (.own x)) x (.ins C dx []))
theorem run_mk0 {X : Cx} {C : Addr} {pins : List (Addr × Obj)} {σ : L2.St} {H : Hp} {s : Shared} {Q : VK} (M : Mk0 X.K C) (I : Inv X pins σ H s) (h : tMake0 C σ H Q) : wpAny (model X.prog X.w) X.A (call (.ref C) []) (EP X pins σ Q) X.xe s := by
  have hq := h (s.heap.objs.size + 1) s.heap.objs.size (I.hok.fresh (Nat.le_succ _)) (I.hok.fresh (Nat.le_refl _)) (Nat.ne_of_lt (Nat.lt_succ_self _))
  have I2 := Inv.made (C := C) I
  refine wpAny_call (make_map0 I.kIn M.makes M.init (fun self => PySem.W.Looks.of_pure (PySem.W.oi_bind _)) ?_)
  have ho : ((s.heap.push PySem.W.emptyDict).push (PySem.W.instObj C s.heap.objs.size)).get? (s.heap.objs.size + 1) = some (PySem.W.instObj C s.heap.objs.size) := by
    have := Heap.get?_push_size (s.heap.push PySem.W.emptyDict) (o := PySem.W.instObj C s.heap.objs.size) rfl
    rwa [Heap.size_push] at this
  have t1 := NwA.type_at (M := model X.prog X.w) (C := C) ho rfl
  have t2 : PySem.W.Looks (model X.prog X.w) ((s.heap.push PySem.W.emptyDict).push (PySem.W.instObj C s.heap.objs.size)) (isInstance (.ref (s.heap.objs.size + 1)) (.type "object")) true := t1.andThen (PySem.W.looks_mroIn I2.kIn M.top)
  refine codeAny_call_builtin PySem.W.oi_plain PySem.W.entry_oi (@PySem.W.check_slot (model X.prog X.w) _ _ _ "object.__init__" "object" "__init__" (.ref (s.heap.objs.size + 1)) [] [] _ PySem.W.oi_kind PySem.W.oi_split t2 (NwA.oi_args_any _ [] []) ?_)
  rw [PySem.W.oi_run]
  exact wpAny_pure (And.intro rfl ⟨V.ref (s.heap.objs.size + 1), _, I2, rfl, hq⟩)
theorem pe_mk0 {X : Cx} {C : Addr} {x : PySem.Str} {p pos : Pos} (M : Mk0 X.K C) (hg : Gl X x) (hm : X.mg x = some (.ref C)) (hdb : (x == ("__debug__" : PySem.Str)) = false := by decide) : PE X (.Call (.Name x p) [] [] pos) (tMake0 C) := by
  refine ⟨fun pins s σ H Q I h => ?_⟩
  refine wpAny_Call_Name_kw (ld_glob I hg hm ?_ hdb)
  exact PySem.W.callWith_K0 I.kIn M.kp (run_mk0 M I h)
end Cc

namespace Cc
open PySem L2
/-! News by values: its dict its own, the rest stands -/
def NwO (C : Addr) (os : List (List Int)) (N : Nw) : As where
  p := fun H v Cc => ∃ x dx p d kvs, v = .ref x ∧ H x = some (.ins C dx (newsF p d)) ∧ Enc.is os H (.ref p) ∧ Cc = [(d, HO.dK kvs)] ∧ Al (kvR H) N kvs
  mo := fun ⟨x, dx, p, d, kvs, e, h1, h2, c, al⟩ s => ⟨x, dx, p, d, kvs, e, s _ _ h1, Enc.mo h2 s, c, al.mp fun _ _ r => ⟨r.1, Enc.mo r.2 s⟩⟩
  nt := fun ⟨x, dx, p, d, kvs, e, h1, h2, c, al⟩ z hz => by rw [c] at hz; rw [List.mem_singleton.mp hz]; exact fun xs y => by cases y
/-- the dict's rows by their places -/
theorem kv_to {H : Hp} : ∀ {N : Nw} {kvs : List (Key × V)}, Al (kvR H) N kvs → ∃ M : NwM, rowsOf M = N ∧ kvs = kvsOf M ∧ Rm H M
  | [], _, .nil => ⟨[], rfl, rfl, fun _ h => nomatch h⟩
  | (k, r) :: N, _, .cons (b := kv) h t => by
    obtain ⟨M, e1, e2, e3⟩ := kv_to t
    obtain ⟨q, h1, h2⟩ := is_toI h.2
    obtain ⟨kk, vv⟩ := kv
    obtain rfl : kk = .inl k := h.1
    obtain rfl : vv = .ref q := h1
    refine ⟨(k, q, r) :: M, by show (k, r) :: rowsOf M = _; rw [e1], by rw [e2]; rfl, fun e he => ?_⟩
    rcases List.mem_cons.mp he with rfl | he
    · exact h2
    · exact e3 e he
theorem kv_of {H : Hp} : ∀ {M : NwM}, Rm H M → Al (kvR H) (rowsOf M) (kvsOf M)
  | [], _ => .nil
  | e :: M, h => .cons ⟨rfl, is_ofI (h e List.mem_cons_self)⟩ (kv_of fun x hx => h x (List.mem_cons_of_mem _ hx))
section
variable {ta tb tc : TE} {Γ Γ1 Γ2 : Env} {C : Addr} {os : List (List Int)} {N : Nw} {K : PySem.W.Frag} {j : Nat}
theorem ev_mkNw (h : Ev ta Γ Γ1 (Fz os)) (h1 : 1 ≤ os.length) (h2 : os.length ≤ 10000) : Ev (tMake C (sp_News___init__ C) [] E0 (tCons ta tNil)) Γ Γ1 (NwO C os [(0, os.getD 0 [])]) := fun Hs G σ H F X Cs I Q q => h Hs G σ H F X Cs I _ fun v H1 ⟨F1, C1, Cs1, I1, e1, r1⟩ => by
  subst e1
  obtain ⟨po, pso, e3, R⟩ := is_toLL r1
  subst e3
  intro x dx hx hdx hne
  have L3 := ((Lo.nil H1).al hdx (.own x)).al (p := x) (by rw [upd_ne hne.symm]; exact hx) (.ins C dx [])
  refine ⟨H1, x, dx, po, pso, os, rfl, L3, R.same I1.b, h1, h2, fun p ps d qq H' L hps => ⟨rfl, ?_⟩⟩
  have L4 : Lo H1 H' (((qq, intsO (os.getD 0 [])) :: (x, .ins C dx (newsF p d)) :: (dx, .own x) :: llC p ps os) ++ [(d, .dK (kvsOf [(0, qq, os.getD 0 [])]))]) := L.pk [[(d, .dK (kvsOf [(0, qq, os.getD 0 [])]))], (qq, intsO (os.getD 0 [])) :: (x, .ins C dx (newsF p d)) :: (dx, .own x) :: llC p ps os] [0, 1] [1, 0]
  have I3 := I1.ext L4 (fun c hc => by rw [List.mem_singleton.mp hc]; exact fun xs z => by cases z)
  have LF := I3.loF
  have gF : ∀ {a : Addr} {o : HO}, (a, o) ∈ ((qq, intsO (os.getD 0 [])) :: (x, .ins C dx (newsF p d)) :: (dx, .own x) :: llC p ps os) → plus Hs (((qq, intsO (os.getD 0 [])) :: (x, .ins C dx (newsF p d)) :: (dx, .own x) :: llC p ps os) ++ (F1 ++ F)) a = some o := fun {a o} h => LF.pGc (c := (a, o)) (List.mem_append_left _ h)
  refine q _ _ ⟨((qq, intsO (os.getD 0 [])) :: (x, .ins C dx (newsF p d)) :: (dx, .own x) :: llC p ps os) ++ F1, [(d, .dK (kvsOf [(0, qq, os.getD 0 [])]))], Cs1, I3.asc, x, dx, p, d, _, rfl, ?_, ?_, rfl, ?_⟩
  · rw [List.append_assoc]
    exact gF (List.mem_cons_of_mem _ List.mem_cons_self)
  · rw [List.append_assoc]
    exact is_ofLL (Rows.of_mem (fun h => gF (List.mem_cons_of_mem _ (List.mem_cons_of_mem _ (List.mem_cons_of_mem _ h)))) hps)
  · rw [List.append_assoc]
    exact kv_of (M := [(0, qq, os.getD 0 [])]) fun e he => by
      rw [List.mem_singleton.mp he]
      exact gF List.mem_cons_self
theorem Iv.nw {Hs G : Hp} {σ : L2.St} {H : Hp} {F X : List Cell} {Cs : List (List Cell)} (I : Iv Hs G Γ σ H F X Cs) (e : Γ[j]? = some (some (NwO C os N))) : ∃ x dx p ps d M, σ[j]? = some (some (.ref x)) ∧ NwR (plus Hs F) C x dx p ps os d ∧ rowsOf M = N ∧ Rm (plus Hs F) M ∧ H d = some (.dK (kvsOf M)) := by
  obtain ⟨v, C0, h1, ⟨x, dx, p, d, kvs, e1, h2, h3, c, al⟩, I1⟩ := I.out e
  subst e1 c
  obtain ⟨M, e1, e2, e3⟩ := kv_to al
  subst e2
  obtain ⟨p', ps, e4, R⟩ := is_toLL h3
  cases e4
  exact ⟨x, dx, p, ps, d, M, h1, ⟨h2, R⟩, e1, e3, I1.gX (c := (d, .dK (kvsOf M))) List.mem_cons_self⟩
theorem ev_nwCallers (e : Γ[j]? = some (some (NwO C os N))) (hn : N.length ≤ 10000) : Ev (tMeth C "callers" (sp_News_callers C) [] E0 (tVar j) tNil) Γ Γ (Ow (callersM N)) := fun Hs G σ H F X Cs I Q q => by
  obtain ⟨x, dx, p, ps, d, M, h1, R, e1, rm, hd⟩ := I.nw e
  have hl : (rowsOf M).length = M.length := by unfold rowsOf; rw [List.length_map]
  have hx := I.b _ _ R.x
  refine ⟨_, h1, x, dx, _, rfl, hx, newsF_no _ _ (by decide +kernel) (by decide +kernel), x, dx, p, d, M, rfl, hx, hd, rm.same I.b, by rw [← hl, e1]; exact hn, fun l H' L => ?_⟩
  rw [e1] at L
  have I2 := I.ext (F2 := []) L (fun c hc => by rw [List.mem_singleton.mp hc]; exact fun xs z => by cases z)
  exact q _ _ ⟨[], [(l, intsO (callersM N))], Cs, I2, Ow.of (al_ofI _)⟩
theorem ev_nwNext {c n : Int} {rest : List Int} (e : Γ[j]? = some (some (NwO C os N))) (h : Ev ta Γ Γ (Fz c)) (hv : gVal N c = some (n :: rest)) : Ev (tMeth C "next_of" (sp_News_next_of C) [] E0 (tVar j) (tCons ta tNil)) Γ Γ (Fz n) := fun Hs G σ H F X Cs I Q q => by
  obtain ⟨x, dx, p, ps, d, M, h1, R, e1, rm, hd⟩ := I.nw e
  have hx := I.b _ _ R.x
  refine ⟨_, h1, x, dx, _, rfl, hx, newsF_no _ _ (by decide +kernel) (by decide +kernel), h Hs G σ H F X Cs I _ fun v H1 ⟨F1, C1, Cs1, I1, e2, r1⟩ => ?_⟩
  subst e2
  have r1 : v = .int c := r1
  subst r1
  obtain ⟨x', dx', p', ps', d', M', h1', R', e1', rm', hd'⟩ := I1.nw e
  rw [h1] at h1'
  cases h1'
  rw [← e1'] at hv
  have : ∃ qa, gVal M' c = some (qa, n :: rest) := by
    unfold rowsOf at hv
    rw [gVal_map (fun e : Addr × List Int => e.2)] at hv
    cases hg : gVal M' c with
    | none => rw [hg] at hv; cases hv
    | some y =>
      rw [hg] at hv
      obtain ⟨y1, y2⟩ := y
      cases hv
      exact ⟨y1, rfl⟩
  obtain ⟨qa, hg⟩ := this
  exact ⟨x, dx', p', d', M', c, qa, n, rest, rfl, I1.b _ _ R'.x, hd', hg, I1.b _ _ (rm' _ (gVal_mem hg)), fun H' s => q _ _ ⟨F1, [], Cs1, I1.sm s, rfl, rfl⟩⟩
theorem ev_nwCall {c n : Int} {b : Bool} {rest : List Int} (e : Γ[j]? = some (some (NwO C os N))) (h : Ev ta Γ Γ (Fz c)) (h' : Ev tb Γ Γ (Fz b)) (hv : gVal N c = some (n :: rest)) (h0 : 0 ≤ n) (hn : n < os.length) (hN : N.length ≤ 5000) (hr : rest.length ≤ 10000) (hos : ∀ r ∈ os, r.length ≤ 10000) :
    Ev (tMeth C "call" (sp_News_call C) [] E0 (tVar j) (tCons ta (tCons tb tNil))) Γ (Γ.set j (some (NwO C os (callM os N c b)))) (Fz n) := fun Hs G σ H F X Cs I Q q => by
  obtain ⟨x, dx, p, ps, d, M, h1, R, e1, rm, hd⟩ := I.nw e
  have hx := I.b _ _ R.x
  refine ⟨_, h1, x, dx, _, rfl, hx, newsF_no _ _ (by decide +kernel) (by decide +kernel), h Hs G σ H F X Cs I _ fun v H1 ⟨F1, C1, Cs1, I1, e2, r1⟩ => ?_⟩
  subst e2
  have r1 : v = .int c := r1
  subst r1
  refine h' Hs G σ H1 _ _ Cs1 I1 _ fun w H2 ⟨F2, C2, Cs2, I2, e3, r2⟩ => ?_
  subst e3
  have r2 : w = .bl b := r2
  subst r2
  obtain ⟨v0, C0, g1, ⟨x', dx', p', d', kvs, e4, g2, g3, c4, al⟩, I4⟩ := I2.out e
  subst e4 c4
  rw [h1] at g1
  cases g1
  obtain ⟨M', e5, e6, rm'⟩ := kv_to al
  subst e6
  obtain ⟨p2, ps', e7, R'⟩ := is_toLL g3
  cases e7
  have L : Lo G H2 ([(d', .dK (kvsOf M'))] ++ ((F2 ++ (F1 ++ F)) ++ (X ++ (Cs2.set j []).flatten))) := I4.lo.pk [F2, F1, F, [(d', .dK (kvsOf M'))], X, (Cs2.set j []).flatten] [0, 1, 2, 3, 4, 5] [3, 0, 1, 2, 4, 5]
  obtain ⟨H0, LS, sG, hR, back⟩ := L.split
  have sB : Same (plus Hs (F2 ++ (F1 ++ F))) H0 := plus_le (I.ls.trans sG) fun a o h => hR (List.mem_append_left _ h)
  rw [← e5] at hv
  have : ∃ qa, gVal M' c = some (qa, n :: rest) := by
    unfold rowsOf at hv
    rw [gVal_map (fun e : Addr × List Int => e.2)] at hv
    cases hg : gVal M' c with
    | none => rw [hg] at hv; cases hv
    | some y =>
      rw [hg] at hv
      obtain ⟨y1, y2⟩ := y
      cases hv
      exact ⟨y1, rfl⟩
  obtain ⟨qa, hg⟩ := this
  have hl : (rowsOf M').length = M'.length := by unfold rowsOf; rw [List.length_map]
  refine ⟨plus Hs (F2 ++ (F1 ++ F)), H0, x, dx', p', ps', os, d', M', c, b, qa, n, rest, rfl, sB, LS, ⟨g2, R'⟩, rm', hg, h0, hn, by rw [← hl, e5]; exact hN, hr, hos, fun M2 C' H3 L3 rm3 e8 hl3 => ?_⟩
  have L4 := back (F' := (d', .dK (kvsOf M2)) :: C') L3
  rw [plus_plus] at rm3
  have L5 : Lo G H3 ((C' ++ (F2 ++ (F1 ++ F))) ++ (([(d', .dK (kvsOf M2))] ++ X) ++ (Cs2.set j []).flatten)) := L4.pk [[(d', .dK (kvsOf M2))], C', F2, F1, F, X, (Cs2.set j []).flatten] [0, 1, 2, 3, 4, 5, 6] [1, 2, 3, 4, 0, 5, 6]
  have up : Same (plus Hs (F2 ++ (F1 ++ F))) (plus Hs (C' ++ (F2 ++ (F1 ++ F)))) := (L5.sub (List.sublist_append_left _ _)).pUp I.ls fun c hc => List.mem_append_right _ hc
  have I5 : Iv Hs G (Γ.set j none) σ H3 (C' ++ (F2 ++ (F1 ++ F))) ([(d', .dK (kvsOf M2))] ++ X) (Cs2.set j []) := ⟨I.ls, L5, I4.ok.mo up, fun c hc => by
    rcases List.mem_append.mp hc with hc | hc
    · rw [List.mem_singleton.mp hc]; exact fun xs z => by cases z
    · exact I.nx c hc⟩
  rw [e5] at e8
  have al2 := kv_of rm3
  rw [e8] at al2
  have I6 := I5.put (A := NwO C os (callM os N c b)) h1 ⟨x, dx', p', d', _, rfl, up _ _ g2, Enc.mo g3 up, rfl, al2⟩
  rw [List.set_set] at I6
  exact q _ _ ⟨C' ++ (F2 ++ F1), [], _, by simpa only [List.append_assoc, List.nil_append] using I6, rfl, rfl⟩
end
end Cc

namespace Cc
open PySem L2
/-! the first wrong call -/
def spotBad (N : Nw) (cs : List Int) (i : Nat) (t : Tri) : Bool := decide (cs.length ≤ i) || (!decide (t.a = cs.getD i 0) || !decide (t.b = nextM N t.a))
def badSpot (N : Nw) (cs : List Int) : Nat → List Tri → Option Nat
  | _, [] => none
  | i, t :: r => if spotBad N cs i t = true then some i else badSpot N cs (i + 1) r
def callsGo (os : List (List Int)) (N : Nw) (row : List Tri) : Nw := row.foldl (fun N t => callM os N t.a t.c) N
def wrongF (os : List (List Int)) : Nat → Nw → List (List Tri) → Option (Int × Int)
  | i, N, [] => if callersM N = [] then none else some ((i : Int), 0)
  | i, N, row :: rest => match badSpot N (callersM N) 0 row with
    | some s => some ((i : Int), (s : Int))
    | none => if row.length < (callersM N).length ∨ row = [] then some ((i : Int), (row.length : Int)) else wrongF os (i + 1) (callsGo os N row) rest
def wrongM (os : List (List Int)) (calls : List (List Tri)) : Option (Int × Int) := wrongF os 0 [(0, rowO os 0)] calls
theorem badSpot_none {N : Nw} {cs : List Int} : ∀ {row : List Tri} {i : Nat}, badSpot N cs i row = none → ∀ k t, row[k]? = some t → spotBad N cs (i + k) t = false
  | [], _, _, k, t, h => by simp at h
  | r :: row, i, h, k, t, ht => by
    unfold badSpot at h
    by_cases hb : spotBad N cs i r = true
    · rw [if_pos hb] at h; cases h
    · rw [if_neg hb] at h
      cases k with
      | zero =>
        simp at ht
        subst ht
        simpa using hb
      | succ k =>
        simp at ht
        have := badSpot_none h k t ht
        rwa [show i + 1 + k = i + (k + 1) by omega] at this
theorem spot_ok {N : Nw} {cs : List Int} {i : Nat} {t : Tri} (h : spotBad N cs i t = false) : i < cs.length ∧ t.a = cs.getD i 0 ∧ t.b = nextM N t.a := by
  unfold spotBad at h
  simp only [Bool.or_eq_false_iff, decide_eq_false_iff_not, Bool.not_eq_false', decide_eq_true_eq] at h
  omega
/-- a turn without a wrong call is the callers', one by one -/
theorem turn_is {N : Nw} {row : List Tri} (h : badSpot N (callersM N) 0 row = none) (hl : ¬ (row.length < (callersM N).length ∨ row = [])) : row.map (·.a) = callersM N := by
  refine List.ext_getElem? fun k => ?_
  rw [List.getElem?_map]
  cases e : row[k]? with
  | some t =>
    have h1 := spot_ok (badSpot_none h k t e)
    rw [Nat.zero_add] at h1
    show some t.a = _
    rw [h1.2.1, List.getD_eq_getElem?_getD, List.getElem?_eq_getElem h1.1]
    rfl
  | none =>
    have h2 : row.length ≤ k := List.getElem?_eq_none_iff.mp e
    rw [List.getElem?_eq_none (by omega)]
    rfl
section
variable {os : List (List Int)}
theorem callsGo_snoc (N : Nw) (row : List Tri) (t : Tri) : callsGo os N (row ++ [t]) = callM os (callsGo os N row) t.a t.c := by
  unfold callsGo
  rw [List.foldl_append]
  rfl
theorem callsGo_ok (O : OrdG os) : ∀ (row : List Tri) (N : Nw) (K : List Int), WInv os N K → (row.map (·.a)).Nodup → (∀ t ∈ row, ∃ n rest, gVal N t.a = some (n :: rest)) →
    (∃ K', WInv os (callsGo os N row) K') ∧ ∀ i t, row[i]? = some t → ∃ n rest K', gVal (callsGo os N (row.take i)) t.a = some (n :: rest) ∧ gVal N t.a = some (n :: rest) ∧ WInv os (callsGo os N (row.take i)) K'
  | [], N, K, W, _, _ => ⟨⟨K, W⟩, fun i t h => by simp at h⟩
  | r :: row, N, K, W, hnd, hr => by
    obtain ⟨n, rest, h⟩ := hr r List.mem_cons_self
    obtain ⟨hn, hp, hlen⟩ := W.next O h
    have hnk : n ∉ N.map (·.1) := fun z => hn (W.sub n z)
    rw [List.map_cons, List.nodup_cons] at hnd
    have W' := W.call O h r.c
    have same : ∀ t ∈ row, ∀ n' rest', gVal N t.a = some (n' :: rest') → gVal (callM os N r.a r.c) t.a = some (n' :: rest') := fun t ht n' rest' h' => by
      rw [callM_val hnk h r.c (fun e => hnd.1 (e ▸ List.mem_map.mpr ⟨t, ht, rfl⟩)) (fun e => hnk (e ▸ List.mem_map.mpr ⟨_, gVal_mem h', rfl⟩))]
      exact h'
    obtain ⟨i1, i2⟩ := callsGo_ok O row (callM os N r.a r.c) (K ++ [n]) W' hnd.2 fun t ht => by
      obtain ⟨n', rest', h'⟩ := hr t (List.mem_cons_of_mem _ ht)
      exact ⟨n', rest', same t ht n' rest' h'⟩
    refine ⟨i1, fun i t ht => ?_⟩
    cases i with
    | zero =>
      simp at ht
      subst ht
      exact ⟨n, rest, K, h, h, W⟩
    | succ i =>
      simp at ht
      obtain ⟨n', rest', K', g1, g2, g3⟩ := i2 i t ht
      obtain ⟨n2, rest2, h2⟩ := hr t (List.mem_cons_of_mem _ (List.mem_of_getElem? ht))
      have := same t (List.mem_of_getElem? ht) n2 rest2 h2
      rw [this] at g2
      cases g2
      exact ⟨n', rest', K', by rw [List.take_succ_cons]; exact g1, h2, by rw [List.take_succ_cons]; exact g3⟩
theorem turn_go (O : OrdG os) {N : Nw} {K : List Int} (W : WInv os N K) {row : List Tri} (h : row.map (·.a) = callersM N) :
    (∃ K', WInv os (callsGo os N row) K') ∧ ∀ i t, row[i]? = some t → ∃ n rest K', gVal (callsGo os N (row.take i)) t.a = some (n :: rest) ∧ gVal N t.a = some (n :: rest) ∧ WInv os (callsGo os N (row.take i)) K' :=
  callsGo_ok O row N K W (by rw [h]; exact (callersM_lt W.keys).imp fun h => by omega) fun t ht => caller_row (by rw [← h]; exact List.mem_map.mpr ⟨t, ht, rfl⟩)
theorem badSpot_drop {N : Nw} {cs : List Int} {row : List Tri} {i : Nat} {t : Tri} (h : row[i]? = some t) : badSpot N cs i (row.drop i) = if spotBad N cs i t = true then some i else badSpot N cs (i + 1) (row.drop (i + 1)) := by
  obtain ⟨hi, e⟩ := List.getElem?_eq_some_iff.mp h
  rw [List.drop_eq_getElem_cons hi, e]
  rfl
theorem wrongF_drop {N : Nw} {calls : List (List Tri)} {i : Nat} {row : List Tri} (h : calls[i]? = some row) : wrongF os i N (calls.drop i) = match badSpot N (callersM N) 0 row with
    | some s => some ((i : Int), (s : Int))
    | none => if row.length < (callersM N).length ∨ row = [] then some ((i : Int), (row.length : Int)) else wrongF os (i + 1) (callsGo os N row) (calls.drop (i + 1)) := by
  obtain ⟨hi, e⟩ := List.getElem?_eq_some_iff.mp h
  rw [List.drop_eq_getElem_cons hi, e]
  rfl
end
end Cc

namespace Cc
open PySem L2
local macro_rules | `(tactic| decreasing_trivial) => `(tactic| first | (with_reducible exact ev_int) | (with_reducible exact ev_bl) | ((with_reducible apply ev_var) <;> rfl) | (with_reducible exact ea_nil) | (with_reducible exact Es.nil) | (with_reducible exact Kp.nil) | (with_reducible apply ev_non) | ((with_reducible apply ev_add) <;> decreasing_trivial) | ((with_reducible apply ev_sub) <;> decreasing_trivial) | ((with_reducible apply ev_mod) <;> decreasing_trivial) | ((with_reducible apply ev_div) <;> decreasing_trivial) | ((with_reducible apply ev_mul) <;> decreasing_trivial) | ((with_reducible apply ev_pow) <;> decreasing_trivial) | ((with_reducible apply ev_lt) <;> decreasing_trivial) | ((with_reducible apply ev_le) <;> decreasing_trivial) | ((with_reducible apply ev_gt) <;> decreasing_trivial) | ((with_reducible apply ev_ge) <;> decreasing_trivial) | ((with_reducible apply ev_eqS) <;> decreasing_trivial) | ((with_reducible apply ev_neS) <;> decreasing_trivial) | ((with_reducible apply ev_isB) <;> decreasing_trivial) | ((with_reducible apply ev_notB) <;> decreasing_trivial) | ((with_reducible apply ev_neg) <;> decreasing_trivial) | ((with_reducible apply ev_not) <;> decreasing_trivial) | ((with_reducible apply ev_len) <;> decreasing_trivial) | ((with_reducible apply ev_sum) <;> decreasing_trivial) | ((with_reducible apply ev_ixD) <;> decreasing_trivial) | ((with_reducible apply ev_ixT0) <;> decreasing_trivial) | ((with_reducible apply ev_ixT1) <;> decreasing_trivial) | ((with_reducible apply ev_ixT2) <;> decreasing_trivial) | ((with_reducible apply ev_ixP0) <;> decreasing_trivial) | ((with_reducible apply ev_ixP1) <;> decreasing_trivial) | ((with_reducible apply ev_ixDT) <;> decreasing_trivial) | ((with_reducible apply ev_fr; with_reducible apply ev_cat) <;> decreasing_trivial) | ((with_reducible apply ev_fr; with_reducible apply ev_list) <;> decreasing_trivial) | ((with_reducible apply ev_fr; with_reducible apply ev_sorted) <;> decreasing_trivial) | ((with_reducible apply ev_fr; with_reducible apply ev_slH) <;> decreasing_trivial) | ((with_reducible apply ev_fr; with_reducible apply ev_slL) <;> decreasing_trivial) | ((with_reducible apply ev_fr; with_reducible apply ev_rev) <;> decreasing_trivial) | (with_reducible apply ev_fr; with_reducible exact ev_nil) | ((with_reducible apply ev_fr; with_reducible apply ev_ls) <;> decreasing_trivial) | ((with_reducible apply Es.cons) <;> decreasing_trivial) | ((with_reducible apply ev_in) <;> decreasing_trivial) | ((with_reducible apply ev_notin) <;> decreasing_trivial) | ((with_reducible apply ev_max2) <;> decreasing_trivial) | ((with_reducible apply ev_min2) <;> decreasing_trivial) | ((with_reducible apply ev_eqD) <;> decreasing_trivial) | ((with_reducible apply ev_neD) <;> decreasing_trivial) | ((with_reducible apply ev_all) <;> decreasing_trivial) | ((with_reducible apply ev_any) <;> decreasing_trivial) | ((with_reducible apply ev_fr; with_reducible apply ev_rg1) <;> decreasing_trivial) | ((with_reducible apply ev_fr; with_reducible apply ev_rg2) <;> decreasing_trivial) | ((with_reducible apply ev_p2) <;> decreasing_trivial) | ((with_reducible apply ev_t3) <;> decreasing_trivial) | ((with_reducible apply ev_tp) <;> decreasing_trivial) | ((with_reducible apply et_tt) <;> decreasing_trivial) | ((with_reducible apply et_b) <;> decreasing_trivial) | ((with_reducible apply et_not) <;> decreasing_trivial) | ((with_reducible apply et_or) <;> decreasing_trivial) | ((with_reducible apply et_and) <;> decreasing_trivial) | ((with_reducible apply ev_andV) <;> decreasing_trivial) | ((with_reducible apply ev_orV) <;> decreasing_trivial) | ((with_reducible apply ev_chLL) <;> decreasing_trivial) | ((with_reducible apply ev_chll) <;> decreasing_trivial) | ((with_reducible apply is_list) <;> decreasing_trivial) | ((with_reducible apply is_tup) <;> decreasing_trivial) | ((with_reducible apply is_rng1) <;> decreasing_trivial) | ((with_reducible apply is_rng2) <;> decreasing_trivial) | ((with_reducible apply is_enum) <;> decreasing_trivial) | ((with_reducible apply is_zip) <;> decreasing_trivial) | ((with_reducible apply ea_1) <;> decreasing_trivial) | ((with_reducible apply ea_2) <;> decreasing_trivial) | ((with_reducible apply ea_3) <;> decreasing_trivial) | ((with_reducible apply ev_dg) <;> decreasing_trivial) | ((with_reducible apply ev_dg1) <;> decreasing_trivial) | ((with_reducible apply ev_fr; with_reducible apply ev_listD) <;> decreasing_trivial) | ((with_reducible apply ev_isi) <;> decreasing_trivial) | ((with_reducible apply ev_whole) <;> decreasing_trivial) | ((with_reducible apply ev_betw) <;> decreasing_trivial) | ((with_reducible apply ev_num) <;> decreasing_trivial) | ((apply Kp.so fr_fz) <;> decreasing_trivial) | ((apply Kp.no) <;> decreasing_trivial) | (exact Kp.nil) | (intro (_ : (_ : Bool) = _); decreasing_trivial) | (infer_instance) | (rfl) | (omega) | (decide) | (simp; done) | (skip))
/-! first_wrong -/
theorem ev_some {te : TE} {Γ Γ' : Env} {α : Type} {_ : Enc α} {a : α} (h : Ev te Γ Γ' (Fz a)) : Ev te Γ Γ' (Fz (some a)) := fun Hs G σ H F X Cs I Q q => h Hs G σ H F X Cs I Q fun v H1 ⟨F1, C1, Cs1, I1, e1, r1⟩ => q v H1 ⟨F1, C1, Cs1, I1, e1, r1⟩
def CallsOk (calls : List (List Tri)) : Prop := calls.length ≤ 10000 ∧ ∀ r ∈ calls, r.length ≤ 10000
def sp_first_wrong : Sp := spG (fun i : List (List Int) × List (List Tri) => OrdG i.1 ∧ i.1.length ≤ 1000) (fun i => [Fz i.1, Fz i.2]) (fun i => Fz (wrongM i.1 i.2))
def t_first_wrong (K : PySem.W.Frag) (C_News : Addr) : TS :=
(tSeq (tAsg (tMake C_News (sp_News___init__ C_News) [] E0 (tCons (tVar 0) tNil)) (gName 2))
    (tSeq (tFor (iEnum K (tCons (tVar 1) tNil)) (gTup K 2 (gCons (gName 3) (gCons (gName 4) gNil)))
    (tSeq (tAsg (tMeth C_News "callers" (sp_News_callers C_News) [] E0 (tVar 2) tNil) (gName 5))
      (tSeq (tFor (iEnum K (tCons (tVar 4) tNil)) (gTup K 2 (gCons (gName 6) (gCons (gName 7) gNil)))
      (tIfS (tOr (tTest (tOp qGe (tVar 6) (tCB (qLen K) (tCons (tVar 5) tNil)))) (tOr (tTest (tOp rNe (tOp (rIxT K) (tVar 7) (tC (.int 0))) (tOp (rIxL K) (tVar 5) (tVar 6)))) (tTest (tOp rNe (tOp (rIxT K) (tVar 7) (tC (.int 1))) (tMeth C_News "next_of" (sp_News_next_of C_News) [] E0 (tVar 2) (tCons (tOp (rIxT K) (tVar 7) (tC (.int 0))) tNil))))))
        (tRet (tTup (tCons (tVar 3) (tCons (tVar 6) tNil))))
        tNext))
      (tSeq (tIfS (tOr (tTest (tOp qLt (tCB (qLen K) (tCons (tVar 4) tNil)) (tCB (qLen K) (tCons (tVar 5) tNil)))) (tTest (tOp (rEqD K) (tVar 4) (tLst tNil))))
      (tRet (tTup (tCons (tVar 3) (tCons (tCB (qLen K) (tCons (tVar 4) tNil)) tNil))))
      tNext)
      (tFor (iList K (tVar 4)) (gTup K 3 (gCons (gName 8) (gCons (gName 9) (gCons (gName 10) gNil))))
      (tDrop (tMeth C_News "call" (sp_News_call C_News) [] E0 (tVar 2) (tCons (tVar 8) (tCons (tVar 10) tNil)))))))))
    (tRet (tIf (tTest (tOp (rNeD K) (tMeth C_News "callers" (sp_News_callers C_News) [] E0 (tVar 2) tNil) (tLst tNil))) (tTup (tCons (tCB (qLen K) (tCons (tVar 1) tNil)) (tCons (tC (.int 0)) tNil))) (tC .non)))))
theorem v_first_wrong {K : PySem.W.Frag} {C : Addr} {vs : List V} {H : Hp} {Q : VK} {E : XK} (h : sp_first_wrong vs H Q E) : t_first_wrong K C (fin Q) (st0 11 vs) H := by
  refine v_of (n := 11) (fun ⟨os, calls⟩ ⟨O, hn⟩ => ?_) h
  have O : OrdG os := O
  have hn : os.length ≤ 1000 := hn
  have hp := O.pos
  have hos : ∀ r ∈ os, r.length ≤ 10000 := fun r hr => by
    have h1 := (List.sublist_flatten_of_mem hr).length_le
    have h2 := O.perm.length_eq
    rw [people_len] at h2
    rw [List.length_cons] at h2
    omega
  show Wp (t_first_wrong K C) [some (Fz os), some (Fz calls), none, none, none, none, none, none, none, none, none] (Rt (Fz (wrongM os calls)))
  refine wq_asgO (ev_mkNw (ev_var rfl) hp (by omega)) ?_
  have e0 : os.getD 0 [] = rowO os 0 := rfl
  rw [e0]
  refine wp_seq (wp_for (xs := enumI calls) (by decreasing_trivial) bd_2 (fun k Γ => ∃ (N : Nw) (KK : List Int) (x3 x4 x5 x6 x7 x8 x9 x10 : Option As), WInv os N KK ∧ wrongM os calls = wrongF os k N (calls.drop k) ∧ Γ = [some (Fz os), some (Fz calls), some (NwO C os N), x3, x4, x5, x6, x7, x8, x9, x10]) (by exact ⟨_, _, _, _, _, _, _, _, _, _, WInv.start O, rfl, rfl⟩) ?_ ?_)
  · rintro k ⟨a, row⟩ Γ ha ⟨N, KK, x3, x4, x5, x6, x7, x8, x9, x10, W, hw, rfl⟩
    have hkl := lt_of_get ha
    rw [enumI_len] at hkl
    have hrow := get_some hkl
    rw [enumI_get hrow] at ha
    have ha := Option.some.inj ha
    obtain rfl : a = (k : Int) := (congrArg Prod.fst ha).symm
    have ha2 : calls[k] = row := congrArg Prod.snd ha
    rw [ha2] at hrow
    rw [wrongF_drop hrow] at hw
    have hNl := W.klen.2
    refine wq_asg (ev_fr (ev_nwCallers rfl (by omega))) ?_
    have hcr : ∀ c ∈ callersM N, ∃ n rest, gVal N c = some (n :: rest) := fun c hc => caller_row hc
    generalize hcs : callersM N = cs at *
    refine wp_seq (wp_for (xs := enumI row) (by decreasing_trivial) bd_2 (fun s Γ => ∃ (x6 x7 : Option As), badSpot N cs 0 row = badSpot N cs s (row.drop s) ∧ Γ = [some (Fz os), some (Fz calls), some (NwO C os N), some (Fz (k : Int)), some (Fz row), some (Fz cs), x6, x7, x8, x9, x10]) (by exact ⟨_, _, rfl, rfl⟩) ?_ ?_)
    · rintro s ⟨a', t⟩ Γ ha' ⟨y6, y7, hb, rfl⟩
      have hsl := lt_of_get ha'
      rw [enumI_len] at hsl
      have ht := get_some hsl
      rw [enumI_get ht] at ha'
      have ha' := Option.some.inj ha'
      obtain rfl : a' = (s : Int) := (congrArg Prod.fst ha').symm
      have ha3 : row[s] = t := congrArg Prod.snd ha'
      rw [ha3] at ht
      rw [badSpot_drop ht] at hb
      have hspot : spotBad N cs s t = (decide ((cs.length : Int) ≤ s) || (!decide (t.a = cs.getD s 0) || !decide (t.b = nextM N t.a))) := by
        unfold spotBad
        congr 1
        rw [Bool.eq_iff_iff, decide_eq_true_eq, decide_eq_true_eq]
        omega
      refine wp_if (b := spotBad N cs s t) (by
        rw [hspot]
        refine et_or (et_tt (ev_ge (ev_var rfl) (ev_len (ev_var rfl)))) fun h1 => ?_
        have h1 : s < cs.length := by
          have := of_decide_eq_false h1
          omega
        refine et_or (et_tt (ev_neI (ev_ixT0 (ev_var rfl)) (ev_ix (ev_var rfl) (ev_var rfl) (atI_getD cs (s : Int) 0 ⟨by omega, by omega⟩)))) fun h2 => ?_
        have h2 : t.a = cs.getD s 0 := by simpa using h2
        have hmem : t.a ∈ cs := by
          rw [h2, List.getD_eq_getElem?_getD, List.getElem?_eq_getElem h1]
          exact List.getElem_mem h1
        obtain ⟨n, rest, hg⟩ := hcr _ hmem
        have en : nextM N t.a = n := by unfold nextM; rw [rowAt_gv hg]; rfl
        rw [en]
        exact et_tt (ev_neI (ev_ixT1 (ev_var rfl)) (ev_nwNext rfl (ev_ixT0 (ev_var rfl)) hg))) (fun hz => ?_) (fun hz => ?_)
      · rw [if_pos hz] at hb
        rw [hb] at hw
        refine wp_ret (ev_some (ev_p2 (ev_var rfl) (ev_var rfl))) ?_
        show Fz _ = Fz _
        rw [hw]
      · rw [if_neg (by rw [hz]; decide)] at hb
        exact wp_next ⟨_, _, hb, rfl⟩
    · rintro Γ ⟨y6, y7, hb, rfl⟩
      rw [enumI_len] at hb
      rw [List.drop_eq_nil_of_le (Nat.le_refl _)] at hb
      have hb : badSpot N cs 0 row = none := hb
      rw [hb] at hw
      have hlq : (decide ((row.length : Int) < cs.length) || decide (row = [])) = decide (row.length < cs.length ∨ row = []) := by
        rw [Bool.eq_iff_iff]
        simp only [Bool.or_eq_true, decide_eq_true_eq]
        exact ⟨fun h => h.elim (fun h => .inl (by omega)) .inr, fun h => h.elim (fun h => .inl (by omega)) .inr⟩
      refine wq_if (b := decide (row.length < cs.length ∨ row = [])) (by
        rw [← hlq]
        exact et_or (et_tt (ev_lt (ev_len (ev_var rfl)) (ev_len (ev_var rfl)))) fun _ => et_tt (ev_eqM (ev_var rfl) (ev_fr ev_nil))) (fun hz => ?_) (fun hz => ?_)
      · simp only [if_pos (of_decide_eq_true hz)] at hw
        refine wp_ret (ev_some (ev_p2 (ev_var rfl) (ev_len (ev_var rfl)))) ?_
        show Fz _ = Fz _
        rw [hw]
      · have hz := of_decide_eq_false hz
        simp only [if_neg hz] at hw
        have hturn := turn_is (N := N) (row := row) (by rw [hcs]; exact hb) (by rw [hcs]; exact hz)
        obtain ⟨⟨K', W'⟩, hgo⟩ := turn_go O W hturn
        refine wp_next ?_
        refine wp_for (xs := row) (by decreasing_trivial) bd_3 (fun s Γ => ∃ (x8 x9 x10 : Option As), Γ = [some (Fz os), some (Fz calls), some (NwO C os (callsGo os N (row.take s))), some (Fz (k : Int)), some (Fz row), some (Fz cs), y6, y7, x8, x9, x10]) (by exact ⟨_, _, _, rfl⟩) ?_ ?_
        · rintro s t Γ ht ⟨z8, z9, z10, rfl⟩
          obtain ⟨n, rest, K2, g1, g2, g3⟩ := hgo s t ht
          obtain ⟨q1, q2, q3⟩ := g3.next O g1
          obtain ⟨j, j1, j2⟩ := people_mem.mp q2
          have hkl2 := g3.klen.2
          simp only [List.length_cons] at q3
          have est : row.take (s + 1) = row.take s ++ [t] := by rw [List.take_succ, ht]; rfl
          refine wp_drop (ev_nwCall rfl (ev_var rfl) (ev_var rfl) g1 (by omega) (by omega) (by omega) (by omega) hos) ⟨_, _, _, by rw [est, callsGo_snoc]; rfl⟩
        · rintro Γ ⟨z8, z9, z10, rfl⟩
          rw [List.take_of_length_le (Nat.le_refl _)]
          exact ⟨_, K', _, _, _, _, _, _, _, _, W', hw, rfl⟩
  · rintro Γ ⟨N, KK, x3, x4, x5, x6, x7, x8, x9, x10, W, hw, rfl⟩
    rw [enumI_len, List.drop_eq_nil_of_le (Nat.le_refl _)] at hw
    have hw : wrongM os calls = if callersM N = [] then none else some ((calls.length : Int), 0) := hw
    have hNl := W.klen.2
    refine wr (Γ1 := [some (Fz os), some (Fz calls), some (NwO C os N), x3, x4, x5, x6, x7, x8, x9, x10]) (ev_if (b := !decide (callersM N = [])) (et_tt (ev_neM (ev_fr (ev_nwCallers rfl (by omega))) (ev_fr ev_nil))) (fun hb => ?_) (fun hb => ?_))
    · have hb : callersM N ≠ [] := by simpa using hb
      rw [hw, if_neg hb]
      exact ev_some (ev_p2 (ev_len (ev_var rfl)) ev_int)
    · have hb : callersM N = [] := by simpa using hb
      rw [hw, if_pos hb]
      exact ev_non
theorem ev_fwrong {ta tb : TE} {Γ Γ1 Γ2 : Env} {os : List (List Int)} {calls : List (List Tri)} (h : Ev ta Γ Γ1 (Fz os)) (h' : Ev tb Γ1 Γ2 (Fz calls)) (O : OrdG os) (hn : os.length ≤ 1000) : Ev (tCall sp_first_wrong [] E0 (tCons ta (tCons tb tNil))) Γ Γ2 (Fz (wrongM os calls)) := ev_call (i := (os, calls)) (ea_2 h h') ⟨O, hn⟩
end Cc

namespace Cc
open PySem L2
/-! a dict that is walked: locked meanwhile -/
structure Dz (α : Type) where
  od : Obj
  m : List (Int × α)
instance encDz {α : Type} [Enc α] : Enc (Dz α) where
  is := fun N H v => ∃ d kvs, v = .ref d ∧ H d = some (.frz N.od (.dK kvs)) ∧ Al (kvR H) N.m kvs
  mo := fun ⟨l, vs, e, h, g⟩ s => ⟨l, vs, e, s _ _ h, g.mp fun _ _ r => ⟨r.1, Enc.mo r.2 s⟩⟩
section
variable {te ta ty : TE} {Γ Γ1 Γ2 Γ' : Env} {A : As} {K : PySem.W.Frag} {i : Nat} {α : Type} {_ : Enc α} {N : List (Int × α)} {od : Obj}
theorem ev_dgZ {k : Int} {a : α} (h0 : Ev ta Γ Γ1 (Fz (Dz.mk od N))) (h : Ev ty Γ1 Γ2 (Fz k)) (hv : gVal N k = some a) : Ev (tDGet ta ty) Γ Γ2 (Fz a) := ev_o2p (r := fun x y H2 Q => ∃ a v, x = .ref a ∧ DGet H2 a y (some v) ∧ Q v H2) h0 h fun Hb H v w s ⟨d, kvs, e1, e2, e3⟩ e4 => by
  obtain ⟨u, g1, g2⟩ := e3.val hv
  have e4 : w = .int k := e4
  subst e4
  exact ⟨u, g2, fun Q q => ⟨d, u, e1, .inl ⟨_, .inl k, .inr ⟨od, s _ _ e2⟩, rfl, g1.symm⟩, q⟩⟩
theorem is_keys (h : Ev te Γ Γ' (Fz (Dz.mk od N))) : Is (iKeys te) Γ Γ' (N.map (·.1)) := fun Hs G σ H F X Cs I R r => h Hs G σ H F X Cs I _ fun v H1 ⟨F1, C1, Cs1, I1, e1, d, kvs, e2, e3, e4⟩ => by
  subst e1
  have hl : (N.map (·.1)).length = kvs.length := by rw [List.length_map]; exact e4.len
  refine ⟨d, od, e2, .inl ⟨kvs, I1.b _ _ e3, r _ _ F1 Cs1 (fun i x C => ∃ k v, kvs[i]? = some (k, v) ∧ x = kV k ∧ C = []) I1 ⟨fun i H' s hi => ⟨s _ _ e3, by omega⟩, fun i H' x H'' s hi y => ?_, fun H' s => ⟨s _ _ e3, by omega⟩⟩ fun k x C ⟨ky, v, hx, ex, hC⟩ => ?_⟩⟩
  · obtain ⟨rfl, k, v, y1, y2⟩ := y
    exact ⟨[], Lo.nil _, k, v, y1, y2, rfl⟩
  · obtain ⟨a, h1, h2⟩ := e4.get' hx
    refine ⟨a.1, by rw [List.getElem?_map, h1]; rfl, fun Hb s _ => ?_⟩
    have : ky = .inl a.1 := h2.1
    rw [ex, this]
    rfl
theorem ev_lockF [EncL α] (e : Γ[i]? = some (some (Fz (Dc.mk N)))) (tp : TpO A) (h : ∀ od, ∃ Γ2, Ev te ((List.replicate Γ.length none).set i (some (Fz (Dz.mk od N)))) Γ2 A) : Ev (tLockE te) Γ Γ A := fun Hs G σ H F X Cs I Q q => by
  obtain ⟨v, C, C1, C2, h1, h2, h3, h4, d, kvs, h5, h6, al⟩ := I.ok.get e
  subst h5
  have hd : H d = some (.dK kvs) := I.b _ _ h6
  refine ⟨d, .dK kvs, hd, trivial, fun od => ?_⟩
  obtain ⟨Γ2, hh⟩ := h od
  have sS : Same (upd (plus Hs F) d (.frz od (.dK kvs))) (upd H d (.frz od (.dK kvs))) := fun a o ha => by
    by_cases z : a = d
    · subst z
      rw [upd_same] at ha ⊢
      exact ha
    · rw [upd_ne z] at ha ⊢
      exact I.b _ _ ha
  have hne : ∀ t o, plus Hs F t = some o → (∀ xs, o ≠ .dK xs) → upd (plus Hs F) d (.frz od (.dK kvs)) t = some o := fun t o ht hn => by
    by_cases z : t = d
    · subst z
      rw [h6] at ht
      cases ht
      exact absurd rfl (hn kvs)
    · rw [upd_ne z]
      exact ht
  have al2 : Al (kvR (upd (plus Hs F) d (.frz od (.dK kvs)))) N kvs := al.mp fun _ _ r => ⟨r.1, EncL.ls (fun t xs ht => hne t _ ht fun ys z => by cases z) (fun t xs ht => hne t _ ht fun ys z => by cases z) r.2⟩
  have hlen := I.ok.len
  have ok : ∀ (n : Nat) (σ : L2.St) (i : Nat), σ.length = n → σ[i]? = some (some (.ref d)) → EnvOk (upd (plus Hs F) d (.frz od (.dK kvs))) ((List.replicate n none).set i (some (Fz (Dz.mk od N)))) σ (List.replicate n []) := by
    intro n
    induction n with
    | zero => intro σ i hl hi; cases σ with
      | nil => simp at hi
      | cons _ _ => cases hl
    | succ n ih => intro σ i hl hi; cases σ with
      | nil => cases hl
      | cons x σ =>
        have hl' : σ.length = n := Nat.succ.inj hl
        clear hl
        cases i with
        | zero =>
          simp at hi
          subst hi
          refine .so (A := Fz (Dz.mk od N)) (C := []) ⟨rfl, d, kvs, rfl, upd_same, al2⟩ ?_
          clear ih
          subst hl'
          induction σ with
          | nil => exact .nil
          | cons y σ ih => exact .no _ ih
        | succ i => exact .no _ (ih σ i hl' (by simpa using hi))
  have I0 : Iv (upd (plus Hs F) d (.frz od (.dK kvs))) (upd H d (.frz od (.dK kvs))) ((List.replicate Γ.length none).set i (some (Fz (Dz.mk od N)))) σ (upd H d (.frz od (.dK kvs))) [] [] (List.replicate Γ.length []) :=
    ⟨sS, by rw [rep_flat]; exact Lo.nil _, ok _ _ _ hlen h1, fun c hc => nomatch hc⟩
  refine hh _ _ _ _ _ _ _ I0 _ fun w H2 ⟨F2, C3, Cs3, I2, r2⟩ => ?_
  have hd2 : H2 d = some (.frz od (.dK kvs)) := I2.lo.sm _ _ upd_same
  refine ⟨hd2, ?_⟩
  have L2 : Lo (upd H d (.frz od (.dK kvs))) H2 (F2 ++ C3) := I2.lo.pk [F2, C3, Cs3.flatten] [0, 1, 2] [0, 1] [2]
  have L3 : Lo H (upd H2 d (.dK kvs)) (F2 ++ C3) := ⟨fun a o ha => by
      by_cases z : a = d
      · subst z
        rw [upd_same]
        rw [hd] at ha
        exact ha
      · rw [upd_ne z]
        exact L2.same a o (by rw [upd_ne z]; exact ha), fun {a o} ha => by
      have hn := L2.new ha
      by_cases z : a = d
      · subst z
        rw [upd_same] at hn
        cases hn
      · rw [upd_ne z]
        exact L2.get ha, fun {a o} ha => by
      have hn := L2.new ha
      by_cases z : a = d
      · subst z
        rw [upd_same] at hn
        cases hn
      · rw [upd_ne z] at hn
        exact hn, L2.nd⟩
  refine q _ _ ⟨F2, C3, Cs, I.ext L3 (As.nt _ r2), tp _ _ _ _ (fun t xs ht => ?_) r2⟩
  rw [List.append_nil] at ht
  unfold plus at ht ⊢
  rw [List.lookup_append]
  cases eF : F2.lookup t with
  | some o =>
    rw [eF] at ht
    exact ht
  | none =>
    rw [eF] at ht
    have ht : upd (plus Hs F) d (.frz od (.dK kvs)) t = some (.tup xs) := ht
    by_cases z : t = d
    · subst z
      rw [upd_same] at ht
      cases ht
    · rw [upd_ne z] at ht
      exact ht
end
end Cc

namespace Cc
open PySem L2
local macro_rules | `(tactic| decreasing_trivial) => `(tactic| first | (with_reducible exact ev_int) | (with_reducible exact ev_bl) | ((with_reducible apply ev_var) <;> rfl) | (with_reducible exact ea_nil) | (with_reducible exact Es.nil) | (with_reducible exact Kp.nil) | (with_reducible apply ev_non) | ((with_reducible apply ev_add) <;> decreasing_trivial) | ((with_reducible apply ev_sub) <;> decreasing_trivial) | ((with_reducible apply ev_mod) <;> decreasing_trivial) | ((with_reducible apply ev_div) <;> decreasing_trivial) | ((with_reducible apply ev_mul) <;> decreasing_trivial) | ((with_reducible apply ev_pow) <;> decreasing_trivial) | ((with_reducible apply ev_lt) <;> decreasing_trivial) | ((with_reducible apply ev_le) <;> decreasing_trivial) | ((with_reducible apply ev_gt) <;> decreasing_trivial) | ((with_reducible apply ev_ge) <;> decreasing_trivial) | ((with_reducible apply ev_eqS) <;> decreasing_trivial) | ((with_reducible apply ev_neS) <;> decreasing_trivial) | ((with_reducible apply ev_isB) <;> decreasing_trivial) | ((with_reducible apply ev_notB) <;> decreasing_trivial) | ((with_reducible apply ev_neg) <;> decreasing_trivial) | ((with_reducible apply ev_not) <;> decreasing_trivial) | ((with_reducible apply ev_len) <;> decreasing_trivial) | ((with_reducible apply ev_sum) <;> decreasing_trivial) | ((with_reducible apply ev_ixD) <;> decreasing_trivial) | ((with_reducible apply ev_ixT0) <;> decreasing_trivial) | ((with_reducible apply ev_ixT1) <;> decreasing_trivial) | ((with_reducible apply ev_ixT2) <;> decreasing_trivial) | ((with_reducible apply ev_ixP0) <;> decreasing_trivial) | ((with_reducible apply ev_ixP1) <;> decreasing_trivial) | ((with_reducible apply ev_ixDT) <;> decreasing_trivial) | ((with_reducible apply ev_fr; with_reducible apply ev_cat) <;> decreasing_trivial) | ((with_reducible apply ev_fr; with_reducible apply ev_list) <;> decreasing_trivial) | ((with_reducible apply ev_fr; with_reducible apply ev_sorted) <;> decreasing_trivial) | ((with_reducible apply ev_fr; with_reducible apply ev_slH) <;> decreasing_trivial) | ((with_reducible apply ev_fr; with_reducible apply ev_slL) <;> decreasing_trivial) | ((with_reducible apply ev_fr; with_reducible apply ev_rev) <;> decreasing_trivial) | (with_reducible apply ev_fr; with_reducible exact ev_nil) | ((with_reducible apply ev_fr; with_reducible apply ev_ls) <;> decreasing_trivial) | ((with_reducible apply Es.cons) <;> decreasing_trivial) | ((with_reducible apply ev_in) <;> decreasing_trivial) | ((with_reducible apply ev_notin) <;> decreasing_trivial) | ((with_reducible apply ev_max2) <;> decreasing_trivial) | ((with_reducible apply ev_min2) <;> decreasing_trivial) | ((with_reducible apply ev_eqD) <;> decreasing_trivial) | ((with_reducible apply ev_neD) <;> decreasing_trivial) | ((with_reducible apply ev_all) <;> decreasing_trivial) | ((with_reducible apply ev_any) <;> decreasing_trivial) | ((with_reducible apply ev_fr; with_reducible apply ev_rg1) <;> decreasing_trivial) | ((with_reducible apply ev_fr; with_reducible apply ev_rg2) <;> decreasing_trivial) | ((with_reducible apply ev_p2) <;> decreasing_trivial) | ((with_reducible apply ev_t3) <;> decreasing_trivial) | ((with_reducible apply ev_tp) <;> decreasing_trivial) | ((with_reducible apply et_tt) <;> decreasing_trivial) | ((with_reducible apply et_b) <;> decreasing_trivial) | ((with_reducible apply et_not) <;> decreasing_trivial) | ((with_reducible apply et_or) <;> decreasing_trivial) | ((with_reducible apply et_and) <;> decreasing_trivial) | ((with_reducible apply ev_andV) <;> decreasing_trivial) | ((with_reducible apply ev_orV) <;> decreasing_trivial) | ((with_reducible apply ev_chLL) <;> decreasing_trivial) | ((with_reducible apply ev_chll) <;> decreasing_trivial) | ((with_reducible apply is_list) <;> decreasing_trivial) | ((with_reducible apply is_tup) <;> decreasing_trivial) | ((with_reducible apply is_rng1) <;> decreasing_trivial) | ((with_reducible apply is_rng2) <;> decreasing_trivial) | ((with_reducible apply is_enum) <;> decreasing_trivial) | ((with_reducible apply is_zip) <;> decreasing_trivial) | ((with_reducible apply ea_1) <;> decreasing_trivial) | ((with_reducible apply ea_2) <;> decreasing_trivial) | ((with_reducible apply ea_3) <;> decreasing_trivial) | ((with_reducible apply ev_dg) <;> decreasing_trivial) | ((with_reducible apply ev_dg1) <;> decreasing_trivial) | ((with_reducible apply ev_fr; with_reducible apply ev_listD) <;> decreasing_trivial) | ((with_reducible apply ev_isi) <;> decreasing_trivial) | ((with_reducible apply ev_whole) <;> decreasing_trivial) | ((with_reducible apply ev_betw) <;> decreasing_trivial) | ((with_reducible apply ev_num) <;> decreasing_trivial) | ((with_reducible apply Kp.so fr_fz) <;> decreasing_trivial) | ((with_reducible apply Kp.no) <;> decreasing_trivial) | (intro (_ : (_ : Bool) = _); decreasing_trivial) | (infer_instance) | (rfl) | (omega) | (decide) | (simp; done) | (skip))
/-! _law_wrong -/
theorem gPut_comm {N : Nw} {c p : Int} {r s : List Int} (hc : c ∈ N.map (·.1)) (hp : p ∉ N.map (·.1)) : gPut (gPut N p s) c r = gPut (gPut N c r) p s := by
  have h2 : c ∉ ([(p, s)] : Nw).map (·.1) := fun z => by
    have : c = p := by simpa using z
    exact hp (this ▸ hc)
  rw [gPut_out hp, gPut_app hc h2, gPut_out (N := gPut N c r) (by rw [gPut_keysN hc]; exact hp)]
theorem any_rows (N : Nw) : ((N.map (·.1)).map fun k => !decide (rowAt N k = [])).any id = !decide (callersM N = []) := by
  rw [Bool.eq_iff_iff, List.any_eq_true]
  constructor
  · rintro ⟨b, hb, h⟩
    obtain ⟨k, hk, rfl⟩ := List.mem_map.mp hb
    have : k ∈ callersM N := callersM_mem.mpr ⟨hk, by simpa using h⟩
    cases e : callersM N with
    | nil => rw [e] at this; cases this
    | cons x xs => simp
  · intro h
    cases e : callersM N with
    | nil => rw [e] at h; simp at h
    | cons x xs =>
      have : x ∈ callersM N := by rw [e]; exact List.mem_cons_self
      obtain ⟨h1, h2⟩ := callersM_mem.mp this
      exact ⟨true, List.mem_map.mpr ⟨x, h1, by simp [h2]⟩, rfl⟩
theorem all_rows (N : Nw) : ((N.map (·.1)).map fun k => decide (rowAt N k = [])).all id = decide (callersM N = []) := by
  have h := any_rows N
  have e : ((N.map (·.1)).map fun k => !decide (rowAt N k = [])).any id = !((N.map (·.1)).map fun k => decide (rowAt N k = [])).all id := by
    generalize N.map (·.1) = ks
    induction ks with
    | nil => rfl
    | cons k ks ih => rw [List.map_cons, List.map_cons, List.any_cons, List.all_cons, ih]; simp
  rw [e] at h
  simpa using h
theorem gVal_rowAt {N : Nw} {k : Int} (h : k ∈ N.map (·.1)) : gVal N k = some (rowAt N k) := by
  obtain ⟨r, hr⟩ := gVal_some h
  rw [rowAt_gv hr]
  exact hr
theorem ev_slT2 {α β γ : Type} {_ : Enc α} {_ : Enc β} {_ : Enc γ} {ta : TE} {Γ Γ1 : Env} {K : PySem.W.Frag} {x : T3 α β γ} (ha : Ev ta Γ Γ1 (Fz x)) : Ev (L2.tSl (rSlT K) ta tNoPart (tPart (tC (.int 2)))) Γ Γ1 (Fz (x.a, x.b)) := fun Hs G σ H F X Cs I Q q => ha Hs G σ H F X Cs I _ fun v H1 ⟨F1, C1, Cs1, I1, e1, t, y, z, u, e2, e3, g1, g2, g3⟩ => by
  subst e1
  refine ⟨2, rfl, t, [y, z, u], e2, SqT.of (I1.b _ _ e3), show ¬ (HT.sIx 3 0 none = 0 ∧ HT.sIx 3 3 (some 2) = 3) by decide, fun p hp => ?_⟩
  have I2 := I1.alF hp (.tup [y, z])
  have up : Same (plus Hs (F1 ++ F)) (plus Hs ((p, .tup [y, z]) :: (F1 ++ F))) := Iv.up (F2 := [(p, .tup [y, z])]) I2
  exact q _ _ ⟨(p, .tup [y, z]) :: F1, [], Cs1, I2, rfl, p, y, z, rfl, I2.loF.pGc (c := (p, .tup [y, z])) List.mem_cons_self, Enc.mo g1 up, Enc.mo g2 up⟩
def sp__law_wrong : Sp := spG (fun i : List (List Int) × List (List Tri) => OrdG i.1 ∧ i.1.length ≤ 1000) (fun i => [Fz i.1, Fz i.2]) (fun i => Fz (wrongM i.1 i.2))
def t__law_wrong (K : PySem.W.Frag) : TS :=
(tSeq (tAsg (tDisp (((tC (.int 0)), (tCB (qList K) (tCons (tOp (rIxL K) (tVar 0) (tC (.int 0))) tNil))) :: [])) (gName 2))
    (tSeq (tFor (iEnum K (tCons (tVar 1) tNil)) (gTup K 2 (gCons (gName 3) (gCons (gName 4) gNil)))
    (tSeq (tAsg (tLc (iList K (tCB (rSortedI K) (tCons (tCB qListD (tCons (tVar 2) tNil)) tNil))) (gName 5) (tTest (tOp (rNeD K) (tDGet (tVar 2) (tVar 5)) (tLst tNil))) (tTup (tCons (tVar 5) (tCons (tOp (rIxL K) (tDGet (tVar 2) (tVar 5)) (tC (.int 0))) tNil))) [5]) (gName 6))
      (tSeq (tFor (iEnum K (tCons (tVar 4) tNil)) (gTup K 2 (gCons (gName 7) (gCons (gName 8) gNil)))
      (tIfS (tOr (tTest (tOp qGe (tVar 7) (tCB (qLen K) (tCons (tVar 6) tNil)))) (tTest (tOp (rNeD K) (L2.tSl (rSlT K) (tVar 8) tNoPart (tPart (tC (.int 2)))) (tOp (rIxL K) (tVar 6) (tVar 7)))))
        (tRet (tTup (tCons (tVar 3) (tCons (tVar 7) tNil))))
        tNext))
      (tSeq (tIfS (tOr (tTest (tOp (rEqD K) (tVar 4) (tLst tNil))) (tTest (tOp qLt (tCB (qLen K) (tCons (tVar 4) tNil)) (tCB (qLen K) (tCons (tVar 6) tNil)))))
      (tRet (tTup (tCons (tVar 3) (tCons (tCB (qLen K) (tCons (tVar 4) tNil)) tNil))))
      tNext)
      (tFor (iList K (tVar 4)) (gTup K 3 (gCons (gName 5) (gCons (gName 9) (gCons (gName 10) gNil))))
      (tSeq (tAsg (L2.tSl (rSlL K) (tDGet (tVar 2) (tVar 5)) (tPart (tC (.int 1))) tNoPart) (gName 11))
        (tIfS (tB (tVar 10))
        (tSeq (sDPut (tVar 2) (tVar 9) (tCB (qList K) (tCons (tOp (rIxL K) (tVar 0) (tVar 9)) tNil)))
          (sDPut (tVar 2) (tVar 5) (tVar 11)))
        (sDPut (tVar 2) (tVar 5) (tOp rCat (tCB (qList K) (tCons (tOp (rIxL K) (tVar 0) (tVar 9)) tNil)) (tVar 11))))))))))
    (tRet (tIf (tB (tCB (rAny K) (tCons (tLockE (tLc (iKeys (tVar 2)) (gName 9) tYes (tOp (rNeD K) (tDGet (tVar 2) (tVar 9)) (tLst tNil)) [9])) tNil))) (tTup (tCons (tCB (qLen K) (tCons (tVar 1) tNil)) (tCons (tC (.int 0)) tNil))) (tC .non)))))
theorem v__law_wrong {K : PySem.W.Frag} {vs : List V} {H : Hp} {Q : VK} {E : XK} (h : sp__law_wrong vs H Q E) : t__law_wrong K (fin Q) (st0 12 vs) H := by
  refine v_of (n := 12) (fun ⟨os, calls⟩ ⟨O, hn⟩ => ?_) h
  have O : OrdG os := O
  have hn : os.length ≤ 1000 := hn
  have hp := O.pos
  have h00 : atI os 0 = some (rowO os 0) := atI_getD os 0 [] (by omega)
  show Wp (t__law_wrong K) [some (Fz os), some (Fz calls), none, none, none, none, none, none, none, none, none, none] (Rt (Fz (wrongM os calls)))
  refine wq_asgO (A := OwD [((0 : Int), rowO os 0)]) (ev_disp1 ev_int (ev_fr (ev_list (ev_ix (by decreasing_trivial) (by decreasing_trivial) h00)))) ?_
  refine wp_seq (wp_for (xs := enumI calls) (by decreasing_trivial) bd_2 (fun k Γ => ∃ (N : Nw) (KK : List Int) (x3 x4 x5 x6 x7 x8 x9 x10 x11 : Option As), WInv os N KK ∧ wrongM os calls = wrongF os k N (calls.drop k) ∧ Γ = [some (Fz os), some (Fz calls), some (OwD N), x3, x4, x5, x6, x7, x8, x9, x10, x11]) (by exact ⟨_, _, _, _, _, _, _, _, _, _, _, WInv.start O, rfl, rfl⟩) ?_ ?_)
  · rintro k ⟨a, row⟩ Γ ha ⟨N, KK, x3, x4, x5, x6, x7, x8, x9, x10, x11, W, hw, rfl⟩
    have hkl := lt_of_get ha
    rw [enumI_len] at hkl
    have hrow := get_some hkl
    rw [enumI_get hrow] at ha
    have ha := Option.some.inj ha
    obtain rfl : a = (k : Int) := (congrArg Prod.fst ha).symm
    have ha2 : calls[k] = row := congrArg Prod.snd ha
    rw [ha2] at hrow
    rw [wrongF_drop hrow] at hw
    have hNl := W.klen.2
    have hsl : (sortI (N.map (·.1))).length = N.length := by rw [sortI_len, List.length_map]
    have edue : Ev (tLc (iList K (tCB (rSortedI K) (tCons (tCB qListD (tCons (tVar 2) tNil)) tNil))) (gName 5) (tTest (tOp (rNeD K) (tDGet (tVar 2) (tVar 5)) (tLst tNil))) (tTup (tCons (tVar 5) (tCons (tOp (rIxL K) (tDGet (tVar 2) (tVar 5)) (tC (.int 0))) tNil))) [5]) [none, none, some (Fz (Dc.mk N)), none, none, none, none, none, none, none, none, none] [none, none, some (Fz (Dc.mk N)), none, none, none, none, none, none, none, none, none] (Ow ((callersM N).map fun c => (c, nextM N c))) := by
      have := ev_fil (xs := sortI (N.map (·.1))) (ws := [5]) (g := gName 5) (Γ := [none, none, some (Fz (Dc.mk N)), none, none, none, none, none, none, none, none, none]) (wi := iList K (tCB (rSortedI K) (tCons (tCB qListD (tCons (tVar 2) tNil)) tNil))) (tt := tTest (tOp (rNeD K) (tDGet (tVar 2) (tVar 5)) (tLst tNil))) (te := tTup (tCons (tVar 5) (tCons (tOp (rIxL K) (tDGet (tVar 2) (tVar 5)) (tC (.int 0))) tNil))) (fun p => decide (rowAt N p ≠ [])) (fun c => (c, nextM N c)) (is_list (ev_fr (ev_sorted (ev_fr (ev_listD (ev_var rfl)))))) (by decreasing_trivial) bd_n (by omega) (fun c hc => by
        have hck : c ∈ N.map (·.1) := (sortI_perm _).mem_iff.mp hc
        have hg := gVal_rowAt hck
        have hat : rowAt N c ≠ [] → atI (rowAt N c) 0 = some (nextM N c) := fun hq => by
          unfold nextM
          cases hr : rowAt N c with
          | nil => exact absurd hr hq
          | cons x xs => exact atI_nat (j := 0) rfl
        exact ⟨_, et_eq (et_tt (ev_neM (ev_dg (ev_var rfl) (ev_var rfl) hg) (ev_fr ev_nil))) (by simp), fun hq => ⟨_, ev_p2 (ev_var rfl) (ev_ix (ev_dg (ev_var rfl) (ev_var rfl) hg) ev_int (hat (by simpa using hq)))⟩⟩)
      exact this
    refine wq_asg (ev_fr (ev_brw (Γ' := [none, none, some (Fz (Dc.mk N)), none, none, none, none, none, none, none, none, none]) (.no _ (.no _ (.so cv_owd (.no _ (.no _ (.no _ (.no _ (.no _ (.no _ (.no _ (.no _ (.no _ .nil)))))))))))) tpo_ow edue)) ?_
    have hcr : ∀ c ∈ callersM N, ∃ n rest, gVal N c = some (n :: rest) := fun c hc => caller_row hc
    generalize hcs : callersM N = cs at *
    refine wp_seq (wp_for (xs := enumI row) (by decreasing_trivial) bd_2 (fun s Γ => ∃ (x7 x8 : Option As), badSpot N cs 0 row = badSpot N cs s (row.drop s) ∧ Γ = [some (Fz os), some (Fz calls), some (OwD N), some (Fz (k : Int)), some (Fz row), x5, some (Fz (cs.map fun c => (c, nextM N c))), x7, x8, x9, x10, x11]) (by exact ⟨_, _, rfl, rfl⟩) ?_ ?_)
    · rintro s ⟨a', t⟩ Γ ha' ⟨y6, y7, hb, rfl⟩
      have hsl := lt_of_get ha'
      rw [enumI_len] at hsl
      have ht := get_some hsl
      rw [enumI_get ht] at ha'
      have ha' := Option.some.inj ha'
      obtain rfl : a' = (s : Int) := (congrArg Prod.fst ha').symm
      have ha3 : row[s] = t := congrArg Prod.snd ha'
      rw [ha3] at ht
      rw [badSpot_drop ht] at hb
      have hspot : spotBad N cs s t = (decide ((cs.length : Int) ≤ s) || !decide ((t.a, t.b) = (cs.getD s 0, nextM N (cs.getD s 0)))) := by
        unfold spotBad
        congr 1
        · rw [Bool.eq_iff_iff, decide_eq_true_eq, decide_eq_true_eq]
          omega
        · by_cases h1 : t.a = cs.getD s 0
          · rw [← h1]; simp
          · rw [decide_eq_false h1, decide_eq_false (fun z => h1 (Prod.mk.inj z).1)]; rfl
      refine wp_if (b := spotBad N cs s t) (by
        rw [hspot]
        refine et_or (et_tt (ev_ge (ev_var rfl) (ev_eq (ev_len (ev_var rfl)) (by simp)))) fun h1 => ?_
        have h1 : s < cs.length := by
          have := of_decide_eq_false h1
          omega
        refine et_tt (ev_neM (ev_slT2 (ev_var rfl)) (ev_ix (ev_var rfl) (ev_var rfl) (atI_nat (j := s) ?_)))
        rw [List.getElem?_map, List.getElem?_eq_getElem h1, List.getD_eq_getElem?_getD, List.getElem?_eq_getElem h1]
        rfl) (fun hz => ?_) (fun hz => ?_)
      · rw [if_pos hz] at hb
        rw [hb] at hw
        refine wp_ret (ev_some (ev_p2 (ev_var rfl) (ev_var rfl))) ?_
        show Fz _ = Fz _
        rw [hw]
      · rw [if_neg (by rw [hz]; decide)] at hb
        exact wp_next ⟨_, _, hb, rfl⟩
    · rintro Γ ⟨y6, y7, hb, rfl⟩
      rw [enumI_len] at hb
      rw [List.drop_eq_nil_of_le (Nat.le_refl _)] at hb
      have hb : badSpot N cs 0 row = none := hb
      rw [hb] at hw
      have hlq : (decide (row = []) || decide ((row.length : Int) < cs.length)) = decide (row.length < cs.length ∨ row = []) := by
        rw [Bool.eq_iff_iff]
        simp only [Bool.or_eq_true, decide_eq_true_eq]
        exact ⟨fun h => h.elim .inr (fun h => .inl (by omega)), fun h => h.elim (fun h => .inr (by omega)) .inl⟩
      refine wq_if (b := decide (row.length < cs.length ∨ row = [])) (by
        rw [← hlq]
        exact et_or (et_tt (ev_eqM (ev_var rfl) (ev_fr ev_nil))) fun _ => et_tt (ev_lt (ev_len (ev_var rfl)) (ev_eq (ev_len (ev_var rfl)) (by simp)))) (fun hz => ?_) (fun hz => ?_)
      · simp only [if_pos (of_decide_eq_true hz)] at hw
        refine wp_ret (ev_some (ev_p2 (ev_var rfl) (ev_len (ev_var rfl)))) ?_
        show Fz _ = Fz _
        rw [hw]
      · have hz := of_decide_eq_false hz
        simp only [if_neg hz] at hw
        have hturn := turn_is (N := N) (row := row) (by rw [hcs]; exact hb) (by rw [hcs]; exact hz)
        obtain ⟨⟨K', W'⟩, hgo⟩ := turn_go O W hturn
        refine wp_next ?_
        refine wp_for (xs := row) (by decreasing_trivial) bd_3 (fun s Γ => ∃ (x5 x9 x10 x11 : Option As), Γ = [some (Fz os), some (Fz calls), some (OwD (callsGo os N (row.take s))), some (Fz (k : Int)), some (Fz row), x5, some (Fz (cs.map fun c => (c, nextM N c))), y6, y7, x9, x10, x11]) (by exact ⟨_, _, _, _, rfl⟩) ?_ ?_
        · rintro s t Γ ht ⟨z5, z9, z10, z11, rfl⟩
          obtain ⟨n, rest, K2, g1, g2, g3⟩ := hgo s t ht
          obtain ⟨q1, q2, q3⟩ := g3.next O g1
          obtain ⟨j, j1, j2⟩ := people_mem.mp q2
          have hkl2 := g3.klen.2
          simp only [List.length_cons] at q3
          have est : row.take (s + 1) = row.take s ++ [t] := by rw [List.take_succ, ht]; rfl
          have htb : t.b = n := by
            have := (spot_ok (badSpot_none hb s t ht)).2.2
            rw [this]
            unfold nextM
            rw [rowAt_gv g2]
            rfl
          obtain ⟨tc, tb, tk⟩ := t
          simp only at htb g1 g2
          subst htb
          rw [est, callsGo_snoc]
          have hnk : tb ∉ (callsGo os N (row.take s)).map (·.1) := fun z => q1 (g3.sub _ z)
          have hck : tc ∈ (callsGo os N (row.take s)).map (·.1) := List.mem_map.mpr ⟨_, gVal_mem g1, rfl⟩
          have hrow : atI os tb = some (rowO os tb) := atI_getD os tb [] (by omega)
          have hrl : (rowO os tb).length ≤ 1000 := by
            have := nodup_le (O.row_nodup q2) (m := people os.length) fun x hx => (O.row_mem q2 hx).1
            rw [people_len] at this
            omega
          have ecut : cutA (tb :: rest) (some 1) none = rest := by
            have := cutA_from (tb :: rest) 1
            simpa using this
          have ecall := callM_eq (os := os) g1 tk
          show Wp _ [some (Fz os), some (Fz calls), some (OwD (callsGo os N (row.take s))), some (Fz (k : Int)), some (Fz row), some (Fz tc), some (Fz (cs.map fun c => (c, nextM N c))), y6, y7, some (Fz tb), some (Fz tk), z11] _
          generalize callsGo os N (row.take s) = Ns at *
          refine wq_asg (a := rest) (ev_eq (ev_fr (ev_slL (ev_dgO rfl (ev_var rfl) rfl g1) ev_int)) ecut) ?_
          refine wp_if (b := tk) (et_b (ev_var rfl)) (fun hb2 => ?_) (fun hb2 => ?_)
          · subst hb2
            refine wp_seq (wp_dput (a := rowO os tb) (ev_fr (ev_list (ev_ix (ev_var rfl) (ev_var rfl) hrow))) rfl (ev_var rfl) rfl (by omega) ?_)
            refine wp_dput (a := rest) (ev_var rfl) rfl (ev_var rfl) rfl (by rw [gPut_out hnk]; simp; omega) ?_
            simp only [if_true] at ecall
            rw [← gPut_comm hck hnk] at ecall
            exact ⟨_, _, _, _, by dsimp only; rw [ecall]; rfl⟩
          · subst hb2
            refine wp_dput (a := rowO os tb ++ rest) (ev_fr (ev_cat (ev_fr (ev_list (ev_ix (ev_var rfl) (ev_var rfl) hrow))) (ev_var rfl) (by omega))) rfl (ev_var rfl) rfl (by omega) ?_
            rw [if_neg (by decide)] at ecall
            exact ⟨_, _, _, _, by dsimp only; rw [ecall]; rfl⟩
        · rintro Γ ⟨z5, z9, z10, z11, rfl⟩
          rw [List.take_of_length_le (Nat.le_refl _)]
          exact ⟨_, K', _, _, _, _, _, _, _, _, _, W', hw, rfl⟩
  · rintro Γ ⟨N, KK, x3, x4, x5, x6, x7, x8, x9, x10, x11, W, hw, rfl⟩
    rw [enumI_len, List.drop_eq_nil_of_le (Nat.le_refl _)] at hw
    have hw : wrongM os calls = if callersM N = [] then none else some ((calls.length : Int), 0) := hw
    have hNl := W.klen.2
    have hany : Ev (tCB (rAny K) (tCons (tLockE (tLc (iKeys (tVar 2)) (gName 9) tYes (tOp (rNeD K) (tDGet (tVar 2) (tVar 9)) (tLst tNil)) [9])) tNil)) [none, none, some (Fz (Dc.mk N)), none, none, none, none, none, none, none, none, none] [none, none, some (Fz (Dc.mk N)), none, none, none, none, none, none, none, none, none] (Fz (!decide (callersM N = []))) := by
      rw [← any_rows]
      refine ev_any (ev_fr (ev_lockF (i := 2) rfl tpo_ow fun od => ⟨[none, none, some (Fz (Dz.mk od N)), none, none, none, none, none, none, none, none, none], ev_map (Γ := [none, none, some (Fz (Dz.mk od N)), none, none, none, none, none, none, none, none, none]) (fun k => !decide (rowAt N k = [])) (is_keys (ev_var rfl)) (by decreasing_trivial) bd_n (by simp; omega) fun c hc => ⟨_, ev_neM (ev_dgZ (ev_var rfl) (ev_var rfl) (gVal_rowAt hc)) (ev_fr ev_nil)⟩⟩))
    refine wr (Γ1 := [some (Fz os), some (Fz calls), some (OwD N), x3, x4, x5, x6, x7, x8, x9, x10, x11]) (ev_if (b := !decide (callersM N = [])) (et_b (ev_brw (Γ' := [none, none, some (Fz (Dc.mk N)), none, none, none, none, none, none, none, none, none]) (.no _ (.no _ (.so cv_owd (.no _ (.no _ (.no _ (.no _ (.no _ (.no _ (.no _ (.no _ (.no _ .nil)))))))))))) tpo_fz hany)) (fun hb => ?_) (fun hb => ?_))
    · have hb : callersM N ≠ [] := by simpa using hb
      rw [hw, if_neg hb]
      exact ev_some (ev_p2 (ev_len (ev_var rfl)) ev_int)
    · have hb : callersM N = [] := by simpa using hb
      rw [hw, if_pos hb]
      exact ev_non
theorem ev_lwrong {ta tb : TE} {Γ Γ1 Γ2 : Env} {os : List (List Int)} {calls : List (List Tri)} (h : Ev ta Γ Γ1 (Fz os)) (h' : Ev tb Γ1 Γ2 (Fz calls)) (O : OrdG os) (hn : os.length ≤ 1000) : Ev (tCall sp__law_wrong [] E0 (tCons ta (tCons tb tNil))) Γ Γ2 (Fz (wrongM os calls)) := ev_call (i := (os, calls)) (ea_2 h h') ⟨O, hn⟩
end Cc

namespace Cc
open PySem L2
local macro_rules | `(tactic| decreasing_trivial) => `(tactic| first | (with_reducible exact ev_int) | (with_reducible exact ev_bl) | ((with_reducible apply ev_var) <;> rfl) | (with_reducible exact ea_nil) | (with_reducible exact Es.nil) | (with_reducible exact Kp.nil) | (with_reducible apply ev_non) | ((with_reducible apply ev_add) <;> decreasing_trivial) | ((with_reducible apply ev_sub) <;> decreasing_trivial) | ((with_reducible apply ev_mod) <;> decreasing_trivial) | ((with_reducible apply ev_div) <;> decreasing_trivial) | ((with_reducible apply ev_mul) <;> decreasing_trivial) | ((with_reducible apply ev_pow) <;> decreasing_trivial) | ((with_reducible apply ev_lt) <;> decreasing_trivial) | ((with_reducible apply ev_le) <;> decreasing_trivial) | ((with_reducible apply ev_gt) <;> decreasing_trivial) | ((with_reducible apply ev_ge) <;> decreasing_trivial) | ((with_reducible apply ev_eqS) <;> decreasing_trivial) | ((with_reducible apply ev_neS) <;> decreasing_trivial) | ((with_reducible apply ev_isB) <;> decreasing_trivial) | ((with_reducible apply ev_notB) <;> decreasing_trivial) | ((with_reducible apply ev_neg) <;> decreasing_trivial) | ((with_reducible apply ev_not) <;> decreasing_trivial) | ((with_reducible apply ev_len) <;> decreasing_trivial) | ((with_reducible apply ev_sum) <;> decreasing_trivial) | ((with_reducible apply ev_ixD) <;> decreasing_trivial) | ((with_reducible apply ev_ixT0) <;> decreasing_trivial) | ((with_reducible apply ev_ixT1) <;> decreasing_trivial) | ((with_reducible apply ev_ixT2) <;> decreasing_trivial) | ((with_reducible apply ev_ixP0) <;> decreasing_trivial) | ((with_reducible apply ev_ixP1) <;> decreasing_trivial) | ((with_reducible apply ev_ixDT) <;> decreasing_trivial) | ((with_reducible apply ev_fr; with_reducible apply ev_cat) <;> decreasing_trivial) | ((with_reducible apply ev_fr; with_reducible apply ev_list) <;> decreasing_trivial) | ((with_reducible apply ev_fr; with_reducible apply ev_sorted) <;> decreasing_trivial) | ((with_reducible apply ev_fr; with_reducible apply ev_slH) <;> decreasing_trivial) | ((with_reducible apply ev_fr; with_reducible apply ev_slL) <;> decreasing_trivial) | ((with_reducible apply ev_fr; with_reducible apply ev_rev) <;> decreasing_trivial) | (with_reducible apply ev_fr; with_reducible exact ev_nil) | ((with_reducible apply ev_fr; with_reducible apply ev_ls) <;> decreasing_trivial) | ((with_reducible apply Es.cons) <;> decreasing_trivial) | ((with_reducible apply ev_in) <;> decreasing_trivial) | ((with_reducible apply ev_notin) <;> decreasing_trivial) | ((with_reducible apply ev_max2) <;> decreasing_trivial) | ((with_reducible apply ev_min2) <;> decreasing_trivial) | ((with_reducible apply ev_eqD) <;> decreasing_trivial) | ((with_reducible apply ev_neD) <;> decreasing_trivial) | ((with_reducible apply ev_all) <;> decreasing_trivial) | ((with_reducible apply ev_any) <;> decreasing_trivial) | ((with_reducible apply ev_fr; with_reducible apply ev_rg1) <;> decreasing_trivial) | ((with_reducible apply ev_fr; with_reducible apply ev_rg2) <;> decreasing_trivial) | ((with_reducible apply ev_p2) <;> decreasing_trivial) | ((with_reducible apply ev_t3) <;> decreasing_trivial) | ((with_reducible apply ev_tp) <;> decreasing_trivial) | ((with_reducible apply et_tt) <;> decreasing_trivial) | ((with_reducible apply et_b) <;> decreasing_trivial) | ((with_reducible apply et_not) <;> decreasing_trivial) | ((with_reducible apply et_or) <;> decreasing_trivial) | ((with_reducible apply et_and) <;> decreasing_trivial) | ((with_reducible apply ev_andV) <;> decreasing_trivial) | ((with_reducible apply ev_orV) <;> decreasing_trivial) | ((with_reducible apply ev_chLL) <;> decreasing_trivial) | ((with_reducible apply ev_chll) <;> decreasing_trivial) | ((with_reducible apply is_list) <;> decreasing_trivial) | ((with_reducible apply is_tup) <;> decreasing_trivial) | ((with_reducible apply is_rng1) <;> decreasing_trivial) | ((with_reducible apply is_rng2) <;> decreasing_trivial) | ((with_reducible apply is_enum) <;> decreasing_trivial) | ((with_reducible apply is_zip) <;> decreasing_trivial) | ((with_reducible apply ea_1) <;> decreasing_trivial) | ((with_reducible apply ea_2) <;> decreasing_trivial) | ((with_reducible apply ea_3) <;> decreasing_trivial) | ((with_reducible apply ev_dg) <;> decreasing_trivial) | ((with_reducible apply ev_dg1) <;> decreasing_trivial) | ((with_reducible apply ev_fr; with_reducible apply ev_listD) <;> decreasing_trivial) | ((with_reducible apply ev_isi) <;> decreasing_trivial) | ((with_reducible apply ev_whole) <;> decreasing_trivial) | ((with_reducible apply ev_betw) <;> decreasing_trivial) | ((with_reducible apply ev_num) <;> decreasing_trivial) | ((with_reducible apply Kp.so fr_fz) <;> decreasing_trivial) | ((with_reducible apply Kp.no) <;> decreasing_trivial) | (intro (_ : (_ : Bool) = _); decreasing_trivial) | (infer_instance) | (rfl) | (omega) | (decide) | (simp; done) | (skip))
/-! the classes Right and Wrong -/
structure KWrong (K : PySem.W.Frag) (C : Addr) : Prop where
  cl : Cls K C
  nT : NoAttr K C "turn"
  nS : NoAttr K C "spot"
def wrF (t s : Int) : List (Str × V) := putF "spot" (.int s) (putF "turn" (.int t) [])
theorem wrF_turn (t s : Int) : (wrF t s).lookup ("turn" : Str) = some (.int t) := by
  unfold wrF
  rw [lookup_putF, if_neg (by decide +kernel), lookup_putF, if_pos rfl]
theorem wrF_spot (t s : Int) : (wrF t s).lookup ("spot" : Str) = some (.int s) := by
  unfold wrF
  rw [lookup_putF, if_pos rfl]
theorem wrF_no (t s : Int) {m : Str} (h1 : ¬ m = "spot") (h2 : ¬ m = "turn") : (wrF t s).lookup m = none := by
  unfold wrF
  rw [lookup_putF, if_neg h1, lookup_putF, if_neg h2]
  rfl
/-- an object with these fields stands -/
def ObF (C : Addr) (fs : List (Str × V)) : As where
  p := fun H v Cc => Cc = [] ∧ ∃ x dx, v = .ref x ∧ H x = some (.ins C dx fs)
  mo := fun ⟨c, x, dx, e, h⟩ s => ⟨c, x, dx, e, s _ _ h⟩
  nt := fun ⟨c, _⟩ z hz => by rw [c] at hz; cases hz
abbrev RiF (C : Addr) : As := ObF C []
abbrev WrF (C : Addr) (t s : Int) : As := ObF C (wrF t s)
theorem fr_ob {C : Addr} {fs : List (Str × V)} : Fr (ObF C fs) := fun _ _ _ h => h.1
theorem cv_ob {C : Addr} {fs : List (Str × V)} : Cv (ObF C fs) (ObF C fs) := fun _ _ _ _ ⟨c, x, dx, e, h⟩ s hc => ⟨rfl, x, dx, e, s _ _ h⟩
theorem ins_ob {C : Addr} {fs : List (Str × V)} {m : Str} (h : fs.lookup m = none) : InsO (ObF C fs) C m := fun _ _ _ _ ⟨c, x, dx, e, h3⟩ s _ => ⟨x, dx, _, e, s _ _ h3, h⟩
theorem ins_wr {C : Addr} {t s : Int} : InsO (WrF C t s) C "shows" := ins_ob (wrF_no t s (by decide +kernel) (by decide +kernel))
theorem ins_ri {C : Addr} : InsO (RiF C) C "shows" := ins_ob rfl
section
variable {ta tb tc : TE} {tr : TA} {Γ Γ1 Γ2 Γ3 : Env} {C : Addr} {t s : Int} {K : PySem.W.Frag}
theorem ev_ri : Ev (tMake0 C) Γ Γ (RiF C) := fun Hs G σ H F X Cs I Q q x dx hx hdx hne => by
  have L3 := ((Lo.nil H).al hdx (.own x)).al (p := x) (by rw [upd_ne hne.symm]; exact hx) (.ins C dx [])
  have I3 := I.ext (F2 := [(x, .ins C dx []), (dx, .own x)]) (C := []) (by rw [List.append_nil]; exact L3) (fun c hc => nomatch hc)
  exact q _ _ ⟨_, [], Cs, I3, rfl, x, dx, rfl, I3.loF.pGc (c := (x, .ins C dx [])) List.mem_cons_self⟩
def sp_Wrong___init__ (C : Addr) : Sp := fun vs H Q _ => ∃ (H0 : Hp) (x dx : Addr) (t s : Int), vs = [.ref x, .int t, .int s] ∧ Lo H0 H [(x, .ins C dx []), (dx, .own x)] ∧
  ∀ H', Lo H0 H' [(x, .ins C dx (wrF t s)), (dx, .own x)] → Q .non H'
def t_Wrong___init__ (K : PySem.W.Frag) : TS :=
(tSeq (sFld K (tVar 0) (tVar 1) "turn")
    (sFld K (tVar 0) (tVar 2) "spot"))
theorem v_Wrong___init__ {K : PySem.W.Frag} {C : Addr} (T : KWrong K C) {vs : List V} {H : Hp} {Q : VK} {E : XK} (h : sp_Wrong___init__ C vs H Q E) : t_Wrong___init__ K (fin Q) (st0 3 vs) H := by
  obtain ⟨H0, x, dx, t, s, rfl, L, k⟩ := h
  refine q_fld (va_var rfl).r ?_
  rintro _ H1 ⟨rfl, rfl⟩
  refine ⟨_, rfl, x, C, dx, _, rfl, L.get List.mem_cons_self, T.cl, T.nT, by decide, ?_⟩
  have L2 := Lo.wr (A := []) (B := [(dx, .own x)]) L (.ins C dx (putF "turn" (.int t) []))
  refine s_fld (va_var rfl).r ?_
  rintro _ H2 ⟨rfl, rfl⟩
  refine ⟨_, rfl, x, C, dx, _, rfl, L2.get List.mem_cons_self, T.cl, T.nS, by show 1 < 1000; decide, ?_⟩
  have L3 := Lo.wr (A := []) (B := [(dx, .own x)]) L2 (.ins C dx (wrF t s))
  exact k _ L3
theorem ev_mkWr (h : Ev ta Γ Γ1 (Fz t)) (h' : Ev tb Γ1 Γ2 (Fz s)) : Ev (tMake C (sp_Wrong___init__ C) [] E0 (tCons ta (tCons tb tNil))) Γ Γ2 (WrF C t s) := fun Hs G σ H F X Cs I Q q => h Hs G σ H F X Cs I _ fun v H1 ⟨F1, C1, Cs1, I1, e1, r1⟩ => by
  subst e1
  refine h' Hs G σ H1 _ _ Cs1 I1 _ fun w H2 ⟨F2, C2, Cs2, I2, e2, r2⟩ => ?_
  subst e2
  have r1 : v = .int t := r1
  have r2 : w = .int s := r2
  subst r1 r2
  intro x dx hx hdx hne
  have L3 := ((Lo.nil H2).al hdx (.own x)).al (p := x) (by rw [upd_ne hne.symm]; exact hx) (.ins C dx [])
  refine ⟨H2, x, dx, t, s, rfl, L3, fun H' L => ⟨rfl, ?_⟩⟩
  have I3 := I2.ext (F2 := [(x, .ins C dx (wrF t s)), (dx, .own x)]) (C := []) (by rw [List.append_nil]; exact L) (fun c hc => nomatch hc)
  refine q _ _ ⟨[(x, .ins C dx (wrF t s)), (dx, .own x)] ++ (F2 ++ F1), [], Cs2, by simpa only [List.append_assoc, List.nil_append] using I3, rfl, x, dx, rfl, ?_⟩
  have := I3.loF.pGc (H := Hs) (c := (x, .ins C dx (wrF t s))) List.mem_cons_self
  simpa only [List.append_assoc] using this
theorem ev_wrT (T : KWrong K C) (h : Ev ta Γ Γ1 (WrF C t s)) : Ev (tFld K ta "turn") Γ Γ1 (Fz t) := fun Hs G σ H F X Cs I Q q => h Hs G σ H F X Cs I _ fun v H1 ⟨F1, C1, Cs1, I1, e1, x, dx, e2, h2⟩ => by
  subst e1
  exact ⟨x, C, dx, _, _, e2, I1.b _ _ h2, T.cl, T.nT, wrF_turn _ _, q _ _ ⟨F1, [], Cs1, I1, rfl, rfl⟩⟩
theorem ev_wrS (T : KWrong K C) (h : Ev ta Γ Γ1 (WrF C t s)) : Ev (tFld K ta "spot") Γ Γ1 (Fz s) := fun Hs G σ H F X Cs I Q q => h Hs G σ H F X Cs I _ fun v H1 ⟨F1, C1, Cs1, I1, e1, x, dx, e2, h2⟩ => by
  subst e1
  exact ⟨x, C, dx, _, _, e2, I1.b _ _ h2, T.cl, T.nS, wrF_spot _ _, q _ _ ⟨F1, [], Cs1, I1, rfl, rfl⟩⟩
theorem ev_isiO {D : Addr} {b : Bool} {fs : List (Str × V)} (h : Ev ta Γ Γ1 (ObF C fs)) (k : KIns K C) (e : PySem.W.kitOne K (.ref C) (.ref D) = some b) : Ev (tCB (rIsi K) (tCons ta (tCons (tC (.ref D)) tNil))) Γ Γ1 (Fz b) := fun Hs G σ H F X Cs I Q q => h Hs G σ H F X Cs I _ fun v H1 ⟨F1, C1, Cs1, I1, e1, x, dx, e2, h2⟩ => by
  subst e1 e2
  exact ⟨.ref x, .ref D, _, _, b, rfl, .own D, .base (.ins (I1.b _ _ h2) k.cl k.ha k.hn k.htk k.hm), e, q _ _ ⟨F1, [], Cs1, I1, rfl, rfl⟩⟩
end
instance {α β : Type} [DecidableEq α] [Enc α] [EncD α] [EncQ α] [DecidableEq β] [Enc β] [EncD β] [EncQ β] : EncQ (Option (α × β)) := ⟨fun a b => by
  cases a with
  | none => cases b with
    | none => rfl
    | some b => show PyData.eqv .none (.tuple _) = _; simp [PyData.eqv]
  | some a => cases b with
    | none => show PyData.eqv (.tuple _) .none = _; simp [PyData.eqv]
    | some b =>
      show PyData.eqv (EncD.dat a) (EncD.dat b) = _
      rw [EncQ.eqv]
      simp⟩
def sp_Right_shows (C : Addr) : Sp := spG (fun i : List (List Int) × List (List Tri) => OrdG i.1 ∧ i.1.length ≤ 1000) (fun i => RiF C :: [Fz i.1, Fz i.2]) (fun i => Fz (wrongM i.1 i.2).isNone)
def t_Right_shows (K : PySem.W.Frag) : TS :=
(tRet (tOp qIsN (tCall sp_first_wrong [] E0 (tCons (tVar 1) (tCons (tVar 2) tNil))) (tC .non)))
theorem v_Right_shows {K : PySem.W.Frag} {C : Addr} {vs : List V} {H : Hp} {Q : VK} {E : XK} (h : sp_Right_shows C vs H Q E) : t_Right_shows K (fin Q) (st0 3 vs) H := by
  refine v_of (n := 3) (fun ⟨os, calls⟩ ⟨O, hn⟩ => ?_) h
  show Wp (t_Right_shows K) [some (RiF C), some (Fz os), some (Fz calls)] (Rt (Fz (wrongM os calls).isNone))
  exact wp_ret (ev_isN nn_pair (ev_fwrong (ev_var rfl) (ev_var rfl) O hn)) rfl
def sp_Wrong_shows (C : Addr) : Sp := spG (fun i : (Int × Int) × List (List Int) × List (List Tri) => OrdG i.2.1 ∧ i.2.1.length ≤ 1000) (fun i => WrF C i.1.1 i.1.2 :: [Fz i.2.1, Fz i.2.2]) (fun i => Fz (decide (wrongM i.2.1 i.2.2 = some i.1)))
def t_Wrong_shows (K : PySem.W.Frag) : TS :=
(tRet (tOp (rEqD K) (tCall sp_first_wrong [] E0 (tCons (tVar 1) (tCons (tVar 2) tNil))) (tTup (tCons (tFld K (tVar 0) "turn") (tCons (tFld K (tVar 0) "spot") tNil)))))
theorem v_Wrong_shows {K : PySem.W.Frag} {C : Addr} (T : KWrong K C) {vs : List V} {H : Hp} {Q : VK} {E : XK} (h : sp_Wrong_shows C vs H Q E) : t_Wrong_shows K (fin Q) (st0 3 vs) H := by
  refine v_of (n := 3) (fun ⟨⟨t, s⟩, os, calls⟩ ⟨O, hn⟩ => ?_) h
  show Wp (t_Wrong_shows K) [some (WrF C t s), some (Fz os), some (Fz calls)] (Rt (Fz (decide (wrongM os calls = some (t, s)))))
  exact wp_ret (ev_eqM (ev_fwrong (ev_var rfl) (ev_var rfl) O hn) (ev_some (ev_p2 (ev_wrT T (ev_same rfl fr_ob)) (ev_wrS T (ev_same rfl fr_ob))))) rfl
section
variable {ta tb tc : TE} {Γ Γ1 Γ2 Γ3 : Env} {C : Addr} {t s : Int} {K : PySem.W.Frag} {os : List (List Int)} {calls : List (List Tri)}
theorem ev_riSh (h0 : Ev ta Γ Γ1 (RiF C)) (h : Ev tb Γ1 Γ2 (Fz os)) (h' : Ev tc Γ2 Γ3 (Fz calls)) (O : OrdG os) (hn : os.length ≤ 1000) : Ev (tMeth C "shows" (sp_Right_shows C) [] E0 ta (tCons tb (tCons tc tNil))) Γ Γ3 (Fz (wrongM os calls).isNone) :=
  ev_methF (S := fun _ : List (List Int) × List (List Tri) => RiF C) (i := (os, calls)) h0 fr_ob ins_ri (ea_2 h h') ⟨O, hn⟩
theorem ev_wrSh (h0 : Ev ta Γ Γ1 (WrF C t s)) (h : Ev tb Γ1 Γ2 (Fz os)) (h' : Ev tc Γ2 Γ3 (Fz calls)) (O : OrdG os) (hn : os.length ≤ 1000) : Ev (tMeth C "shows" (sp_Wrong_shows C) [] E0 ta (tCons tb (tCons tc tNil))) Γ Γ3 (Fz (decide (wrongM os calls = some (t, s)))) :=
  ev_methF (S := fun i : (Int × Int) × List (List Int) × List (List Tri) => WrF C i.1.1 i.1.2) (i := ((t, s), os, calls)) h0 fr_ob ins_wr (ea_2 h h') ⟨O, hn⟩
end
end Cc

namespace Cc
open PySem L2
/-! a dict that is walked, beside other names -/
/-- what stands of the names and leans on lists and tuples alone -/
inductive Kl : Env → Env → Prop
  | nil : Kl [] []
  | no {Γ Γ' : Env} (x : Option As) : Kl Γ Γ' → Kl (x :: Γ) (none :: Γ')
  | so {Γ Γ' : Env} {A : As} : Fr A → LsO A → Kl Γ Γ' → Kl (some A :: Γ) (some A :: Γ')
theorem Kl.ok {Γ Γ' : Env} {σ : L2.St} {Cs : List (List Cell)} (k : Kl Γ Γ') {Hb Hb' : Hp} (h : EnvOk Hb Γ σ Cs) (f : ∀ t xs, Hb t = some (.tup xs) → Hb' t = some (.tup xs)) (g : ∀ t xs, Hb t = some (.lst xs) → Hb' t = some (.lst xs)) : EnvOk Hb' Γ' σ (Γ'.map fun _ => []) := by
  induction k generalizing σ Cs with
  | nil => cases h; exact .nil
  | no x _ ih =>
    cases h with
    | no y h => exact .no _ (ih h)
    | so r h => exact .no _ (ih h)
  | so fr ls _ ih =>
    cases h with
    | so r h => exact .so (by have e := fr _ _ _ r; rw [e] at r; exact ls _ _ _ _ f g r) (ih h)
theorem nils_set0 (Γ : Env) (i : Nat) : (Γ.map fun _ => ([] : List Cell)).set i [] = Γ.map fun _ => [] := by
  refine List.ext_getElem? fun k => ?_
  by_cases h : i = k
  · subst h
    by_cases hl : i < Γ.length
    · rw [List.getElem?_set_self (by simpa using hl)]; simp [hl]
    · rw [List.getElem?_eq_none (by simp; omega), List.getElem?_eq_none (by simp; omega)]
  · rw [List.getElem?_set_ne h]
section
variable {te ta ty tx : TE} {Γ Γ1 Γ2 Γ3 Γ' Γk : Env} {A B D : As} {K : PySem.W.Frag} {i j l : Nat} {R : Post}
theorem ev_lockG {α : Type} {_ : Enc α} {N : List (Int × α)} [EncL α] (e : Γ[i]? = some (some (Fz (Dc.mk N)))) (kl : Kl Γ Γk) (tp : TpO A) (h : ∀ od, ∃ Γ2, Ev te (Γk.set i (some (Fz (Dz.mk od N)))) Γ2 A) : Ev (tLockE te) Γ Γ A := fun Hs G σ H F X Cs I Q q => by
  obtain ⟨v, C, C1, C2, h1, h2, h3, h4, d, kvs, h5, h6, al⟩ := I.ok.get e
  subst h5
  have hd : H d = some (.dK kvs) := I.b _ _ h6
  refine ⟨d, .dK kvs, hd, trivial, fun od => ?_⟩
  obtain ⟨Γ2, hh⟩ := h od
  have sS : Same (upd (plus Hs F) d (.frz od (.dK kvs))) (upd H d (.frz od (.dK kvs))) := fun a o ha => by
    by_cases z : a = d
    · subst z
      rw [upd_same] at ha ⊢
      exact ha
    · rw [upd_ne z] at ha ⊢
      exact I.b _ _ ha
  have hne : ∀ t o, plus Hs F t = some o → (∀ xs, o ≠ .dK xs) → upd (plus Hs F) d (.frz od (.dK kvs)) t = some o := fun t o ht hn => by
    by_cases z : t = d
    · subst z
      rw [h6] at ht
      cases ht
      exact absurd rfl (hn kvs)
    · rw [upd_ne z]
      exact ht
  have al2 : Al (kvR (upd (plus Hs F) d (.frz od (.dK kvs)))) N kvs := al.mp fun _ _ r => ⟨r.1, EncL.ls (fun t xs ht => hne t _ ht fun ys z => by cases z) (fun t xs ht => hne t _ ht fun ys z => by cases z) r.2⟩
  have ok0 := kl.ok I.ok (Hb' := upd (plus Hs F) d (.frz od (.dK kvs))) (fun t xs ht => hne t _ ht fun ys z => by cases z) (fun t xs ht => hne t _ ht fun ys z => by cases z)
  have ok1 := ok0.put (A := Fz (Dz.mk od N)) (C := []) h1 ⟨rfl, d, kvs, rfl, upd_same, al2⟩
  rw [nils_set0] at ok1
  have I0 : Iv (upd (plus Hs F) d (.frz od (.dK kvs))) (upd H d (.frz od (.dK kvs))) (Γk.set i (some (Fz (Dz.mk od N)))) σ (upd H d (.frz od (.dK kvs))) [] [] (Γk.map fun _ => []) :=
    ⟨sS, by rw [flat_none]; exact Lo.nil _, ok1, fun c hc => nomatch hc⟩
  refine hh _ _ _ _ _ _ _ I0 _ fun w H2 ⟨F2, C3, Cs3, I2, r2⟩ => ?_
  have hd2 : H2 d = some (.frz od (.dK kvs)) := I2.lo.sm _ _ upd_same
  refine ⟨hd2, ?_⟩
  have L2 : Lo (upd H d (.frz od (.dK kvs))) H2 (F2 ++ C3) := I2.lo.pk [F2, C3, Cs3.flatten] [0, 1, 2] [0, 1] [2]
  have L3 : Lo H (upd H2 d (.dK kvs)) (F2 ++ C3) := ⟨fun a o ha => by
      by_cases z : a = d
      · subst z
        rw [upd_same]
        rw [hd] at ha
        exact ha
      · rw [upd_ne z]
        exact L2.same a o (by rw [upd_ne z]; exact ha), fun {a o} ha => by
      have hn := L2.new ha
      by_cases z : a = d
      · subst z
        rw [upd_same] at hn
        cases hn
      · rw [upd_ne z]
        exact L2.get ha, fun {a o} ha => by
      have hn := L2.new ha
      by_cases z : a = d
      · subst z
        rw [upd_same] at hn
        cases hn
      · rw [upd_ne z] at hn
        exact hn, L2.nd⟩
  refine q _ _ ⟨F2, C3, Cs, I.ext L3 (As.nt _ r2), tp _ _ _ _ (fun t xs ht => ?_) r2⟩
  rw [List.append_nil] at ht
  unfold plus at ht ⊢
  rw [List.lookup_append]
  cases eF : F2.lookup t with
  | some o =>
    rw [eF] at ht
    exact ht
  | none =>
    rw [eF] at ht
    have ht : upd (plus Hs F) d (.frz od (.dK kvs)) t = some (.tup xs) := ht
    by_cases z : t = d
    · subst z
      rw [upd_same] at ht
      cases ht
    · rw [upd_ne z] at ht
      exact ht
/-- the statement, locked -/
theorem wp_lockA (h : Wp (tAsg (tLockE te) (gName j)) Γ R) : Wp (tLock (tAsg te (gName j))) Γ R := fun Hs G σ H F X Cs D I nx rt bk ct => h Hs G σ H F X Cs D I nx rt bk ct
/-- d.get(k, x) -/
theorem ev_dg2 {α : Type} {_ : Enc α} {N : List (Int × α)} {k : Int} {a : α} (h0 : Ev ta Γ Γ1 (Fz (Dc.mk N))) (h : Ev ty Γ1 Γ2 (Fz k)) (hx : Ev tx Γ2 Γ3 (Fz a)) : Ev (tDGet2 ta ty tx) Γ Γ3 (Fz ((gVal N k).getD a)) := fun Hs G σ H F X Cs I Q q => h0 Hs G σ H F X Cs I _ fun x H1 ⟨F1, C1, Cs1, I1, e1, d, kvs, e2, e3, e4⟩ => by
  subst e1
  refine ⟨d, e2, .inl ⟨kvs, .inl (I1.b _ _ e3)⟩, h Hs G σ H1 _ _ _ I1 _ fun w H2 ⟨F2, C2, Cs2, I2, e5, e6⟩ => ?_⟩
  subst e5
  have e6 : w = .int k := e6
  subst e6
  refine hx Hs G σ H2 _ _ _ I2 _ fun z H3 ⟨F3, C3, Cs3, I3, e7, e8⟩ => ?_
  subst e7
  have e3' := I3.b _ _ (I3.up _ _ (I2.up _ _ e3))
  cases hv : gVal N k with
  | none => exact ⟨none, .inl ⟨_, .inl k, .inl e3', rfl, (e4.valN hv).symm⟩, q _ _ ⟨F3 ++ (F2 ++ F1), [], Cs3, by simpa only [List.append_assoc, List.nil_append] using I3, rfl, by simpa only [List.append_assoc, hv, Option.getD_none] using e8⟩⟩
  | some a' =>
    obtain ⟨u, g1, g2⟩ := e4.val hv
    exact ⟨some u, .inl ⟨_, .inl k, .inl e3', rfl, g1.symm⟩, q _ _ ⟨F3 ++ (F2 ++ F1), [], Cs3, by simpa only [List.append_assoc, List.nil_append] using I3, rfl, by
      have := Enc.mo (a := a') (Enc.mo g2 I2.up) I3.up
      simpa only [List.append_assoc, hv, Option.getD_some] using this⟩⟩
/-- a, b, c = x, y, z where a block reads one: by a tuple -/
theorem wp_tupO3 {tb : TE} (h : Ev ta Γ Γ1 A) (h' : Ev tb Γ1 Γ2 B) (h'' : Ev tx Γ2 Γ3 D) (n : R.nx (((Γ3.set i (some A)).set j (some B)).set l (some D))) : Wp (tAsg (tTup (tCons ta (tCons tb (tCons tx tNil)))) (gTup K 3 (gCons (gName i) (gCons (gName j) (gCons (gName l) gNil))))) Γ R := fun Hs G σ H F X Cs De I nx rt bk ct => h Hs G σ H F X Cs I _ fun v H1 ⟨F1, C1, Cs1, I1, p1⟩ =>
  h' Hs G σ H1 _ _ Cs1 I1 _ fun w H2 ⟨F2, C2, Cs2, I2, p2⟩ => h'' Hs G σ H2 _ _ Cs2 I2 _ fun u H3 ⟨F3, C3, Cs3, I3, p3⟩ => by
    have J1 : Iv Hs G Γ3 σ H3 (F3 ++ (F2 ++ (F1 ++ F))) (C1 ++ (C2 ++ (C3 ++ X))) Cs3 := ⟨I3.ls, I3.lo.pk [F3, F2, F1, F, C3, C2, C1, X, Cs3.flatten] [0, 1, 2, 3, 4, 5, 6, 7, 8] [0, 1, 2, 3, 6, 5, 4, 7, 8], I3.ok, fun c hc => I3.nx c (by
      simp only [List.mem_append] at hc ⊢
      rcases hc with h | h | h | h
      · exact .inr (.inr (.inl h))
      · exact .inr (.inl h)
      · exact .inl h
      · exact .inr (.inr (.inr h)))⟩
    have J2 := J1.set (As.mo _ (As.mo _ p1 I2.up) I3.up) i
    have J3 := J2.set (As.mo _ p2 I3.up) j
    have J4 := J3.set p3 l
    have J5 : Iv Hs G (((Γ3.set i (some A)).set j (some B)).set l (some D)) (((σ.set i (some v)).set j (some w)).set l (some u)) H3 ((F3 ++ (F2 ++ F1)) ++ F) X (((Cs3.set i C1).set j C2).set l C3) := by simpa only [List.append_assoc] using J4
    exact ⟨by show 3 ≤ sizeLine; decide, fun p hp => ⟨p, _, rfl, SqT.of upd_same, rfl, v, _, rfl, w, _, rfl, u, _, rfl, rfl, nx _ _ _ _ _ n (J5.sm (Same.new hp _))⟩⟩
end
end Cc

namespace Cc
open PySem L2
/-! own dicts handed to a def -/
/-- own dicts, told so or so -/
structure DctLike {α : Type} [Enc α] (T : List (Int × α) → As) : Prop where
  dct : ∀ {Γ : Env} {i : Nat} {N : List (Int × α)} {Hs G : Hp} {σ : L2.St} {H : Hp} {F X : List Cell} {Cs : List (List Cell)}, Iv Hs G Γ σ H F X Cs → Γ[i]? = some (some (T N)) → ∃ d kvs, σ[i]? = some (some (.ref d)) ∧ H d = some (.dK kvs) ∧ Al (kvR (plus Hs F)) N kvs ∧
    ∀ {N' : List (Int × α)} {kvs' : List (Key × V)}, Al (kvR (plus Hs F)) N' kvs' → ∃ Cs', Iv Hs G (Γ.set i (some (T N'))) σ (upd H d (.dK kvs')) F X Cs'
  cv : ∀ {N : List (Int × α)}, Cv (T N) (Fz (Dc.mk N))
theorem dl_owd {α : Type} [Enc α] : DctLike (OwD : List (Int × α) → As) := ⟨fun I e => I.dct e, cv_owd⟩
/-- an own dict there -/
def OwDa {α : Type} [Enc α] (d : Addr) (N : List (Int × α)) : As where
  p := fun H v Cc => ∃ kvs, v = .ref d ∧ Cc = [(d, HO.dK kvs)] ∧ Al (kvR H) N kvs
  mo := fun ⟨kvs, e, c, al⟩ s => ⟨kvs, e, c, al.mp fun _ _ r => ⟨r.1, Enc.mo r.2 s⟩⟩
  nt := fun ⟨kvs, e, c, al⟩ z hz => by rw [c] at hz; rw [List.mem_singleton.mp hz]; exact fun xs y => by cases y
theorem dl_owda {α : Type} [Enc α] {d : Addr} : DctLike (OwDa d : List (Int × α) → As) := ⟨fun {Γ i N Hs G σ H F X Cs} I e => by
  obtain ⟨v, C, h1, ⟨kvs, e1, e2, r⟩, I2⟩ := I.out e
  subst e1 e2
  refine ⟨d, kvs, h1, I2.gX (c := (d, .dK kvs)) List.mem_cons_self, r, fun {N' kvs'} r' => ?_⟩
  have L : Lo G (upd H d (.dK kvs')) (F ++ (d, .dK kvs') :: (X ++ (Cs.set i []).flatten)) := Lo.wr (A := F) (by have := I2.lo; simpa using this) (.dK kvs')
  have I3 : Iv Hs G (Γ.set i none) σ (upd H d (.dK kvs')) F ([(d, .dK kvs')] ++ X) (Cs.set i []) := ⟨I2.ls, by simpa using L, I2.ok, fun c hc => by
    rcases List.mem_append.mp hc with hc | hc
    · rw [List.mem_singleton.mp hc]; exact fun xs z => by cases z
    · exact I2.nx c (List.mem_append_right _ hc)⟩
  have I4 := I3.put (A := OwDa d N') h1 ⟨kvs', rfl, rfl, r'⟩
  rw [List.set_set] at I4
  exact ⟨_, I4⟩, fun _ _ _ _ ⟨kvs, e, c, g⟩ s hc => by
  subst c
  exact ⟨rfl, d, kvs, e, hc _ List.mem_cons_self, g.mp fun _ _ r => ⟨r.1, Enc.mo r.2 s⟩⟩⟩
section
variable {te ta tb tc tv ty : TE} {tt : TT} {Γ Γ1 Γ2 Γb Γ' : Env} {A B : As} {Bs : List As} {K : PySem.W.Frag} {R : Post} {i j l : Nat}
theorem ev_dgT {α : Type} {_ : Enc α} {T : List (Int × α) → As} (hT : DctLike T) {N : List (Int × α)} {k : Int} {a : α} (e : Γ[i]? = some (some (T N))) (h : Ev ty Γ Γ1 (Fz k)) (e1 : Γ1[i]? = some (some (T N))) (hv : gVal N k = some a) : Ev (tDGet (tVar i) ty) Γ Γ1 (Fz a) := fun Hs G σ H F X Cs I Q q => by
  obtain ⟨d, kvs, h1, h2, h3, _⟩ := hT.dct I e
  refine ⟨_, h1, h Hs G σ H F X Cs I _ fun w H' ⟨F2, C, Cs', I', e', p⟩ => ?_⟩
  subst e'
  obtain ⟨d', kvs', h1', h2', h3', _⟩ := hT.dct I' e1
  rw [h1] at h1'
  cases h1'
  obtain ⟨v, g1, g2⟩ := h3'.val hv
  have p : w = .int k := p
  subst p
  exact ⟨d, v, rfl, .inl ⟨_, .inl k, .inl h2', rfl, g1.symm⟩, q _ _ ⟨F2, [], Cs', I', rfl, g2⟩⟩
theorem wp_dputT {α : Type} {_ : Enc α} {T : List (Int × α) → As} (hT : DctLike T) {N : List (Int × α)} {k : Int} {a : α} (hv : Ev tv Γ Γ1 (Fz a)) (e : Γ1[i]? = some (some (T N))) (h : Ev ty Γ1 Γ2 (Fz k)) (e1 : Γ2[i]? = some (some (T N))) (hn : N.length < 99999) (n : R.nx (Γ2.set i (some (T (gPut N k a))))) : Wp (sDPut (tVar i) ty tv) Γ R := fun Hs G σ H F X Cs D I nx rt bk ct => hv Hs G σ H F X Cs I _ fun v H1 ⟨F1, C1, Cs1, I1, e', p1⟩ => by
  subst e'
  obtain ⟨d, kvs, h1, h2, h3, _⟩ := hT.dct I1 e
  refine ⟨_, h1, h Hs G σ H1 _ _ _ I1 _ fun w H2 ⟨F2, C2, Cs2, I2, e2, p2⟩ => ?_⟩
  subst e2
  obtain ⟨d', kvs', h1', h2', h3', kk⟩ := hT.dct I2 e1
  rw [h1] at h1'
  cases h1'
  have p2 : w = .int k := p2
  subst p2
  obtain ⟨Cs3, I3⟩ := kk (h3'.putK (k := k) (Enc.mo p1 I2.up))
  exact ⟨d, _, rfl, DPut.k (k := .inl k) h2' (szl (by rw [← h3'.len]; omega)), nx _ _ _ _ _ n I3.asc⟩
theorem wp_mergeT {α : Type} {_ : Enc α} {T : List (Int × α) → As} (hT : DctLike T) {N M : List (Int × α)} (e1 : Γ[i]? = some (some (OwD M))) (e2 : Γ[j]? = some (some (T N))) (hij : i ≠ j) (hil : i ≠ l) (hjl : j ≠ l) (hM : (M.map (·.1)).Nodup) (hn : N.length + M.length < 99999) (hl : l < Γ.length)
    (n : ∀ x, R.nx ((Γ.set j (some (T (mergeD N M)))).set l x)) : Wp (tLock (tFor (iKeys (tVar i)) (gName l) (sDPut (tVar j) (tVar l) (tDGet (tVar i) (tVar l))))) Γ R := fun Hs G σ H F X Cs D I nx rt bk' ct => by
  obtain ⟨v, C, h1, ⟨d, kvs, e3, e4, al⟩, I1⟩ := I.out e1
  subst e3 e4
  have hd : H d = some (.dK kvs) := I1.gX (c := (d, .dK kvs)) List.mem_cons_self
  refine ⟨d, .dK kvs, hd, trivial, fun od => ?_⟩
  have I2 : Iv Hs G (Γ.set i none) σ (upd H d (.frz od (.dK kvs))) F ((d, .frz od (.dK kvs)) :: X) (Cs.set i []) := Iv.wrX I1 (fun xs z => by cases z)
  refine ⟨_, h1, d, od, rfl, .inl ⟨kvs, upd_same, ?_⟩⟩
  have hsl := I.ok.len
  have hj1 : j < Γ.length := lt_of_get e2
  have hmlen := al.len
  refine ⟨fun k m σ' H' => m = kvs.length - k ∧ k ≤ kvs.length ∧ ∃ (x : Option As) (Cs' : List (List Cell)), Iv Hs G (((Γ.set i none).set j (some (T (mergeD N (M.take k))))).set l x) σ' H' F ((d, .frz od (.dK kvs)) :: X) Cs' ∧ σ'[i]? = some (some (.ref d)), ⟨kvs.length, by simp, Nat.zero_le _, Γ.getD l none, Cs.set i [], ?_, h1⟩, ?_⟩
  · have e0 : ((Γ.set i none).set j (some (T (mergeD N (M.take 0))))).set l (Γ.getD l none) = Γ.set i none := by
      refine List.ext_getElem? fun x => ?_
      by_cases hx : l = x
      · subst hx
        rw [List.getElem?_set_self (by simpa using hl), List.getElem?_set_ne hil]
        rw [List.getD_eq_getElem?_getD, List.getElem?_eq_getElem hl]; rfl
      · rw [List.getElem?_set_ne hx]
        by_cases hy : j = x
        · subst hy
          rw [List.getElem?_set_self (by simpa using hj1), List.getElem?_set_ne hij, e2]; rfl
        · rw [List.getElem?_set_ne hy]
    rw [e0]
    exact I2
  rintro k m σ' H' ⟨rfl, hk, x, Cs', I', hσ⟩
  have hd' : H' d = some (.frz od (.dK kvs)) := I'.gX (c := (d, .frz od (.dK kvs))) List.mem_cons_self
  by_cases hlt : k < kvs.length
  · refine .inr ⟨⟨hd', hlt⟩, fun σ' H' => ∃ (x : Option As) (Cs' : List (List Cell)), Iv Hs G (((Γ.set i none).set j (some (T (mergeD N (M.take (k + 1)))))).set l x) σ' H' F ((d, .frz od (.dK kvs)) :: X) Cs' ∧ σ'[i]? = some (some (.ref d)), fun σ2 H2 p2 => ⟨kvs.length - (k + 1), by omega, rfl, hlt, p2⟩, ?_⟩
    rintro y H2 ⟨rfl, key, v, hkv, rfl⟩
    obtain ⟨a, ha, r⟩ := al.get' hkv
    have rk : key = .inl a.1 := r.1
    subst rk
    -- the key's name
    have I3 := Iv.set (C := []) I' (fzp (a := a.1) rfl) l
    have hsl2 := I3.ok.len
    have eg : ((((Γ.set i none).set j (some (T (mergeD N (M.take k))))).set l x).set l (some (Fz a.1)))[j]? = some (some (T (mergeD N (M.take k)))) := by
      rw [List.set_set, List.getElem?_set_ne hjl.symm, List.getElem?_set_self (by simpa using hj1)]
    have hσl : (σ'.set l (some (V.int a.1)))[l]? = some (some (.int a.1)) := by
      have := I'.ok.len
      exact slot_set (by rw [this]; simpa using hl) _
    have hσi : (σ'.set l (some (V.int a.1)))[i]? = some (some (.ref d)) := by rw [List.getElem?_set_ne hil.symm]; exact hσ
    obtain ⟨dj, kvj, g1, g2, g3, g4⟩ := hT.dct I3 eg
    have hval : valV kvs (.inl a.1) = some v := by
      obtain ⟨u, q1, q2⟩ := al.val (k := a.1) (a := a.2) (wp_merge.gVal_nd hM (List.mem_of_getElem? ha))
      have := wp_merge.valV_nd al hM hkv
      exact this
    obtain ⟨Cs4, I4⟩ := g4 (g3.putK (k := a.1) (As.mo (Fz a.2) (fzp r.2) (Same.refl _)).2)
    refine ⟨_, hσi, _, hσl, d, v, rfl, .inl ⟨kvs, .inl a.1, .inr ⟨od, hd'⟩, rfl, hval.symm⟩, ?_⟩
    have ml := mergeD_len (M.take k) N
    rw [List.length_take] at ml
    refine ⟨_, g1, _, hσl, dj, _, rfl, DPut.k (k := .inl a.1) g2 (szl (by rw [← g3.len]; omega)), some (Fz a.1), Cs4, ?_, hσi⟩
    have em : mergeD N (M.take (k + 1)) = gPut (mergeD N (M.take k)) a.1 a.2 := by
      unfold mergeD
      rw [List.take_add_one, ha, List.foldl_append]
      rfl
    rw [em]
    have e5 : ((((Γ.set i none).set j (some (T (mergeD N (M.take k))))).set l x).set l (some (Fz a.1))).set j (some (T (gPut (mergeD N (M.take k)) a.1 a.2))) = ((Γ.set i none).set j (some (T (gPut (mergeD N (M.take k)) a.1 a.2)))).set l (some (Fz a.1)) := by
      rw [List.set_set, List.set_comm _ _ hjl.symm, List.set_set]
    rw [← e5]
    exact I4
  · have e : k = kvs.length := by omega
    subst e
    refine .inl ⟨⟨hd', Nat.le_refl _⟩, hd', ?_⟩
    have I5 : Iv Hs G (((Γ.set i none).set j (some (T (mergeD N (M.take kvs.length))))).set l x) σ' (upd H' d (.dK kvs)) F ([(d, .dK kvs)] ++ X) Cs' := Iv.wrX I' (fun xs z => by cases z)
    have I6 := I5.put (A := OwD M) hσ ⟨d, kvs, rfl, rfl, al⟩
    rw [← hmlen, List.take_length] at I6
    have e5 : ((((Γ.set i none).set j (some (T (mergeD N M)))).set l x).set i (some (OwD M))) = (Γ.set j (some (T (mergeD N M)))).set l x := by
      refine List.ext_getElem? fun y => ?_
      by_cases hy : i = y
      · subst hy
        rw [List.getElem?_set_self (by simpa using lt_of_get e1), List.getElem?_set_ne hil.symm, List.getElem?_set_ne hij.symm, e1]
      · rw [List.getElem?_set_ne hy]
        by_cases hz : l = y
        · subst hz
          rw [List.getElem?_set_self (by simpa using hl), List.getElem?_set_self (by simpa using hl)]
        · rw [List.getElem?_set_ne hz, List.getElem?_set_ne hz]
          by_cases hw : j = y
          · subst hw
            rw [List.getElem?_set_self (by simpa using hj1), List.getElem?_set_self hj1]
          · rw [List.getElem?_set_ne hw, List.getElem?_set_ne hw, List.getElem?_set_ne hy]
    rw [e5] at I6
    exact nx _ _ _ [] _ (n x) I6

end
/-! a def that changes an own dict of its caller: its second argument -/
def spW {ι α : Type} [Enc α] (ok : ι → Prop) (A0 : ι → As) (N N' : ι → List (Int × α)) (A2 : ι → As) (A : ι → As) : Sp := fun vs H Q _ => ∃ (i : ι) (Hs G : Hp) (v0 v2 : V) (d : Addr) (kvs : List (Key × V)), ok i ∧ vs = [v0, .ref d, v2] ∧ Same Hs G ∧ Lo G H [(d, .dK kvs)] ∧ (A0 i).p Hs v0 [] ∧ (A2 i).p Hs v2 [] ∧ Al (kvR Hs) (N i) kvs ∧
  ∀ v H' F C kvs', Lo G H' (F ++ (C ++ [(d, .dK kvs')])) → Al (kvR (plus Hs F)) (N' i) kvs' → (A i).p (plus Hs F) v C → Q v H'
theorem spW_len {ι α : Type} [Enc α] {ok : ι → Prop} {A0 : ι → As} {N N' : ι → List (Int × α)} {A2 A : ι → As} {vs : List V} {H : Hp} {Q : VK} {E : XK} (h : spW ok A0 N N' A2 A vs H Q E) : vs.length = 3 := by
  obtain ⟨i, Hs, G, v0, v2, d, kvs, _, rfl, _⟩ := h
  rfl
/-- what is told, and the dict -/
def WithD {α : Type} [Enc α] (A : As) (d : Addr) (N : List (Int × α)) : As where
  p := fun H v Cc => ∃ C0 kvs, Cc = C0 ++ [(d, HO.dK kvs)] ∧ A.p H v C0 ∧ Al (kvR H) N kvs
  mo := fun ⟨C0, kvs, c, r, al⟩ s => ⟨C0, kvs, c, A.mo r s, al.mp fun _ _ r => ⟨r.1, Enc.mo r.2 s⟩⟩
  nt := fun ⟨C0, kvs, c, r, al⟩ z hz => by
    rw [c] at hz
    rcases List.mem_append.mp hz with h | h
    · exact A.nt r z h
    · rw [List.mem_singleton.mp h]; exact fun xs y => by cases y
section
variable {te : TE} {Γ Γ1 : Env} {A : As} {R : Post} {i j l : Nat}
theorem wp_retD {α : Type} {_ : Enc α} {d : Addr} {N : List (Int × α)} (h : Ev te Γ Γ1 A) (e : Γ1[i]? = some (some (OwDa d N))) (r : R.rt (WithD A d N)) : Wp (tRet te) Γ R := fun Hs G σ H F X Cs D I nx rt bk ct => h Hs G σ H F X Cs I _ fun v H' ⟨F2, C, Cs', I', p⟩ => by
  obtain ⟨w, C1, h1, ⟨kvs, e1, e2, al⟩, I2⟩ := I'.out e
  subst e2
  refine rt _ v H' F2 (C ++ [(d, .dK kvs)]) r ?_ ⟨C, kvs, rfl, p, al⟩
  exact I2.lo.pk [F2, F, [(d, .dK kvs)], C, X, (Cs'.set i []).flatten] [0, 1, 2, 3, 4, 5] [0, 1, 3, 2, 4] [5]
theorem v_ofW {ι α : Type} [Enc α] {ok : ι → Prop} {A0 : ι → As} {N N' : ι → List (Int × α)} {A2 A : ι → As} {t : TS} {n : Nat} (h : ∀ i, ok i → ∀ d, Wp t (EnvN [A0 i, OwDa d (N i), A2 i] n) (Rt (WithD (A i) d (N' i)))) {vs : List V} {H : Hp} {Q : VK} {E : XK} (hs : spW ok A0 N N' A2 A vs H Q E) : t (fin Q) (st0 n vs) H := by
  obtain ⟨i, Hs, G, v0, v2, d, kvs, hok, rfl, s, L, r0, r2, al, k⟩ := hs
  have a3 : Al3 Hs [A0 i, OwDa d (N i), A2 i] [v0, .ref d, v2] [[], [(d, .dK kvs)], []] := .cons r0 (.cons ⟨kvs, rfl, rfl, al⟩ (.cons r2 .nil))
  refine h i hok d Hs G _ H [] [] _ (fin Q) ⟨s, ?_, EnvOk.start a3 (n - 3), fun c hc => nomatch hc⟩ (fun Γ' σ' H' F2 Cs' z => z.elim) (fun A' v H' F2 C e L p => ?_) (fun Γ' σ' H' F2 Cs' z => z.elim) (fun Γ' σ' H' F2 Cs' z => z.elim)
  · rw [List.flatten_append, rep_flat]
    exact L
  · have e : A' = WithD (A i) d (N' i) := e
    subst e
    rw [List.append_nil, List.append_nil] at L
    rw [List.append_nil] at p
    obtain ⟨C0, kvs', rfl, r, al'⟩ := p
    exact k v H' F2 C0 kvs' L al' r
theorem ev_callW {ι α : Type} [Enc α] {ok : ι → Prop} {A0 : ι → As} {N N' : ι → List (Int × α)} {A2 A : ι → As} {x : ι} {E : XK} (e0 : Γ[i]? = some (some (A0 x))) (f0 : Fr (A0 x)) (e1 : Γ[j]? = some (some (OwD (N x)))) (e2 : Γ[l]? = some (some (A2 x))) (f2 : Fr (A2 x)) (hok : ok x) : Ev (tCall (spW ok A0 N N' A2 A) [] E (tCons (tVar i) (tCons (tVar j) (tCons (tVar l) tNil)))) Γ (Γ.set j (some (OwD (N' x)))) (A x) := fun Hs G σ H F X Cs I Q q => by
  obtain ⟨v0, C0, _, _, g0, _, _, r0⟩ := I.ok.get e0
  obtain ⟨v2, C2, _, _, g2, _, _, r2⟩ := I.ok.get e2
  have z0 := f0 _ _ _ r0
  have z2 := f2 _ _ _ r2
  subst z0 z2
  obtain ⟨v1, C1, g1, ⟨d, kvs, e3, e4, al⟩, I1⟩ := I.out e1
  subst e3 e4
  have L : Lo G H ([(d, .dK kvs)] ++ (F ++ (X ++ (Cs.set j []).flatten))) := I1.lo.pk [F, [(d, .dK kvs)], X, (Cs.set j []).flatten] [0, 1, 2, 3] [1, 0, 2, 3]
  obtain ⟨H1, LS, sG, hR, back⟩ := L.split
  have sB : Same (plus Hs F) H1 := plus_le (I.ls.trans sG) fun a o h => hR (List.mem_append_left _ h)
  refine ⟨v0, g0, _, g1, v2, g2, x, plus Hs F, H1, v0, v2, d, kvs, hok, rfl, sB, LS, r0, r2, al, fun v H3 F3 C3 kvs' L3 al3 rA => ?_⟩
  have L4 := back L3
  rw [plus_plus] at al3 rA
  have L5 : Lo G H3 ((F3 ++ F) ++ (([(d, .dK kvs')] ++ (C3 ++ X)) ++ (Cs.set j []).flatten)) := L4.pk [F3, C3, [(d, .dK kvs')], F, X, (Cs.set j []).flatten] [0, 1, 2, 3, 4, 5] [0, 3, 2, 1, 4, 5]
  have up : Same (plus Hs F) (plus Hs (F3 ++ F)) := (L5.sub (List.sublist_append_left _ _)).pUp I.ls fun c hc => List.mem_append_right _ hc
  have I5 : Iv Hs G (Γ.set j none) σ H3 (F3 ++ F) ([(d, .dK kvs')] ++ (C3 ++ X)) (Cs.set j []) := ⟨I.ls, L5, I1.ok.mo up, fun c hc => by
    rcases List.mem_append.mp hc with hc | hc
    · rw [List.mem_singleton.mp hc]; exact fun xs y => by cases y
    · rcases List.mem_append.mp hc with hc | hc
      · exact As.nt _ rA c hc
      · exact I.nx c hc⟩
  have I6 := I5.put (A := OwD (N' x)) g1 ⟨d, kvs', rfl, rfl, al3⟩
  rw [List.set_set] at I6
  exact q _ _ ⟨F3, C3, _, I6, rA⟩
end
end Cc

namespace Cc
open PySem L2
local macro_rules | `(tactic| decreasing_trivial) => `(tactic| first | (with_reducible exact ev_int) | (with_reducible exact ev_bl) | ((with_reducible apply ev_var) <;> rfl) | (with_reducible exact ea_nil) | (with_reducible exact Es.nil) | (with_reducible exact Kp.nil) | (with_reducible apply ev_non) | ((with_reducible apply ev_add) <;> decreasing_trivial) | ((with_reducible apply ev_sub) <;> decreasing_trivial) | ((with_reducible apply ev_mod) <;> decreasing_trivial) | ((with_reducible apply ev_div) <;> decreasing_trivial) | ((with_reducible apply ev_mul) <;> decreasing_trivial) | ((with_reducible apply ev_pow) <;> decreasing_trivial) | ((with_reducible apply ev_lt) <;> decreasing_trivial) | ((with_reducible apply ev_le) <;> decreasing_trivial) | ((with_reducible apply ev_gt) <;> decreasing_trivial) | ((with_reducible apply ev_ge) <;> decreasing_trivial) | ((with_reducible apply ev_eqS) <;> decreasing_trivial) | ((with_reducible apply ev_neS) <;> decreasing_trivial) | ((with_reducible apply ev_isB) <;> decreasing_trivial) | ((with_reducible apply ev_notB) <;> decreasing_trivial) | ((with_reducible apply ev_neg) <;> decreasing_trivial) | ((with_reducible apply ev_not) <;> decreasing_trivial) | ((with_reducible apply ev_len) <;> decreasing_trivial) | ((with_reducible apply ev_sum) <;> decreasing_trivial) | ((with_reducible apply ev_ixD) <;> decreasing_trivial) | ((with_reducible apply ev_ixT0) <;> decreasing_trivial) | ((with_reducible apply ev_ixT1) <;> decreasing_trivial) | ((with_reducible apply ev_ixT2) <;> decreasing_trivial) | ((with_reducible apply ev_ixP0) <;> decreasing_trivial) | ((with_reducible apply ev_ixP1) <;> decreasing_trivial) | ((with_reducible apply ev_ixDT) <;> decreasing_trivial) | ((with_reducible apply ev_fr; with_reducible apply ev_cat) <;> decreasing_trivial) | ((with_reducible apply ev_fr; with_reducible apply ev_list) <;> decreasing_trivial) | ((with_reducible apply ev_fr; with_reducible apply ev_sorted) <;> decreasing_trivial) | ((with_reducible apply ev_fr; with_reducible apply ev_slH) <;> decreasing_trivial) | ((with_reducible apply ev_fr; with_reducible apply ev_slL) <;> decreasing_trivial) | ((with_reducible apply ev_fr; with_reducible apply ev_rev) <;> decreasing_trivial) | (with_reducible apply ev_fr; with_reducible exact ev_nil) | ((with_reducible apply ev_fr; with_reducible apply ev_ls) <;> decreasing_trivial) | ((with_reducible apply Es.cons) <;> decreasing_trivial) | ((with_reducible apply ev_in) <;> decreasing_trivial) | ((with_reducible apply ev_notin) <;> decreasing_trivial) | ((with_reducible apply ev_max2) <;> decreasing_trivial) | ((with_reducible apply ev_min2) <;> decreasing_trivial) | ((with_reducible apply ev_eqD) <;> decreasing_trivial) | ((with_reducible apply ev_neD) <;> decreasing_trivial) | ((with_reducible apply ev_all) <;> decreasing_trivial) | ((with_reducible apply ev_any) <;> decreasing_trivial) | ((with_reducible apply ev_fr; with_reducible apply ev_rg1) <;> decreasing_trivial) | ((with_reducible apply ev_fr; with_reducible apply ev_rg2) <;> decreasing_trivial) | ((with_reducible apply ev_p2) <;> decreasing_trivial) | ((with_reducible apply ev_t3) <;> decreasing_trivial) | ((with_reducible apply ev_tp) <;> decreasing_trivial) | ((with_reducible apply et_tt) <;> decreasing_trivial) | ((with_reducible apply et_b) <;> decreasing_trivial) | ((with_reducible apply et_not) <;> decreasing_trivial) | ((with_reducible apply et_or) <;> decreasing_trivial) | ((with_reducible apply et_and) <;> decreasing_trivial) | ((with_reducible apply ev_andV) <;> decreasing_trivial) | ((with_reducible apply ev_orV) <;> decreasing_trivial) | ((with_reducible apply ev_chLL) <;> decreasing_trivial) | ((with_reducible apply ev_chll) <;> decreasing_trivial) | ((with_reducible apply is_list) <;> decreasing_trivial) | ((with_reducible apply is_tup) <;> decreasing_trivial) | ((with_reducible apply is_rng1) <;> decreasing_trivial) | ((with_reducible apply is_rng2) <;> decreasing_trivial) | ((with_reducible apply is_enum) <;> decreasing_trivial) | ((with_reducible apply is_zip) <;> decreasing_trivial) | ((with_reducible apply ea_1) <;> decreasing_trivial) | ((with_reducible apply ea_2) <;> decreasing_trivial) | ((with_reducible apply ea_3) <;> decreasing_trivial) | ((with_reducible apply ev_dg) <;> decreasing_trivial) | ((with_reducible apply ev_dg1) <;> decreasing_trivial) | ((with_reducible apply ev_fr; with_reducible apply ev_listD) <;> decreasing_trivial) | ((with_reducible apply ev_isi) <;> decreasing_trivial) | ((with_reducible apply ev_whole) <;> decreasing_trivial) | ((with_reducible apply ev_betw) <;> decreasing_trivial) | ((with_reducible apply ev_num) <;> decreasing_trivial) | ((with_reducible apply Kp.so fr_fz) <;> decreasing_trivial) | ((with_reducible apply Kp.no) <;> decreasing_trivial) | (intro (_ : (_ : Bool) = _); decreasing_trivial) | (infer_instance) | (rfl) | (omega) | (decide) | (simp; done) | (skip))
/-! _law_turn: a round of phones -/
def lstepS (os : List (List Int)) (absent : List Int) (st : List Tri × Nw × Nw) (c : Int) : List Tri × Nw × Nw := if c ∈ absent then st else lstep os absent st c
def lturnS (os : List (List Int)) (absent : List Int) (N : Nw) (k : Nat) : List Tri × Nw × Nw := ((sortI (N.map (·.1))).take k).foldl (lstepS os absent) ([], N, [])
section
variable {os : List (List Int)} {absent : List Int}
theorem lfoldS : ∀ (cs : List Int) (st : List Tri × Nw × Nw), cs.foldl (lstepS os absent) st = (cs.filter fun c => decide (c ∉ absent)).foldl (lstep os absent) st
  | [], st => rfl
  | c :: cs, st => by
    rw [List.foldl_cons, lfoldS cs]
    unfold lstepS
    by_cases h : c ∈ absent
    · rw [if_pos h, List.filter_cons, if_neg (by simp [h])]
    · rw [if_neg h, List.filter_cons, if_pos (by simp [h]), List.foldl_cons]
theorem lturnS_succ {N : Nw} {k : Nat} {c : Int} (h : (sortI (N.map (·.1)))[k]? = some c) : lturnS os absent N (k + 1) = lstepS os absent (lturnS os absent N k) c := by
  unfold lturnS
  rw [List.take_add_one, h, List.foldl_append]
  rfl
theorem lturnS_ok (O : OrdG os) {N : Nw} {K : List Int} (W : WInv os N K) (k : Nat) : (lturnS os absent N k).2.1.map (·.1) = N.map (·.1) ∧ ∃ K', WInv os ((lturnS os absent N k).2.1 ++ (lturnS os absent N k).2.2) K' := by
  have hnd : (sortI (N.map (·.1))).Nodup := (sortI_perm _).nodup_iff.mpr W.keys
  unfold lturnS
  rw [lfoldS]
  have := lgo (absent := absent) O (((sortI (N.map (·.1))).take k).filter fun c => decide (c ∉ absent)) N [] [] K (by rw [List.append_nil]; exact W) ((List.filter_sublist.trans (List.take_sublist _ _)).nodup hnd) fun c hc => (sortI_perm _).mem_iff.mp (List.mem_of_mem_take ((List.mem_filter.mp hc).1))
  exact ⟨this.2.2.1, this.2.2.2⟩
theorem lturnS_all (O : OrdG os) {N : Nw} {K : List Int} (W : WInv os N K) : (lturnS os absent N N.length).1 = (passM os absent absent N).1 ∧ mergeD (lturnS os absent N N.length).2.1 (lturnS os absent N N.length).2.2 = (passM os absent absent N).2 := by
  have hnd : (sortI (N.map (·.1))).Nodup := (sortI_perm _).nodup_iff.mpr W.keys
  have hl : (sortI (N.map (·.1))).take N.length = sortI (N.map (·.1)) := List.take_of_length_le (by rw [sortI_len, List.length_map]; exact Nat.le_refl _)
  have := lgo (absent := absent) O ((sortI (N.map (·.1))).filter fun c => decide (c ∉ absent)) N [] [] K (by rw [List.append_nil]; exact W) (List.filter_sublist.nodup hnd) fun c hc => (sortI_perm _).mem_iff.mp ((List.mem_filter.mp hc).1)
  unfold lturnS
  rw [hl, lfoldS]
  rw [List.append_nil] at this
  obtain ⟨h1, h2, h3, K', W'⟩ := this
  have ef : (((sortI (N.map (·.1))).filter fun c => decide (c ∉ absent)).filter fun c => decide (rowAt N c ≠ [])) = (callersM N).filter fun c => decide (c ∉ absent) := by
    unfold callersM
    rw [List.filter_filter, List.filter_filter]
    refine List.filter_congr fun x _ => Bool.and_comm _ _
  rw [ef] at h1 h2
  unfold passM
  refine ⟨h1, ?_⟩
  rw [mergeD_out W'.keys]
  exact h2
theorem lturnS_len {N : Nw} : ∀ k, (lturnS os absent N k).1.length ≤ k ∧ (lturnS os absent N k).2.2.length ≤ k
  | 0 => by simp [lturnS]
  | k + 1 => by
    have ih := lturnS_len (N := N) k
    cases h : (sortI (N.map (·.1)))[k]? with
    | none =>
      unfold lturnS at ih ⊢
      rw [List.take_add_one, h]
      simp only [Option.toList, List.append_nil]
      omega
    | some c =>
      rw [lturnS_succ h]
      unfold lstepS
      split
      · omega
      · have := lstep_len (os := os) (absent := absent) (lturnS os absent N k) c
        omega
/-- a round keeps the walk's state -/
theorem pass_ok (O : OrdG os) (hl : os.length ≤ 1000) {N : Nw} {K : List Int} (W : WInv os N K) (silent : List Int) : TurnOk os absent ((callersM N).filter fun c => decide (c ∉ silent)) N K :=
  turn_ok O (by omega) _ N K W (List.filter_sublist.nodup ((callersM_lt W.keys).imp fun h => by omega)) fun c hc => caller_row ((List.mem_filter.mp hc).1)
end
/-- orders, the dict, absent ones -/
abbrev PhI := List (List Int) × Nw × List Int
def PhOk (i : PhI) : Prop := OrdG i.1 ∧ i.1.length ≤ 1000 ∧ ∃ K, WInv i.1 i.2.1 K
def sp__law_turn : Sp := spW (fun i : PhI => PhOk i) (fun i => Fz i.1) (fun i => i.2.1) (fun i => (passM i.1 i.2.2 i.2.2 i.2.1).2) (fun i => Fz i.2.2) (fun i => Ow (passM i.1 i.2.2 i.2.2 i.2.1).1)
def t__law_turn (K : PySem.W.Frag) : TS :=
(tSeq (tPar 3 4 (tCons (tLst tNil) (tCons tDNewK tNil)))
    (tSeq (tFor (iList K (tCB (rSortedI K) (tCons (tCB qListD (tCons (tVar 1) tNil)) tNil))) (gName 5)
    (tIfS (tAnd (tTest (tOp (rIn K true) (tVar 5) (tVar 2))) (tTest (tOp (rNeD K) (tDGet (tVar 1) (tVar 5)) (tLst tNil))))
      (tSeq (tAsg (tOp (rIxL K) (tDGet (tVar 1) (tVar 5)) (tC (.int 0))) (gName 6))
        (tSeq (tDrop (tBM K "list" rAppend (tVar 3) (tCons (tTup (tCons (tVar 5) (tCons (tVar 6) (tCons (tOp (rIn K true) (tVar 6) (tVar 2)) tNil)))) tNil)))
        (tIfS (tTest (tOp (rIn K false) (tVar 6) (tVar 2)))
        (sDPut (tVar 1) (tVar 5) (tOp rCat (tCB (qList K) (tCons (tOp (rIxL K) (tVar 0) (tVar 6)) tNil)) (L2.tSl (rSlL K) (tDGet (tVar 1) (tVar 5)) (tPart (tC (.int 1))) tNoPart)))
        (tSeq (sDPut (tVar 1) (tVar 5) (L2.tSl (rSlL K) (tDGet (tVar 1) (tVar 5)) (tPart (tC (.int 1))) tNoPart))
          (sDPut (tVar 4) (tVar 6) (tCB (qList K) (tCons (tOp (rIxL K) (tVar 0) (tVar 6)) tNil)))))))
      tNext))
    (tSeq (tLock (tFor (iKeys (tVar 4)) (gName 6)
    (sDPut (tVar 1) (tVar 6) (tDGet (tVar 4) (tVar 6)))))
    (tRet (tVar 3)))))
theorem v__law_turn {K : PySem.W.Frag} {vs : List V} {H : Hp} {Q : VK} {E : XK} (h : sp__law_turn vs H Q E) : t__law_turn K (fin Q) (st0 7 vs) H := by
  refine v_ofW (n := 7) (fun ⟨os, N, absent⟩ ⟨O, hl, KK, W⟩ d => ?_) h
  have O : OrdG os := O
  have hl : os.length ≤ 1000 := hl
  have W : WInv os N KK := W
  have hp := O.pos
  show Wp (t__law_turn K) [some (Fz os), some (OwDa d N), some (Fz absent), none, none, none, none] (Rt (WithD (Ow (passM os absent absent N).1) d (passM os absent absent N).2))
  have hkl := W.klen
  refine wq_parO (A := Ow ([] : List Tri)) (B := OwD ([] : Nw)) ev_nil ev_dnew ?_
  have brw : Brw [some (Fz os), some (OwDa d N), some (Fz absent), some (Ow ([] : List Tri)), some (OwD ([] : Nw)), none, none] [none, some (Fz (Dc.mk N)), none, none, none, none, none] := .no _ (.so dl_owda.cv (.no _ (.no _ (.no _ (.no _ (.no _ .nil))))))
  have hit : Is (iList K (tCB (rSortedI K) (tCons (tCB qListD (tCons (tVar 1) tNil)) tNil))) [some (Fz os), some (OwDa d N), some (Fz absent), some (Ow ([] : List Tri)), some (OwD ([] : Nw)), none, none] [some (Fz os), some (OwDa d N), some (Fz absent), some (Ow ([] : List Tri)), some (OwD ([] : Nw)), none, none] (sortI (N.map (·.1))) :=
    is_list (ev_fr (ev_brw brw tpo_ow (ev_sorted (ev_fr (ev_listD (ev_var rfl))))))
  have hsl : (sortI (N.map (·.1))).length = N.length := by rw [sortI_len, List.length_map]
  refine wp_seq (wp_for hit bd_n (fun k Γ => ∃ x5 x6, Γ = [some (Fz os), some (OwDa d (lturnS os absent N k).2.1), some (Fz absent), some (Ow (lturnS os absent N k).1), some (OwD (lturnS os absent N k).2.2), x5, x6]) (by exact ⟨_, _, rfl⟩) ?_ ?_)
  · rintro k c Γ hc ⟨x6, x7, rfl⟩
    obtain ⟨hkeys, K', W'⟩ := lturnS_ok (absent := absent) O W k
    have hlt := lturnS_len (os := os) (absent := absent) (N := N) k
    have hsu := lturnS_succ (os := os) (absent := absent) hc
    have hck : c ∈ (lturnS os absent N k).2.1.map (·.1) := by rw [hkeys]; exact (sortI_perm _).mem_iff.mp (List.mem_of_getElem? hc)
    have hkl2 := lt_of_get hc
    rw [hsl] at hkl2
    generalize lturnS os absent N k = st at hkeys W' hlt hsu hck
    obtain ⟨T, Nl, M⟩ := st
    have hck : c ∈ Nl.map (·.1) := hck
    have W' : WInv os (Nl ++ M) K' := W'
    have hlt : T.length ≤ k ∧ M.length ≤ k := hlt
    have hNl : Nl.length = N.length := by have := congrArg List.length hkeys; simpa using this
    obtain ⟨r, hr⟩ := gVal_some hck
    rw [hsu]
    refine wp_if (b := decide (c ∉ absent) && !decide (r = [])) (et_and (et_tt (ev_notin (ev_var rfl) (ev_var rfl))) fun _ => et_tt (ev_neM (ev_dgT dl_owda rfl (ev_var rfl) rfl hr) (ev_fr ev_nil))) (fun hb => ?_) (fun hb => ?_)
    · rw [Bool.and_eq_true] at hb
      have hca : c ∉ absent := of_decide_eq_true hb.1
      have hb := hb.2
      have esS : lstepS os absent (T, Nl, M) c = lstep os absent (T, Nl, M) c := by unfold lstepS; rw [if_neg hca]
      rw [esS]
      cases r with
      | nil => simp at hb
      | cons n rest =>
        have er := rowAt_gv hr
        have en : nextM Nl c = n := by unfold nextM; rw [er]; rfl
        have hg : gVal (Nl ++ M) c = some (n :: rest) := by rw [gVal_app hck]; exact hr
        obtain ⟨hn, hpn, hlen⟩ := W'.next O hg
        simp only [List.length_cons] at hlen
        obtain ⟨pn, hp1, hp2⟩ := people_mem.mp hpn
        have hrow : atI os n = some (rowO os n) := atI_getD os n [] (by omega)
        have hrl : (rowO os n).length ≤ 1000 := by
          have := nodup_le (O.row_nodup hpn) (m := people os.length) fun x hx => (O.row_mem hpn hx).1
          rw [people_len] at this
          omega
        refine wq_asg (a := n) (ev_ix (ev_dgT dl_owda rfl (ev_var rfl) rfl hr) ev_int (atI_nat (j := 0) rfl)) ?_
        refine wp_seq (wp_appF (xs := T) (a := (⟨c, n, decide (n ∉ absent)⟩ : Tri)) rfl (ev_t3 (ev_var rfl) (ev_var rfl) (ev_notin (ev_var rfl) (ev_var rfl))) rfl (by omega) ?_)
        have ecut : cutA (n :: rest) (some 1) none = rest := by
          have := cutA_from (n :: rest) 1
          simpa using this
        have els : lstep os absent (T, Nl, M) c = (T ++ [⟨c, n, decide (n ∉ absent)⟩], if n ∈ absent then gPut Nl c (rowO os n ++ rest) else gPut Nl c rest, if n ∈ absent then M else gPut M n (rowO os n)) := by
          unfold lstep
          rw [if_neg (show ¬ rowAt Nl c = [] from by rw [er]; exact fun z => by cases z)]
          simp only [en]
          rw [er]
          rfl
        rw [els]
        have q1 : Nl.length < 99999 := by omega
        have q2 : M.length < 99999 := by omega
        refine wp_if (b := decide (n ∈ absent)) (et_tt (ev_in (ev_var rfl) (ev_var rfl))) (fun hb2 => ?_) (fun hb2 => ?_)
        · have hb2 := of_decide_eq_true hb2
          refine wp_dputT dl_owda (a := rowO os n ++ rest) (ev_fr (ev_cat (ev_fr (ev_list (ev_ix (ev_var rfl) (ev_var rfl) hrow))) (ev_eq (ev_fr (ev_slL (ev_dgT dl_owda rfl (ev_var rfl) rfl hr) ev_int)) ecut) (by omega))) rfl (ev_var rfl) rfl q1 ⟨_, _, by rw [if_pos hb2, if_pos hb2]; rfl⟩
        · have hb2 := of_decide_eq_false hb2
          refine wp_seq (wp_dputT dl_owda (a := rest) (ev_eq (ev_fr (ev_slL (ev_dgT dl_owda rfl (ev_var rfl) rfl hr) ev_int)) ecut) rfl (ev_var rfl) rfl q1 ?_)
          refine wp_dput (a := rowO os n) (ev_fr (ev_list (ev_ix (ev_var rfl) (ev_var rfl) hrow))) rfl (ev_var rfl) rfl q2 ⟨_, _, by rw [if_neg hb2, if_neg hb2]; rfl⟩
    · have els : lstepS os absent (T, Nl, M) c = (T, Nl, M) := by
        unfold lstepS
        by_cases hca : c ∈ absent
        · rw [if_pos hca]
        · rw [if_neg hca]
          have hr0 : r = [] := by simpa [hca] using hb
          subst hr0
          unfold lstep
          rw [if_pos (rowAt_gv hr)]
      rw [els]
      exact wp_next ⟨_, _, rfl⟩
  rintro Γ ⟨y5, y6, rfl⟩
  rw [hsl]
  obtain ⟨a1, a2⟩ := lturnS_all (absent := absent) O W
  obtain ⟨hkeys, K', W'⟩ := lturnS_ok (absent := absent) O W N.length
  have hlt := lturnS_len (os := os) (absent := absent) (N := N) N.length
  have hNl : (lturnS os absent N N.length).2.1.length = N.length := by have := congrArg List.length hkeys; simpa using this
  rw [a1]
  have hnd : ((lturnS os absent N N.length).2.2.map (·.1)).Nodup := by
    have := W'.keys
    rw [List.map_append, List.nodup_append] at this
    exact this.2.1
  generalize (lturnS os absent N N.length).2.1 = Nl at a2 hNl
  generalize (lturnS os absent N N.length).2.2 = M at a2 hlt hnd
  refine wp_seq (wp_mergeT dl_owda (i := 4) (j := 1) (l := 6) (M := M) (N := Nl) rfl rfl (by decide) (by decide) (by decide) hnd (by omega) (by simp) fun x => ?_)
  rw [a2]
  exact wp_retD (i := 1) (ev_mv rfl) rfl rfl
theorem ev_lturn {Γ : Env} {i j l : Nat} {os : List (List Int)} {N : Nw} {absent : List Int} (e0 : Γ[i]? = some (some (Fz os))) (e1 : Γ[j]? = some (some (OwD N))) (e2 : Γ[l]? = some (some (Fz absent))) (O : OrdG os) (hl : os.length ≤ 1000) (W : ∃ K, WInv os N K) : Ev (tCall sp__law_turn [] E0 (tCons (tVar i) (tCons (tVar j) (tCons (tVar l) tNil)))) Γ (Γ.set j (some (OwD (passM os absent absent N).2))) (Ow (passM os absent absent N).1) :=
  ev_callW (x := ((os, N, absent) : PhI)) e0 fr_fz e1 e2 fr_fz ⟨O, hl, W⟩
end Cc

namespace Cc
open PySem L2
local macro_rules | `(tactic| decreasing_trivial) => `(tactic| first | (with_reducible exact ev_int) | (with_reducible exact ev_bl) | ((with_reducible apply ev_var) <;> rfl) | (with_reducible exact ea_nil) | (with_reducible exact Es.nil) | (with_reducible exact Kp.nil) | (with_reducible apply ev_non) | ((with_reducible apply ev_add) <;> decreasing_trivial) | ((with_reducible apply ev_sub) <;> decreasing_trivial) | ((with_reducible apply ev_mod) <;> decreasing_trivial) | ((with_reducible apply ev_div) <;> decreasing_trivial) | ((with_reducible apply ev_mul) <;> decreasing_trivial) | ((with_reducible apply ev_pow) <;> decreasing_trivial) | ((with_reducible apply ev_lt) <;> decreasing_trivial) | ((with_reducible apply ev_le) <;> decreasing_trivial) | ((with_reducible apply ev_gt) <;> decreasing_trivial) | ((with_reducible apply ev_ge) <;> decreasing_trivial) | ((with_reducible apply ev_eqS) <;> decreasing_trivial) | ((with_reducible apply ev_neS) <;> decreasing_trivial) | ((with_reducible apply ev_isB) <;> decreasing_trivial) | ((with_reducible apply ev_notB) <;> decreasing_trivial) | ((with_reducible apply ev_neg) <;> decreasing_trivial) | ((with_reducible apply ev_not) <;> decreasing_trivial) | ((with_reducible apply ev_len) <;> decreasing_trivial) | ((with_reducible apply ev_sum) <;> decreasing_trivial) | ((with_reducible apply ev_ixD) <;> decreasing_trivial) | ((with_reducible apply ev_ixT0) <;> decreasing_trivial) | ((with_reducible apply ev_ixT1) <;> decreasing_trivial) | ((with_reducible apply ev_ixT2) <;> decreasing_trivial) | ((with_reducible apply ev_ixP0) <;> decreasing_trivial) | ((with_reducible apply ev_ixP1) <;> decreasing_trivial) | ((with_reducible apply ev_ixDT) <;> decreasing_trivial) | ((with_reducible apply ev_fr; with_reducible apply ev_cat) <;> decreasing_trivial) | ((with_reducible apply ev_fr; with_reducible apply ev_list) <;> decreasing_trivial) | ((with_reducible apply ev_fr; with_reducible apply ev_sorted) <;> decreasing_trivial) | ((with_reducible apply ev_fr; with_reducible apply ev_slH) <;> decreasing_trivial) | ((with_reducible apply ev_fr; with_reducible apply ev_slL) <;> decreasing_trivial) | ((with_reducible apply ev_fr; with_reducible apply ev_rev) <;> decreasing_trivial) | (with_reducible apply ev_fr; with_reducible exact ev_nil) | ((with_reducible apply ev_fr; with_reducible apply ev_ls) <;> decreasing_trivial) | ((with_reducible apply Es.cons) <;> decreasing_trivial) | ((with_reducible apply ev_in) <;> decreasing_trivial) | ((with_reducible apply ev_notin) <;> decreasing_trivial) | ((with_reducible apply ev_max2) <;> decreasing_trivial) | ((with_reducible apply ev_min2) <;> decreasing_trivial) | ((with_reducible apply ev_eqD) <;> decreasing_trivial) | ((with_reducible apply ev_neD) <;> decreasing_trivial) | ((with_reducible apply ev_all) <;> decreasing_trivial) | ((with_reducible apply ev_any) <;> decreasing_trivial) | ((with_reducible apply ev_fr; with_reducible apply ev_rg1) <;> decreasing_trivial) | ((with_reducible apply ev_fr; with_reducible apply ev_rg2) <;> decreasing_trivial) | ((with_reducible apply ev_p2) <;> decreasing_trivial) | ((with_reducible apply ev_t3) <;> decreasing_trivial) | ((with_reducible apply ev_tp) <;> decreasing_trivial) | ((with_reducible apply et_tt) <;> decreasing_trivial) | ((with_reducible apply et_b) <;> decreasing_trivial) | ((with_reducible apply et_not) <;> decreasing_trivial) | ((with_reducible apply et_or) <;> decreasing_trivial) | ((with_reducible apply et_and) <;> decreasing_trivial) | ((with_reducible apply ev_andV) <;> decreasing_trivial) | ((with_reducible apply ev_orV) <;> decreasing_trivial) | ((with_reducible apply ev_chLL) <;> decreasing_trivial) | ((with_reducible apply ev_chll) <;> decreasing_trivial) | ((with_reducible apply is_list) <;> decreasing_trivial) | ((with_reducible apply is_tup) <;> decreasing_trivial) | ((with_reducible apply is_rng1) <;> decreasing_trivial) | ((with_reducible apply is_rng2) <;> decreasing_trivial) | ((with_reducible apply is_enum) <;> decreasing_trivial) | ((with_reducible apply is_zip) <;> decreasing_trivial) | ((with_reducible apply ea_1) <;> decreasing_trivial) | ((with_reducible apply ea_2) <;> decreasing_trivial) | ((with_reducible apply ea_3) <;> decreasing_trivial) | ((with_reducible apply ev_dg) <;> decreasing_trivial) | ((with_reducible apply ev_dg1) <;> decreasing_trivial) | ((with_reducible apply ev_fr; with_reducible apply ev_listD) <;> decreasing_trivial) | ((with_reducible apply ev_isi) <;> decreasing_trivial) | ((with_reducible apply ev_whole) <;> decreasing_trivial) | ((with_reducible apply ev_betw) <;> decreasing_trivial) | ((with_reducible apply ev_num) <;> decreasing_trivial) | ((with_reducible apply Kp.so fr_fz) <;> decreasing_trivial) | ((with_reducible apply Kp.no) <;> decreasing_trivial) | (intro (_ : (_ : Bool) = _); decreasing_trivial) | (infer_instance) | (rfl) | (omega) | (decide) | (simp; done) | (skip))
/-! the class Phones -/
structure KPhones (K : PySem.W.Frag) (C : Addr) : Prop where
  cl : Cls K C
  nN : NoAttr K C "news"
  nP : NoAttr K C "people"
  nT : NoAttr K C "turns"
theorem putF_twice (f : Str) (v w : V) : ∀ fs : List (Str × V), putF f v (putF f w fs) = putF f v fs
  | [] => by simp [putF]
  | (g, x) :: r => by
    by_cases h : g = f
    · rw [show putF f w ((g, x) :: r) = (g, w) :: r by rw [putF, if_pos h], show putF f v ((g, x) :: r) = (g, v) :: r by rw [putF, if_pos h], putF, if_pos h]
    · rw [show putF f w ((g, x) :: r) = (g, x) :: putF f w r by rw [putF, if_neg h], show putF f v ((g, x) :: r) = (g, x) :: putF f v r by rw [putF, if_neg h], putF, if_neg h, putF_twice f v w r]
def phF (xn : Addr) (n t : Int) : List (Str × V) := putF "turns" (.int t) (putF "people" (.int n) (putF "news" (.ref xn) []))
theorem phF_news (xn : Addr) (n t : Int) : (phF xn n t).lookup ("news" : Str) = some (.ref xn) := by
  unfold phF
  rw [lookup_putF, if_neg (by decide +kernel), lookup_putF, if_neg (by decide +kernel), lookup_putF, if_pos rfl]
theorem phF_people (xn : Addr) (n t : Int) : (phF xn n t).lookup ("people" : Str) = some (.int n) := by
  unfold phF
  rw [lookup_putF, if_neg (by decide +kernel), lookup_putF, if_pos rfl]
theorem phF_turns (xn : Addr) (n t : Int) : (phF xn n t).lookup ("turns" : Str) = some (.int t) := by
  unfold phF
  rw [lookup_putF, if_pos rfl]
theorem phF_no (xn : Addr) (n t : Int) {m : Str} (h1 : ¬ m = "turns") (h2 : ¬ m = "people") (h3 : ¬ m = "news") : (phF xn n t).lookup m = none := by
  unfold phF
  rw [lookup_putF, if_neg h1, lookup_putF, if_neg h2, lookup_putF, if_neg h3]
  rfl
theorem putF_len (f : Str) (v : V) : ∀ fs : List (Str × V), (putF f v fs).length ≤ fs.length + 1
  | [] => by simp [putF]
  | (g, x) :: r => by
    rw [putF]
    split
    · simp
    · have := putF_len f v r
      simp only [List.length_cons]
      omega
theorem phF_len (xn : Addr) (n t : Int) : (phF xn n t).length < 1000 := by
  unfold phF
  have h1 := putF_len "turns" (.int t) (putF "people" (.int n) (putF "news" (.ref xn) []))
  have h2 := putF_len "people" (.int n) (putF "news" (.ref xn) [])
  have h3 := putF_len "news" (.ref xn) []
  simp only [List.length_nil] at h3
  omega
/-- own: the object and the news' dict -/
def PhO (C CN : Addr) (os : List (List Int)) (N : Nw) (t : Int) : As where
  p := fun H v Cc => ∃ x dx xn dxn p d kvs, v = .ref x ∧ Cc = [(x, HO.ins C dx (phF xn os.length t)), (d, HO.dK kvs)] ∧ H xn = some (.ins CN dxn (newsF p d)) ∧ Enc.is os H (.ref p) ∧ Al (kvR H) N kvs
  mo := fun ⟨x, dx, xn, dxn, p, d, kvs, e, c, h1, h2, al⟩ s => ⟨x, dx, xn, dxn, p, d, kvs, e, c, s _ _ h1, Enc.mo h2 s, al.mp fun _ _ r => ⟨r.1, Enc.mo r.2 s⟩⟩
  nt := fun ⟨x, dx, xn, dxn, p, d, kvs, e, c, h1, h2, al⟩ z hz => by
    rw [c] at hz
    rcases List.mem_cons.mp hz with rfl | h
    · exact fun xs y => by cases y
    · rw [List.mem_singleton.mp h]; exact fun xs y => by cases y
/-- standing -/
def PhS (C CN : Addr) (os : List (List Int)) (N : Nw) (t : Int) : As where
  p := fun H v Cc => Cc = [] ∧ ∃ x dx xn dxn p d kvs, v = .ref x ∧ H x = some (.ins C dx (phF xn os.length t)) ∧ H d = some (.dK kvs) ∧ H xn = some (.ins CN dxn (newsF p d)) ∧ Enc.is os H (.ref p) ∧ Al (kvR H) N kvs
  mo := fun ⟨c, x, dx, xn, dxn, p, d, kvs, e, h0, h3, h1, h2, al⟩ s => ⟨c, x, dx, xn, dxn, p, d, kvs, e, s _ _ h0, s _ _ h3, s _ _ h1, Enc.mo h2 s, al.mp fun _ _ r => ⟨r.1, Enc.mo r.2 s⟩⟩
  nt := fun ⟨c, _⟩ z hz => by rw [c] at hz; cases hz
section
variable {C CN : Addr} {os : List (List Int)} {N : Nw} {t : Int} {K : PySem.W.Frag} {ta tb tc : TE} {Γ Γ1 Γ2 : Env}
theorem cv_ph : Cv (PhO C CN os N t) (PhS C CN os N t) := fun Hb H v Cc ⟨x, dx, xn, dxn, p, d, kvs, e, c, h1, h2, al⟩ s hc => by
  subst c
  exact ⟨rfl, x, dx, xn, dxn, p, d, kvs, e, hc (x, .ins C dx (phF xn os.length t)) List.mem_cons_self, hc (d, .dK kvs) (List.mem_cons_of_mem _ List.mem_cons_self), s _ _ h1, Enc.mo h2 s, al.mp fun _ _ r => ⟨r.1, Enc.mo r.2 s⟩⟩
theorem fr_ph : Fr (PhS C CN os N t) := fun _ _ _ h => h.1
theorem cv_phS : Cv (PhS C CN os N t) (PhS C CN os N t) := fun _ _ _ _ ⟨c, x, dx, xn, dxn, p, d, kvs, e, h0, h3, h1, h2, al⟩ s hc => ⟨rfl, x, dx, xn, dxn, p, d, kvs, e, s _ _ h0, s _ _ h3, s _ _ h1, Enc.mo h2 s, al.mp fun _ _ r => ⟨r.1, Enc.mo r.2 s⟩⟩
theorem ins_ph {m : Str} (h1 : ¬ m = "turns") (h2 : ¬ m = "people") (h3 : ¬ m = "news") : InsO (PhS C CN os N t) C m := fun _ _ _ _ ⟨c, x, dx, xn, dxn, p, d, kvs, e, h0, _⟩ s _ => ⟨x, dx, _, e, s _ _ h0, phF_no _ _ _ h1 h2 h3⟩
theorem ins_phO {m : Str} (h1 : ¬ m = "turns") (h2 : ¬ m = "people") (h3 : ¬ m = "news") : InsO (PhO C CN os N t) C m := fun Hb H v C0 ⟨x, dx, xn, dxn, p, d, kvs, e, c, _⟩ s hc => by
  subst c
  exact ⟨x, dx, _, e, hc (x, .ins C dx (phF xn os.length t)) List.mem_cons_self, phF_no _ _ _ h1 h2 h3⟩
theorem nl_ph : ∀ H v C0, (PhO C CN os N t).p H v C0 → ∀ c ∈ C0, NL c := fun H v C0 ⟨x, dx, xn, dxn, p, d, kvs, e, cc, _⟩ c hc => by
  rw [cc] at hc
  rcases List.mem_cons.mp hc with rfl | h
  · exact ⟨fun xs y => (by cases y), fun xs y => (by cases y)⟩
  · rw [List.mem_singleton.mp h]; exact ⟨fun xs y => (by cases y), fun xs y => (by cases y)⟩
/-! its parts, read -/
theorem ev_phT (T : KPhones K C) (h : Ev ta Γ Γ1 (PhS C CN os N t)) : Ev (tFld K ta "turns") Γ Γ1 (Fz t) := fun Hs G σ H F X Cs I Q q => h Hs G σ H F X Cs I _ fun v H1 ⟨F1, C1, Cs1, I1, e1, x, dx, xn, dxn, p, d, kvs, e2, h0, h3, h1, h2, al⟩ => by
  subst e1
  exact ⟨x, C, dx, _, _, e2, I1.b _ _ h0, T.cl, T.nT, phF_turns _ _ _, q _ _ ⟨F1, [], Cs1, I1, rfl, rfl⟩⟩
theorem ev_phP (T : KPhones K C) (h : Ev ta Γ Γ1 (PhS C CN os N t)) : Ev (tFld K ta "people") Γ Γ1 (Fz (os.length : Int)) := fun Hs G σ H F X Cs I Q q => h Hs G σ H F X Cs I _ fun v H1 ⟨F1, C1, Cs1, I1, e1, x, dx, xn, dxn, p, d, kvs, e2, h0, h3, h1, h2, al⟩ => by
  subst e1
  exact ⟨x, C, dx, _, _, e2, I1.b _ _ h0, T.cl, T.nP, phF_people _ _ _, q _ _ ⟨F1, [], Cs1, I1, rfl, rfl⟩⟩
/-- the news, standing -/
def NwS (CN : Addr) (os : List (List Int)) (N : Nw) : As where
  p := fun H v Cc => Cc = [] ∧ ∃ xn dxn p d kvs, v = .ref xn ∧ H d = some (.dK kvs) ∧ H xn = some (.ins CN dxn (newsF p d)) ∧ Enc.is os H (.ref p) ∧ Al (kvR H) N kvs
  mo := fun ⟨c, xn, dxn, p, d, kvs, e, h3, h1, h2, al⟩ s => ⟨c, xn, dxn, p, d, kvs, e, s _ _ h3, s _ _ h1, Enc.mo h2 s, al.mp fun _ _ r => ⟨r.1, Enc.mo r.2 s⟩⟩
  nt := fun ⟨c, _⟩ z hz => by rw [c] at hz; cases hz
theorem ev_phN (T : KPhones K C) (h : Ev ta Γ Γ1 (PhS C CN os N t)) : Ev (tFld K ta "news") Γ Γ1 (NwS CN os N) := fun Hs G σ H F X Cs I Q q => h Hs G σ H F X Cs I _ fun v H1 ⟨F1, C1, Cs1, I1, e1, x, dx, xn, dxn, p, d, kvs, e2, h0, h3, h1, h2, al⟩ => by
  subst e1
  exact ⟨x, C, dx, _, _, e2, I1.b _ _ h0, T.cl, T.nN, phF_news _ _ _, q _ _ ⟨F1, [], Cs1, I1, rfl, xn, dxn, p, d, kvs, rfl, h3, h1, h2, al⟩⟩
theorem ev_nwR (T : KNews K CN) (h : Ev ta Γ Γ1 (NwS CN os N)) : Ev (tFld K ta "rows") Γ Γ1 (Fz (Dc.mk N)) := fun Hs G σ H F X Cs I Q q => h Hs G σ H F X Cs I _ fun v H1 ⟨F1, C1, Cs1, I1, e1, xn, dxn, p, d, kvs, e2, h3, h1, h2, al⟩ => by
  subst e1
  exact ⟨xn, CN, dxn, _, _, e2, I1.b _ _ h1, T.cl, T.nR, newsF_rows _ _, q _ _ ⟨F1, [], Cs1, I1, rfl, d, kvs, rfl, h3, al⟩⟩
theorem ev_nwC (h : Ev ta Γ Γ1 (NwS CN os N)) (hn : N.length ≤ 10000) : Ev (tMeth CN "callers" (sp_News_callers CN) [] E0 ta tNil) Γ Γ1 (Ow (callersM N)) := fun Hs G σ H F X Cs I Q q => h Hs G σ H F X Cs I _ fun v H1 ⟨F1, C1, Cs1, I1, e1, xn, dxn, p, d, kvs, e2, h3, h1, h2, al⟩ => by
  subst e1 e2
  obtain ⟨M, e4, e5, rm⟩ := kv_to al
  subst e5
  have hl : (rowsOf M).length = M.length := by unfold rowsOf; rw [List.length_map]
  have hx := I1.b _ _ h1
  refine ⟨xn, dxn, _, rfl, hx, newsF_no _ _ (by decide +kernel) (by decide +kernel), xn, dxn, p, d, M, rfl, hx, I1.b _ _ h3, rm.same I1.b, by rw [← hl, e4]; exact hn, fun l H' L => ?_⟩
  rw [e4] at L
  have I2 := I1.ext (F2 := []) L (fun c hc => by rw [List.mem_singleton.mp hc]; exact fun xs z => by cases z)
  exact q _ _ ⟨F1, [(l, intsO (callersM N))], Cs1, I2, Ow.of (al_ofI _)⟩
end
/-! the methods that tell -/
abbrev PhJ := List (List Int) × Nw × Int
def sp_Phones_gone (C CN : Addr) : Sp := spG (fun _ : PhJ => True) (fun i => PhS C CN i.1 i.2.1 i.2.2 :: []) (fun i => Fz i.2.2)
def t_Phones_gone (K : PySem.W.Frag) : TS :=
(tRet (tFld K (tVar 0) "turns"))
theorem v_Phones_gone {K : PySem.W.Frag} {C CN : Addr} (T : KPhones K C) {vs : List V} {H : Hp} {Q : VK} {E : XK} (h : sp_Phones_gone C CN vs H Q E) : t_Phones_gone K (fin Q) (st0 1 vs) H := by
  refine v_of (n := 1) (fun ⟨os, N, t⟩ _ => ?_) h
  show Wp (t_Phones_gone K) [some (PhS C CN os N t)] (Rt (Fz t))
  exact wp_ret (ev_phT T (ev_same rfl fr_ph)) rfl
def sp_Phones_knowing (C CN : Addr) : Sp := spG (fun _ : PhJ => True) (fun i => PhS C CN i.1 i.2.1 i.2.2 :: []) (fun i => Ow (sortI (i.2.1.map (·.1))))
def t_Phones_knowing (K : PySem.W.Frag) : TS :=
(tRet (tCB (rSortedI K) (tCons (tCB qListD (tCons (tFld K (tFld K (tVar 0) "news") "rows") tNil)) tNil)))
theorem v_Phones_knowing {K : PySem.W.Frag} {C CN : Addr} (T : KPhones K C) (TN : KNews K CN) {vs : List V} {H : Hp} {Q : VK} {E : XK} (h : sp_Phones_knowing C CN vs H Q E) : t_Phones_knowing K (fin Q) (st0 1 vs) H := by
  refine v_of (n := 1) (fun ⟨os, N, t⟩ _ => ?_) h
  show Wp (t_Phones_knowing K) [some (PhS C CN os N t)] (Rt (Ow (sortI (N.map (·.1)))))
  exact wp_ret (ev_sorted (ev_fr (ev_listD (ev_nwR TN (ev_phN T (ev_same rfl fr_ph)))))) rfl
def sp_Phones_is_done (C CN : Addr) : Sp := spG (fun i : PhJ => i.2.1.length ≤ 10000) (fun i => PhS C CN i.1 i.2.1 i.2.2 :: []) (fun i => Fz (decide (callersM i.2.1 = [])))
def t_Phones_is_done (K : PySem.W.Frag) (C_News : Addr) : TS :=
(tRet (tOp (rEqD K) (tMeth C_News "callers" (sp_News_callers C_News) [] E0 (tFld K (tVar 0) "news") tNil) (tLst tNil)))
theorem v_Phones_is_done {K : PySem.W.Frag} {C CN : Addr} (T : KPhones K C) {vs : List V} {H : Hp} {Q : VK} {E : XK} (h : sp_Phones_is_done C CN vs H Q E) : t_Phones_is_done K CN (fin Q) (st0 1 vs) H := by
  refine v_of (n := 1) (fun ⟨os, N, t⟩ hn => ?_) h
  show Wp (t_Phones_is_done K CN) [some (PhS C CN os N t)] (Rt (Fz (decide (callersM N = []))))
  exact wp_ret (ev_eqM (ev_fr (ev_nwC (ev_phN T (ev_same rfl fr_ph)) hn)) (ev_fr ev_nil)) rfl
/-- a list of one's own, or None -/
def OwO (o : Option (List Int)) : As := match o with
  | none => Fz (none : Option (List Int))
  | some r => Ow r
theorem cv_owO {o : Option (List Int)} : Cv (OwO o) (Fz o) := by
  cases o with
  | none => exact cv_fz
  | some r => exact fun Hb H v C h s hc => cv_ow Hb H v C h s hc
theorem tpo_owO {o : Option (List Int)} : TpO (OwO o) := by
  cases o with
  | none => exact fun H H' v C f ⟨e, h⟩ => ⟨e, h⟩
  | some r => exact tpo_ow
def sp_Phones_row (C CN : Addr) : Sp := spG (fun i : PhJ × Int => 0 ≤ i.2 ∧ i.2 < i.1.1.length) (fun i => PhS C CN i.1.1 i.1.2.1 i.1.2.2 :: [Fz i.2]) (fun i => OwO (gVal i.1.2.1 i.2))
def t_Phones_row (K : PySem.W.Frag) : TS :=
(tSeq (tIfS (tNot (tB (tCall sp_is_between [] E0 (tCons (tVar 1) (tCons (tC (.int 0)) (tCons (tOp qSub (tFld K (tVar 0) "people") (tC (.int 1))) tNil))))))
    tNever
    tNext)
    (tSeq (tAsg (tDGet1 (tFld K (tFld K (tVar 0) "news") "rows") (tVar 1)) (gName 2))
    (tRet (tIf (tTest (tOp qNotN (tVar 2) (tC .non))) (tCB (qList K) (tCons (tVar 2) tNil)) (tC .non)))))
theorem v_Phones_row {K : PySem.W.Frag} {C CN : Addr} (T : KPhones K C) (TN : KNews K CN) {vs : List V} {H : Hp} {Q : VK} {E : XK} (h : sp_Phones_row C CN vs H Q E) : t_Phones_row K (fin Q) (st0 3 vs) H := by
  refine v_of (n := 3) (fun ⟨⟨os, N, t⟩, p⟩ hp => ?_) h
  have hp : 0 ≤ p ∧ p < os.length := hp
  show Wp (t_Phones_row K) [some (PhS C CN os N t), some (Fz p), none] (Rt (OwO (gVal N p)))
  refine wq_no (et_not (et_b (ev_betw (ev_var rfl) ev_int (ev_sub (ev_phP T (ev_same rfl fr_ph)) ev_int)))) (by simp; omega) ?_
  refine wq_asg (ev_dg1 (ev_nwR TN (ev_phN T (ev_same rfl fr_ph))) (ev_var rfl)) ?_
  generalize gVal N p = o
  refine wp_ret (Γ1 := [some (PhS C CN os N t), some (Fz p), some (Fz o)]) (ev_if (b := o.isSome) (et_tt (ev_notN nn_list (ev_var rfl))) (fun hb => ?_) (fun hb => ?_)) rfl
  · cases o with
    | none => cases hb
    | some r =>
      have ep : Ev (tVar 2) [some (PhS C CN os N t), some (Fz p), some (Fz (some r))] [some (PhS C CN os N t), some (Fz p), some (Fz (some r))] (Fz r) := fun Hs G σ H F X Cs I Q q => ev_var (a := some r) rfl Hs G σ H F X Cs I Q q
      exact ev_list ep
  · cases o with
    | some r => cases hb
    | none => exact ev_non
section
variable {C CN : Addr} {os : List (List Int)} {N : Nw} {t p : Int} {K : PySem.W.Frag} {ta tb tc : TE} {Γ Γ1 Γ2 : Env}
theorem ev_phGone (h : Ev ta Γ Γ1 (PhS C CN os N t)) : Ev (tMeth C "gone" (sp_Phones_gone C CN) [] E0 ta tNil) Γ Γ1 (Fz t) :=
  ev_methF (S := fun i : PhJ => PhS C CN i.1 i.2.1 i.2.2) (i := (os, N, t)) h fr_ph (ins_ph (by decide +kernel) (by decide +kernel) (by decide +kernel)) ea_nil trivial
theorem ev_phKnow (h : Ev ta Γ Γ1 (PhS C CN os N t)) : Ev (tMeth C "knowing" (sp_Phones_knowing C CN) [] E0 ta tNil) Γ Γ1 (Ow (sortI (N.map (·.1)))) :=
  ev_methF (S := fun i : PhJ => PhS C CN i.1 i.2.1 i.2.2) (i := (os, N, t)) h fr_ph (ins_ph (by decide +kernel) (by decide +kernel) (by decide +kernel)) ea_nil trivial
theorem ev_phDone (h : Ev ta Γ Γ1 (PhS C CN os N t)) (hn : N.length ≤ 10000) : Ev (tMeth C "is_done" (sp_Phones_is_done C CN) [] E0 ta tNil) Γ Γ1 (Fz (decide (callersM N = []))) :=
  ev_methF (S := fun i : PhJ => PhS C CN i.1 i.2.1 i.2.2) (i := (os, N, t)) h fr_ph (ins_ph (by decide +kernel) (by decide +kernel) (by decide +kernel)) ea_nil hn
theorem ev_phRow (h : Ev ta Γ Γ1 (PhS C CN os N t)) (h' : Ev tb Γ1 Γ2 (Fz p)) (hp : 0 ≤ p ∧ p < os.length) : Ev (tMeth C "row" (sp_Phones_row C CN) [] E0 ta (tCons tb tNil)) Γ Γ2 (OwO (gVal N p)) :=
  ev_methF (S := fun i : PhJ × Int => PhS C CN i.1.1 i.1.2.1 i.1.2.2) (i := ((os, N, t), p)) h fr_ph (ins_ph (by decide +kernel) (by decide +kernel) (by decide +kernel)) (ea_1 h') hp
end
end Cc

namespace Cc
open PySem L2
local macro_rules | `(tactic| decreasing_trivial) => `(tactic| first | (with_reducible exact ev_int) | (with_reducible exact ev_bl) | ((with_reducible apply ev_var) <;> rfl) | (with_reducible exact ea_nil) | (with_reducible exact Es.nil) | (with_reducible exact Kp.nil) | (with_reducible apply ev_non) | ((with_reducible apply ev_add) <;> decreasing_trivial) | ((with_reducible apply ev_sub) <;> decreasing_trivial) | ((with_reducible apply ev_mod) <;> decreasing_trivial) | ((with_reducible apply ev_div) <;> decreasing_trivial) | ((with_reducible apply ev_mul) <;> decreasing_trivial) | ((with_reducible apply ev_pow) <;> decreasing_trivial) | ((with_reducible apply ev_lt) <;> decreasing_trivial) | ((with_reducible apply ev_le) <;> decreasing_trivial) | ((with_reducible apply ev_gt) <;> decreasing_trivial) | ((with_reducible apply ev_ge) <;> decreasing_trivial) | ((with_reducible apply ev_eqS) <;> decreasing_trivial) | ((with_reducible apply ev_neS) <;> decreasing_trivial) | ((with_reducible apply ev_isB) <;> decreasing_trivial) | ((with_reducible apply ev_notB) <;> decreasing_trivial) | ((with_reducible apply ev_neg) <;> decreasing_trivial) | ((with_reducible apply ev_not) <;> decreasing_trivial) | ((with_reducible apply ev_len) <;> decreasing_trivial) | ((with_reducible apply ev_sum) <;> decreasing_trivial) | ((with_reducible apply ev_ixD) <;> decreasing_trivial) | ((with_reducible apply ev_ixT0) <;> decreasing_trivial) | ((with_reducible apply ev_ixT1) <;> decreasing_trivial) | ((with_reducible apply ev_ixT2) <;> decreasing_trivial) | ((with_reducible apply ev_ixP0) <;> decreasing_trivial) | ((with_reducible apply ev_ixP1) <;> decreasing_trivial) | ((with_reducible apply ev_ixDT) <;> decreasing_trivial) | ((with_reducible apply ev_fr; with_reducible apply ev_cat) <;> decreasing_trivial) | ((with_reducible apply ev_fr; with_reducible apply ev_list) <;> decreasing_trivial) | ((with_reducible apply ev_fr; with_reducible apply ev_sorted) <;> decreasing_trivial) | ((with_reducible apply ev_fr; with_reducible apply ev_slH) <;> decreasing_trivial) | ((with_reducible apply ev_fr; with_reducible apply ev_slL) <;> decreasing_trivial) | ((with_reducible apply ev_fr; with_reducible apply ev_rev) <;> decreasing_trivial) | (with_reducible apply ev_fr; with_reducible exact ev_nil) | ((with_reducible apply ev_fr; with_reducible apply ev_ls) <;> decreasing_trivial) | ((with_reducible apply Es.cons) <;> decreasing_trivial) | ((with_reducible apply ev_in) <;> decreasing_trivial) | ((with_reducible apply ev_notin) <;> decreasing_trivial) | ((with_reducible apply ev_max2) <;> decreasing_trivial) | ((with_reducible apply ev_min2) <;> decreasing_trivial) | ((with_reducible apply ev_eqD) <;> decreasing_trivial) | ((with_reducible apply ev_neD) <;> decreasing_trivial) | ((with_reducible apply ev_all) <;> decreasing_trivial) | ((with_reducible apply ev_any) <;> decreasing_trivial) | ((with_reducible apply ev_fr; with_reducible apply ev_rg1) <;> decreasing_trivial) | ((with_reducible apply ev_fr; with_reducible apply ev_rg2) <;> decreasing_trivial) | ((with_reducible apply ev_p2) <;> decreasing_trivial) | ((with_reducible apply ev_t3) <;> decreasing_trivial) | ((with_reducible apply ev_tp) <;> decreasing_trivial) | ((with_reducible apply et_tt) <;> decreasing_trivial) | ((with_reducible apply et_b) <;> decreasing_trivial) | ((with_reducible apply et_not) <;> decreasing_trivial) | ((with_reducible apply et_or) <;> decreasing_trivial) | ((with_reducible apply et_and) <;> decreasing_trivial) | ((with_reducible apply ev_andV) <;> decreasing_trivial) | ((with_reducible apply ev_orV) <;> decreasing_trivial) | ((with_reducible apply ev_chLL) <;> decreasing_trivial) | ((with_reducible apply ev_chll) <;> decreasing_trivial) | ((with_reducible apply is_list) <;> decreasing_trivial) | ((with_reducible apply is_tup) <;> decreasing_trivial) | ((with_reducible apply is_rng1) <;> decreasing_trivial) | ((with_reducible apply is_rng2) <;> decreasing_trivial) | ((with_reducible apply is_enum) <;> decreasing_trivial) | ((with_reducible apply is_zip) <;> decreasing_trivial) | ((with_reducible apply ea_1) <;> decreasing_trivial) | ((with_reducible apply ea_2) <;> decreasing_trivial) | ((with_reducible apply ea_3) <;> decreasing_trivial) | ((with_reducible apply ev_dg) <;> decreasing_trivial) | ((with_reducible apply ev_dg1) <;> decreasing_trivial) | ((with_reducible apply ev_fr; with_reducible apply ev_listD) <;> decreasing_trivial) | ((with_reducible apply ev_isi) <;> decreasing_trivial) | ((with_reducible apply ev_whole) <;> decreasing_trivial) | ((with_reducible apply ev_betw) <;> decreasing_trivial) | ((with_reducible apply ev_num) <;> decreasing_trivial) | ((with_reducible apply Kp.so fr_fz) <;> decreasing_trivial) | ((with_reducible apply Kp.no) <;> decreasing_trivial) | (intro (_ : (_ : Bool) = _); decreasing_trivial) | (infer_instance) | (rfl) | (omega) | (decide) | (simp; done) | (skip))
/-! Phones made, a round passed -/
/-- a thing made anew: it leans on new things alone -/
def EvN (te : TE) (Γ Γ' : Env) (A : As) : Prop := ∀ (Hs G : Hp) (σ : L2.St) (H : Hp) (F X : List Cell) (Cs : List (List Cell)), Iv Hs G Γ σ H F X Cs →
  Vr te σ H (fun v H' => ∃ F2 C Cs', Iv Hs G Γ' σ H' (F2 ++ F) (C ++ X) Cs' ∧ A.p (inC F2) v C)
theorem inC_up {Hs G H : Hp} {F F' : List Cell} (L : Lo G H F') (h : ∀ c ∈ F, c ∈ F') : Same (inC F) (plus Hs F') := plus_le (fun _ _ e => by cases e) fun a o hm => L.pGc (h _ hm)
theorem inC_in {G H : Hp} {F F' : List Cell} (L : Lo G H F') (h : ∀ c ∈ F, c ∈ F') : Same (inC F) (inC F') := inC_up L h
theorem evN {te : TE} {Γ Γ' : Env} {A : As} (h : EvN te Γ Γ' A) : Ev te Γ Γ' A := fun Hs G σ H F X Cs I Q q => h Hs G σ H F X Cs I Q fun v H' ⟨F2, C, Cs', I2, r⟩ => q v H' ⟨F2, C, Cs', I2, As.mo _ r (inC_up I2.loF fun c hc => List.mem_append_left _ hc)⟩
theorem evN_brw {te : TE} {Γ Γ' Γ2 : Env} {A : As} (b : Brw Γ Γ') (h : EvN te Γ' Γ2 A) : EvN te Γ Γ A := fun Hs G σ H F X Cs I Q q => h Hs G σ H _ _ _ (I.brw b) Q fun v H' ⟨F2, C, Cs', I2, r⟩ =>
  q v H' ⟨F2, C, Cs, I.unb I2, r⟩
theorem ev_mkNwN {ta : TE} {Γ Γ1 : Env} {C : Addr} {os : List (List Int)} (h : Ev ta Γ Γ1 (Fz os)) (h1 : 1 ≤ os.length) (h2 : os.length ≤ 10000) : EvN (tMake C (sp_News___init__ C) [] E0 (tCons ta tNil)) Γ Γ1 (NwO C os [(0, os.getD 0 [])]) := fun Hs G σ H F X Cs I Q q => h Hs G σ H F X Cs I _ fun v H1 ⟨F1, C1, Cs1, I1, e1, r1⟩ => by
  subst e1
  obtain ⟨po, pso, e3, R⟩ := is_toLL r1
  subst e3
  intro x dx hx hdx hne
  have L3 := ((Lo.nil H1).al hdx (.own x)).al (p := x) (by rw [upd_ne hne.symm]; exact hx) (.ins C dx [])
  refine ⟨H1, x, dx, po, pso, os, rfl, L3, R.same I1.b, h1, h2, fun p ps d qq H' L hps => ⟨rfl, ?_⟩⟩
  have L4 : Lo H1 H' (((qq, intsO (os.getD 0 [])) :: (x, .ins C dx (newsF p d)) :: (dx, .own x) :: llC p ps os) ++ [(d, .dK (kvsOf [(0, qq, os.getD 0 [])]))]) := L.pk [[(d, .dK (kvsOf [(0, qq, os.getD 0 [])]))], (qq, intsO (os.getD 0 [])) :: (x, .ins C dx (newsF p d)) :: (dx, .own x) :: llC p ps os] [0, 1] [1, 0]
  have I3 := I1.ext L4 (fun c hc => by rw [List.mem_singleton.mp hc]; exact fun xs z => by cases z)
  have LF : Lo G H' (((qq, intsO (os.getD 0 [])) :: (x, .ins C dx (newsF p d)) :: (dx, .own x) :: llC p ps os) ++ F1) := I3.loF.pk [(qq, intsO (os.getD 0 [])) :: (x, .ins C dx (newsF p d)) :: (dx, .own x) :: llC p ps os, F1, F] [0, 1, 2] [0, 1] [2]
  have gF : ∀ {a : Addr} {o : HO}, (a, o) ∈ ((qq, intsO (os.getD 0 [])) :: (x, .ins C dx (newsF p d)) :: (dx, .own x) :: llC p ps os) → inC (((qq, intsO (os.getD 0 [])) :: (x, .ins C dx (newsF p d)) :: (dx, .own x) :: llC p ps os) ++ F1) a = some o := fun {a o} h => LF.pGc (c := (a, o)) (List.mem_append_left _ h)
  refine q _ _ ⟨((qq, intsO (os.getD 0 [])) :: (x, .ins C dx (newsF p d)) :: (dx, .own x) :: llC p ps os) ++ F1, [(d, .dK (kvsOf [(0, qq, os.getD 0 [])]))], Cs1, I3.asc, x, dx, p, d, _, rfl, ?_, ?_, rfl, ?_⟩
  · exact gF (List.mem_cons_of_mem _ List.mem_cons_self)
  · exact is_ofLL (Rows.of_mem (fun h => gF (List.mem_cons_of_mem _ (List.mem_cons_of_mem _ (List.mem_cons_of_mem _ h)))) hps)
  · exact kv_of (M := [(0, qq, os.getD 0 [])]) fun e he => by
      rw [List.mem_singleton.mp he]
      exact gF List.mem_cons_self
theorem ph_nt {C x dx : Addr} {fs : List (Str × V)} : ∀ c ∈ ([(x, .ins C dx fs), (dx, .own x)] : List Cell), NT c := fun c hc => by
  rcases List.mem_cons.mp hc with rfl | h
  · exact fun xs y => by cases y
  · rw [List.mem_singleton.mp h]; exact fun xs y => by cases y
def sp_Phones___init__ (C CN : Addr) : Sp := fun vs H Q _ => ∃ (Hs H0 : Hp) (x dx : Addr) (v : V) (os : List (List Int)), vs = [.ref x, v] ∧ Same Hs H0 ∧ Lo H0 H [(x, .ins C dx []), (dx, .own x)] ∧ Enc.is os Hs v ∧ OrdG os ∧ os.length ≤ 40 ∧
  ∀ H' F Cc, Lo H0 H' (F ++ Cc) → (PhO C CN os [(0, rowO os 0)] 0).p (inC F) (.ref x) Cc → Q .non H'
def t_Phones___init__ (K : PySem.W.Frag) (C_News : Addr) : TS :=
(tSeq (tDrop (tCall sp_check_orders [] E0 (tCons (tVar 1) tNil)))
    (tSeq (sFld K (tVar 0) (tMake C_News (sp_News___init__ C_News) [] E0 (tCons (tVar 1) tNil)) "news")
    (tSeq (sFld K (tVar 0) (tCB (qLen K) (tCons (tVar 1) tNil)) "people")
    (sFld K (tVar 0) (tC (.int 0)) "turns"))))
theorem v_Phones___init__ {K : PySem.W.Frag} {C CN : Addr} (T : KPhones K C) {vs : List V} {H : Hp} {Q : VK} {E : XK} (h : sp_Phones___init__ C CN vs H Q E) : t_Phones___init__ K CN (fin Q) (st0 2 vs) H := by
  obtain ⟨Hs, H0, x, dx, v, os, rfl, s, L, ho, O, hn, k⟩ := h
  have hp := O.pos
  have I0 : Iv Hs H0 [none, some (Fz os)] [some (.ref x), some v] H [] [(x, .ins C dx []), (dx, .own x)] [[], []] := ⟨s, L, .no _ (.so (A := Fz os) ⟨rfl, ho⟩ .nil), ph_nt⟩
  refine ev_chkO (ta := tVar 1) (ev_var rfl) O hn Hs H0 _ H _ _ _ I0 _ fun v1 H1 ⟨F1, C1, Cs1, I1, e1, _⟩ => ?_
  subst e1
  refine q_fld (ev_mkNwN (C := CN) (ta := tVar 1) (ev_var rfl) hp (by omega) Hs H0 _ H1 _ _ _ I1) ?_
  rintro y H2 ⟨F2, C2, Cs2, I2, r2⟩
  obtain ⟨xn, dxn, p, d, kvs, e3, h3, h4, e5, al⟩ := r2
  subst e3 e5
  have hx2 : H2 x = some (.ins C dx []) := I2.gX (c := (x, .ins C dx [])) (List.mem_append_right _ (List.mem_append_right _ List.mem_cons_self))
  refine ⟨_, rfl, x, C, dx, _, rfl, hx2, T.cl, T.nN, by decide, ?_⟩
  have I3 : Iv Hs H0 [none, some (Fz os)] [some (.ref x), some v] H2 (F2 ++ (F1 ++ [])) ((x, .ins C dx []) :: [(d, .dK kvs), (dx, .own x)]) Cs2 := I2.px (by
    show List.Perm [(d, HO.dK kvs), (x, HO.ins C dx []), (dx, HO.own x)] [(x, HO.ins C dx []), (d, HO.dK kvs), (dx, HO.own x)]
    exact List.Perm.swap _ _ _)
  have I4 := I3.wrX (o' := .ins C dx (putF "news" (.ref xn) [])) (fun xs z => by cases z)
  have h3' := h3
  refine q_fld (ev_len (K := K) (ta := tVar 1) (ev_var (a := os) rfl) Hs H0 _ _ _ _ _ I4) ?_
  rintro y3 H5 ⟨F5, C5, Cs5, I5, e5, r5⟩
  subst e5
  have r5 : y3 = .int os.length := r5
  subst r5
  refine ⟨_, rfl, x, C, dx, _, rfl, I5.gX (c := (x, .ins C dx (putF "news" (.ref xn) []))) List.mem_cons_self, T.cl, T.nP, by show 1 < 1000; decide, ?_⟩
  have I6 := Iv.wrX (o' := .ins C dx (putF "people" (.int os.length) (putF "news" (.ref xn) []))) I5 (fun xs z => by cases z)
  refine s_fld (va_c (v := .int 0)).r ?_
  rintro _ H7 ⟨rfl, rfl⟩
  refine ⟨_, rfl, x, C, dx, _, rfl, I6.gX (c := (x, .ins C dx (putF "people" (.int os.length) (putF "news" (.ref xn) [])))) List.mem_cons_self, T.cl, T.nT, by
    have h2 := putF_len "people" (.int os.length) (putF "news" (.ref xn) [])
    have h3 := putF_len "news" (.ref xn) []
    simp only [List.length_nil] at h3
    omega, ?_⟩
  have I7 := Iv.wrX (o' := .ins C dx (phF xn os.length 0)) I6 (fun xs z => by cases z)
  have L7 : Lo H0 _ ((F5 ++ (F2 ++ (F1 ++ []))) ++ [(x, .ins C dx (phF xn os.length 0)), (d, .dK kvs)]) := I7.lo.pk [F5, F2, F1, [(x, .ins C dx (phF xn os.length 0))], [(d, .dK kvs)], [(dx, .own x)], Cs5.flatten] [0, 1, 2, 3, 4, 5, 6] [0, 1, 2, 3, 4] [5, 6]
  have up : Same (inC F2) (inC (F5 ++ (F2 ++ (F1 ++ [])))) := inC_in (L7.sub (List.sublist_append_left _ _)) fun c hc => List.mem_append_right _ (List.mem_append_left _ hc)
  exact k _ _ _ L7 ⟨x, dx, xn, dxn, p, d, kvs, rfl, rfl, up _ _ h3, Enc.mo h4 up, al.mp fun _ _ r => ⟨r.1, Enc.mo r.2 up⟩⟩
section
variable {C CN : Addr} {os : List (List Int)} {K : PySem.W.Frag} {ta : TE} {Γ Γ1 : Env}
theorem ev_mkPhN (h : Ev ta Γ Γ1 (Fz os)) (O : OrdG os) (hn : os.length ≤ 40) : EvN (tMake C (sp_Phones___init__ C CN) [] E0 (tCons ta tNil)) Γ Γ1 (PhO C CN os [(0, rowO os 0)] 0) := fun Hs G σ H F X Cs I Q q => h Hs G σ H F X Cs I _ fun v H1 ⟨F1, C1, Cs1, I1, e1, r1⟩ => by
  subst e1
  intro x dx hx hdx hne
  have L3 := ((Lo.nil H1).al hdx (.own x)).al (p := x) (by rw [upd_ne hne.symm]; exact hx) (.ins C dx [])
  refine ⟨plus Hs (F1 ++ F), H1, x, dx, v, os, rfl, I1.b, L3, r1, O, hn, fun H' F2 Cc L r => ⟨rfl, ?_⟩⟩
  have I3 := I1.ext L (As.nt _ r)
  have I3 : Iv Hs G Γ1 σ H' ((F2 ++ F1) ++ F) (Cc ++ X) Cs1 := by simpa only [List.append_assoc, List.nil_append] using I3
  exact q _ _ ⟨F2 ++ F1, Cc, Cs1, I3, As.mo _ r (inC_in (I3.loF.sub (List.sublist_append_left _ _)) fun c hc => List.mem_append_left _ hc)⟩
theorem ev_mkPh (h : Ev ta Γ Γ1 (Fz os)) (O : OrdG os) (hn : os.length ≤ 40) : Ev (tMake C (sp_Phones___init__ C CN) [] E0 (tCons ta tNil)) Γ Γ1 (PhO C CN os [(0, rowO os 0)] 0) := evN (ev_mkPhN h O hn)
end
theorem tr3_al {H : Hp} : ∀ {ts : List Tri} {ws : List V}, Tr3 H ws ts → Al (fun a v => Enc.is a H v) ts ws
  | [], [], _ => .nil
  | [], _ :: _, h => by have := h.len; simp at this
  | _ :: _, [], h => by have := h.len; simp at this
  | t :: ts, w :: ws, h => by
    obtain ⟨a, e, g⟩ := h.row (i := 0) rfl rfl
    exact .cons ⟨a, _, _, _, e, g, rfl, rfl, rfl⟩ (tr3_al ⟨by have := h.len; simpa using this, fun {i v u} e1 e2 => h.row (i := i + 1) (by simpa using e1) (by simpa using e2)⟩)
/-- orders, the dict, rounds gone, absent ones -/
abbrev PhK := (List (List Int) × Nw × Int) × List Int
def PhKOk (i : PhK) : Prop := OrdG i.1.1 ∧ i.1.1.length ≤ 40 ∧ (∃ K, WInv i.1.1 i.1.2.1 K) ∧ AbsOk i.1.1.length i.2
def sp_Phones_pass_round (C CN : Addr) : Sp := spM (fun i : PhK => PhKOk i) (fun i => PhO C CN i.1.1 i.1.2.1 i.1.2.2) (fun i => PhO C CN i.1.1 (passM i.1.1 i.2 i.2 i.1.2.1).2 (i.1.2.2 + 1)) (fun i => [Fz i.2]) (fun i => Ow (passM i.1.1 i.2 i.2 i.1.2.1).1)
def t_Phones_pass_round (K : PySem.W.Frag) (C_News : Addr) : TS :=
(tSeq (tDrop (tCall sp_check_absent [] E0 (tCons (tFld K (tVar 0) "people") (tCons (tVar 1) tNil))))
    (tSeq (sFldAug K (tVar 0) (tC (.int 1)) L2.rAdd "turns")
    (tRet (tMeth C_News "pass_turn" (sp_News_pass_turn C_News) [] E0 (tFld K (tVar 0) "news") (tCons (tVar 1) (tCons (tVar 1) tNil))))))
theorem v_Phones_pass_round {K : PySem.W.Frag} {C CN : Addr} (T : KPhones K C) {vs : List V} {H : Hp} {Q : VK} {E : XK} (h : sp_Phones_pass_round C CN vs H Q E) : t_Phones_pass_round K CN (fin Q) (st0 2 vs) H := by
  obtain ⟨⟨⟨os, N, t⟩, absent⟩, Hs, G, v0, vs', C0, ⟨O, hn, ⟨KK, W⟩, ha⟩, rfl, s, L, ⟨x, dx, xn, dxn, p, d, kvs, e1, e2, h1, h2, al⟩, hb, k⟩ := h
  have O : OrdG os := O
  have hn : os.length ≤ 40 := hn
  have W : WInv os N KK := W
  have ha : AbsOk os.length absent := ha
  subst e1 e2
  cases hb with
  | cons r1 hb =>
    cases hb
    obtain ⟨-, r1⟩ := r1
    obtain ⟨ab, e3, hab⟩ := is_toI r1
    subst e3
    have hx : H x = some (.ins C dx (phF xn os.length t)) := L.get List.mem_cons_self
    have hT := pass_ok (absent := absent) O (by omega) W absent
    have hos : ∀ r ∈ os, r.length ≤ 10000 := fun r hr => by
      have h1 := (List.sublist_flatten_of_mem hr).length_le
      have h2 := O.perm.length_eq
      rw [people_len] at h2
      rw [List.length_cons] at h2
      omega
    -- the absent ones looked at
    refine ⟨.ref x, rfl, x, C, dx, _, .int os.length, rfl, hx, T.cl, T.nP, phF_people _ _ _, .ref ab, rfl, (os.length, absent), G, ⟨ha, by show os.length ≤ 1000; omega⟩, L.sm, .cons ⟨rfl, rfl⟩ (.cons ⟨rfl, r1⟩ .nil), fun v1 H1 F1 C1 L1 _ => ?_⟩
    have L2 : Lo G H1 ([(x, .ins C dx (phF xn os.length t)), (d, .dK kvs)] ++ (F1 ++ C1)) := (L.ca L1).pk [F1, C1, [(x, .ins C dx (phF xn os.length t)), (d, .dK kvs)]] [0, 1, 2] [2, 0, 1]
    have hx1 : H1 x = some (.ins C dx (phF xn os.length t)) := L2.get List.mem_cons_self
    -- the round counted
    refine ⟨.ref x, rfl, x, C, dx, _, .int t, rfl, hx1, T.cl, T.nT, phF_turns _ _ _, t, 1, rfl, rfl, dx, _, hx1, phF_len _ _ _, ?_⟩
    rw [show putF "turns" (.int (t + 1)) (phF xn os.length t) = phF xn os.length (t + 1) from putF_twice _ _ _ _]
    have L3 := Lo.wr (A := []) (B := (d, .dK kvs) :: (F1 ++ C1)) L2 (.ins C dx (phF xn os.length (t + 1)))
    have L3 : Lo G (upd H1 x (.ins C dx (phF xn os.length (t + 1)))) ([(d, .dK kvs)] ++ ([(x, .ins C dx (phF xn os.length (t + 1)))] ++ (F1 ++ C1))) := L3.pk [[(x, .ins C dx (phF xn os.length (t + 1)))], [(d, .dK kvs)], F1, C1] [0, 1, 2, 3] [1, 0, 2, 3]
    obtain ⟨H4, LS, sG, hR, back⟩ := L3.split
    have hx3 : (upd H1 x (HO.ins C dx (phF xn os.length (t + 1)))) x = some (.ins C dx (phF xn os.length (t + 1))) := upd_same
    have hxn : (upd H1 x (HO.ins C dx (phF xn os.length (t + 1)))) xn = some (.ins CN dxn (newsF p d)) := L3.sm _ _ (s _ _ h1)
    obtain ⟨M, e4, e5, rm⟩ := kv_to al
    subst e5
    obtain ⟨p', ps, e6, R⟩ := is_toLL h2
    cases e6
    have hl : (rowsOf M).length = M.length := by unfold rowsOf; rw [List.length_map]
    have hNl : N.length ≤ 1000 := by have := W.klen.2; omega
    refine ⟨.ref x, rfl, x, C, dx, _, .ref xn, rfl, hx3, T.cl, T.nN, phF_news _ _ _, xn, dxn, _, rfl, hxn, newsF_no _ _ (by decide +kernel) (by decide +kernel), .ref ab, rfl, .ref ab, rfl, ?_⟩
    refine ⟨Hs, H4, xn, dxn, p, ps, os, d, M, ab, ab, absent, absent, rfl, s.trans sG, LS, ⟨h1, R⟩, rm, sG _ _ hab, sG _ _ hab, by rw [e4]; exact hT.goes, by rw [← hl, e4]; exact hNl, hos, fun M' f ws C' H' L5 rm' e7 tr hl' => ?_⟩
    rw [e4] at e7 tr
    have L6 := back (F' := (d, .dK (kvsOf M')) :: (f, .lst ws) :: C') L5
    have L7 : Lo G H' (C' ++ ([(f, .lst ws)] ++ [(x, .ins C dx (phF xn os.length (t + 1))), (d, .dK (kvsOf M'))])) := L6.pk [[(d, .dK (kvsOf M'))], [(f, .lst ws)], C', [(x, .ins C dx (phF xn os.length (t + 1)))], F1, C1] [0, 1, 2, 3, 4, 5] [2, 1, 3, 0] [4, 5]
    have LC : Lo G H' C' := L7.sub (List.sublist_append_left _ _)
    have up : Same Hs (plus Hs C') := LC.pSame s
    have up2 : Same (inC C') (plus Hs C') := plus_le (fun _ _ e => by cases e) fun a o h => LC.pGc h
    have al' := kv_of rm'
    rw [e7] at al'
    exact k (.ref f) H' C' _ _ L7 ⟨x, dx, xn, dxn, p, d, _, rfl, rfl, up _ _ h1, Enc.mo h2 up, al'⟩ (Ow.of (tr3_al (tr.same up2)))
section
variable {C CN : Addr} {os : List (List Int)} {N : Nw} {t : Int} {absent : List Int} {ta : TE} {Γ Γb Γ1 : Env} {j : Nat}
theorem ev_phPass (e : Γ[j]? = some (some (PhO C CN os N t))) (b : Brw Γ Γb) (ha : Ev ta Γb Γ1 (Fz absent)) (O : OrdG os) (hn : os.length ≤ 40) (W : ∃ K, WInv os N K) (hA : AbsOk os.length absent) : Ev (tMeth C "pass_round" (sp_Phones_pass_round C CN) [] E0 (tVar j) (tCons ta tNil)) Γ (Γ.set j (some (PhO C CN os (passM os absent absent N).2 (t + 1)))) (Ow (passM os absent absent N).1) :=
  ev_methM (i := (((os, N, t), absent) : PhK)) e (ins_phO (by decide +kernel) (by decide +kernel) (by decide +kernel)) nl_ph b (ea_1 ha) (.so fr_fz .nil) (fun B hB => by rw [List.mem_singleton.mp hB]; exact lso_fz) ⟨O, hn, W, hA⟩
end
end Cc

namespace Cc
open PySem L2
local macro_rules | `(tactic| decreasing_trivial) => `(tactic| first | (with_reducible exact ev_int) | (with_reducible exact ev_bl) | ((with_reducible apply ev_var) <;> rfl) | (with_reducible exact ea_nil) | (with_reducible exact Es.nil) | (with_reducible exact Kp.nil) | (with_reducible apply ev_non) | ((with_reducible apply ev_add) <;> decreasing_trivial) | ((with_reducible apply ev_sub) <;> decreasing_trivial) | ((with_reducible apply ev_mod) <;> decreasing_trivial) | ((with_reducible apply ev_div) <;> decreasing_trivial) | ((with_reducible apply ev_mul) <;> decreasing_trivial) | ((with_reducible apply ev_pow) <;> decreasing_trivial) | ((with_reducible apply ev_lt) <;> decreasing_trivial) | ((with_reducible apply ev_le) <;> decreasing_trivial) | ((with_reducible apply ev_gt) <;> decreasing_trivial) | ((with_reducible apply ev_ge) <;> decreasing_trivial) | ((with_reducible apply ev_eqS) <;> decreasing_trivial) | ((with_reducible apply ev_neS) <;> decreasing_trivial) | ((with_reducible apply ev_isB) <;> decreasing_trivial) | ((with_reducible apply ev_notB) <;> decreasing_trivial) | ((with_reducible apply ev_neg) <;> decreasing_trivial) | ((with_reducible apply ev_not) <;> decreasing_trivial) | ((with_reducible apply ev_len) <;> decreasing_trivial) | ((with_reducible apply ev_sum) <;> decreasing_trivial) | ((with_reducible apply ev_ixD) <;> decreasing_trivial) | ((with_reducible apply ev_ixT0) <;> decreasing_trivial) | ((with_reducible apply ev_ixT1) <;> decreasing_trivial) | ((with_reducible apply ev_ixT2) <;> decreasing_trivial) | ((with_reducible apply ev_ixP0) <;> decreasing_trivial) | ((with_reducible apply ev_ixP1) <;> decreasing_trivial) | ((with_reducible apply ev_ixDT) <;> decreasing_trivial) | ((with_reducible apply ev_fr; with_reducible apply ev_cat) <;> decreasing_trivial) | ((with_reducible apply ev_fr; with_reducible apply ev_list) <;> decreasing_trivial) | ((with_reducible apply ev_fr; with_reducible apply ev_sorted) <;> decreasing_trivial) | ((with_reducible apply ev_fr; with_reducible apply ev_slH) <;> decreasing_trivial) | ((with_reducible apply ev_fr; with_reducible apply ev_slL) <;> decreasing_trivial) | ((with_reducible apply ev_fr; with_reducible apply ev_rev) <;> decreasing_trivial) | (with_reducible apply ev_fr; with_reducible exact ev_nil) | ((with_reducible apply ev_fr; with_reducible apply ev_ls) <;> decreasing_trivial) | ((with_reducible apply Es.cons) <;> decreasing_trivial) | ((with_reducible apply ev_in) <;> decreasing_trivial) | ((with_reducible apply ev_notin) <;> decreasing_trivial) | ((with_reducible apply ev_max2) <;> decreasing_trivial) | ((with_reducible apply ev_min2) <;> decreasing_trivial) | ((with_reducible apply ev_eqD) <;> decreasing_trivial) | ((with_reducible apply ev_neD) <;> decreasing_trivial) | ((with_reducible apply ev_all) <;> decreasing_trivial) | ((with_reducible apply ev_any) <;> decreasing_trivial) | ((with_reducible apply ev_fr; with_reducible apply ev_rg1) <;> decreasing_trivial) | ((with_reducible apply ev_fr; with_reducible apply ev_rg2) <;> decreasing_trivial) | ((with_reducible apply ev_p2) <;> decreasing_trivial) | ((with_reducible apply ev_t3) <;> decreasing_trivial) | ((with_reducible apply ev_tp) <;> decreasing_trivial) | ((with_reducible apply et_tt) <;> decreasing_trivial) | ((with_reducible apply et_b) <;> decreasing_trivial) | ((with_reducible apply et_not) <;> decreasing_trivial) | ((with_reducible apply et_or) <;> decreasing_trivial) | ((with_reducible apply et_and) <;> decreasing_trivial) | ((with_reducible apply ev_andV) <;> decreasing_trivial) | ((with_reducible apply ev_orV) <;> decreasing_trivial) | ((with_reducible apply ev_chLL) <;> decreasing_trivial) | ((with_reducible apply ev_chll) <;> decreasing_trivial) | ((with_reducible apply is_list) <;> decreasing_trivial) | ((with_reducible apply is_tup) <;> decreasing_trivial) | ((with_reducible apply is_rng1) <;> decreasing_trivial) | ((with_reducible apply is_rng2) <;> decreasing_trivial) | ((with_reducible apply is_enum) <;> decreasing_trivial) | ((with_reducible apply is_zip) <;> decreasing_trivial) | ((with_reducible apply ea_1) <;> decreasing_trivial) | ((with_reducible apply ea_2) <;> decreasing_trivial) | ((with_reducible apply ea_3) <;> decreasing_trivial) | ((with_reducible apply ev_dg) <;> decreasing_trivial) | ((with_reducible apply ev_dg1) <;> decreasing_trivial) | ((with_reducible apply ev_fr; with_reducible apply ev_listD) <;> decreasing_trivial) | ((with_reducible apply ev_isi) <;> decreasing_trivial) | ((with_reducible apply ev_whole) <;> decreasing_trivial) | ((with_reducible apply ev_betw) <;> decreasing_trivial) | ((with_reducible apply ev_num) <;> decreasing_trivial) | ((with_reducible apply Kp.so fr_fz) <;> decreasing_trivial) | ((with_reducible apply Kp.no) <;> decreasing_trivial) | (intro (_ : (_ : Bool) = _); decreasing_trivial) | (infer_instance) | (rfl) | (omega) | (decide) | (simp; done) | (skip))
/-! _law_told: whether phones tell what is so -/
instance {α : Type} [DecidableEq α] [Enc α] [EncD α] [EncQ α] : EncQ (Option (List α)) := ⟨fun a b => by
  cases a with
  | none => cases b with
    | none => rfl
    | some b => show PyData.eqv .none (.list _) = _; simp [PyData.eqv]
  | some a => cases b with
    | none => show PyData.eqv (.list _) .none = _; simp [PyData.eqv]
    | some b =>
      show PyData.eqv (EncD.dat a) (EncD.dat b) = _
      rw [EncQ.eqv]
      simp⟩
def RowsB (N : Nw) : Prop := ∀ p r, gVal N p = some r → r.length ≤ 1000
theorem WInv.rowsB {os : List (List Int)} {N : Nw} {K : List Int} (O : OrdG os) (hn : os.length ≤ 1000) (W : WInv os N K) : RowsB N := fun p r h => by
  cases r with
  | nil => simp
  | cons n rest => have := (W.next O h).2.2; omega
def sp__law_toldP (C CN : Addr) : Sp := spG (fun i : PhJ => i.2.1.length ≤ 1000 ∧ i.1.length ≤ 1000 ∧ RowsB i.2.1) (fun i => [PhS C CN i.1 i.2.1 i.2.2, Fz (Dc.mk i.2.1), Fz (i.1.length : Int), Fz i.2.2]) (fun _ => Fz true)
def t__law_toldP (K : PySem.W.Frag) (C_Phones C_News : Addr) : TS :=
(tSeq (tFor (iRng1 (tCons (tC (.int 2)) tNil)) (gName 4)
    (tSeq (tAsg (tMeth C_Phones "knowing" (sp_Phones_knowing C_Phones C_News) [] E0 (tVar 0) tNil) (gName 5))
      (tSeq (tIfS (tOr (tTest (tOp (rNeD K) (tVar 5) (tCB (rSortedI K) (tCons (tCB qListD (tCons (tVar 1) tNil)) tNil)))) (tTest (tOp rNe (tMeth C_Phones "gone" (sp_Phones_gone C_Phones C_News) [] E0 (tVar 0) tNil) (tVar 3))))
      (tRet (tC (.bl false)))
      tNext)
      (tSeq (tDrop (tBM K "list" rAppend (tVar 5) (tCons (tC (.int 0)) tNil)))
      (tFor (iRng1 (tCons (tVar 2) tNil)) (gName 6)
      (tSeq (tAsg (tMeth C_Phones "row" (sp_Phones_row C_Phones C_News) [] E0 (tVar 0) (tCons (tVar 6) tNil)) (gName 7))
        (tSeq (tIfS (tTest (tOp (rNeD K) (tVar 7) (tDGet1 (tVar 1) (tVar 6))))
        (tRet (tC (.bl false)))
        tNext)
        (tIfS (tTest (tOp qNotN (tVar 7) (tC .non)))
        (tDrop (tBM K "list" rAppend (tVar 7) (tCons (tC (.int 0)) tNil)))
        tNext))))))))
    (tRet (tAndV (tOp rEq (tMeth C_Phones "is_done" (sp_Phones_is_done C_Phones C_News) [] E0 (tVar 0) tNil) (tCB (rAll K) (tCons (tLockE (tLc (iKeys (tVar 1)) (gName 6) tYes (tOp (rEqD K) (tDGet (tVar 1) (tVar 6)) (tLst tNil)) [6])) tNil))) (tCB (rIsi K) (tCons (tMeth C_Phones "is_done" (sp_Phones_is_done C_Phones C_News) [] E0 (tVar 0) tNil) (tCons (tC (.ty "bool")) tNil))))))
theorem v__law_toldP {K : PySem.W.Frag} {C CN : Addr} {vs : List V} {H : Hp} {Q : VK} {E : XK} (h : sp__law_toldP C CN vs H Q E) : t__law_toldP K C CN (fin Q) (st0 8 vs) H := by
  refine v_of (n := 8) (fun ⟨os, N, t⟩ ⟨hN, hn, hR⟩ => ?_) h
  have hN : N.length ≤ 1000 := hN
  have hn : os.length ≤ 1000 := hn
  have hR : RowsB N := hR
  have kb : kitB "bool" "bool" = some true := by decide +kernel
  show Wp (t__law_toldP K C CN) [some (PhS C CN os N t), some (Fz (Dc.mk N)), some (Fz (os.length : Int)), some (Fz t), none, none, none, none] (Rt (Fz true))
  have sv : ∀ {y1 y2 y3 y4 y5 y6 y7 : Option As}, Ev (tVar 0) [some (PhS C CN os N t), y1, y2, y3, y4, y5, y6, y7] [some (PhS C CN os N t), y1, y2, y3, y4, y5, y6, y7] (PhS C CN os N t) := ev_same rfl fr_ph
  refine wp_seq (wp_for (xs := rangeI 0 2) (by decreasing_trivial) bd_n (fun _ Γ => ∃ x4 x5 x6 x7, Γ = [some (PhS C CN os N t), some (Fz (Dc.mk N)), some (Fz (os.length : Int)), some (Fz t), x4, x5, x6, x7]) (by exact ⟨_, _, _, _, rfl⟩) ?_ ?_)
  · rintro k ag Γ hk ⟨x4, x5, x6, x7, rfl⟩
    refine wq_asgO (ev_phKnow sv) ?_
    have hsl : (sortI (N.map (·.1))).length = N.length := by rw [sortI_len, List.length_map]
    have brw : Brw [some (PhS C CN os N t), some (Fz (Dc.mk N)), some (Fz (os.length : Int)), some (Fz t), some (Fz ag), some (Ow (sortI (N.map (·.1)))), x6, x7] [some (PhS C CN os N t), some (Fz (Dc.mk N)), none, some (Fz t), none, some (Fz (sortI (N.map (·.1)))), none, none] := .so cv_phS (.so cv_fz (.no _ (.so cv_fz (.no _ (.so cv_ow (.no _ (.no _ .nil)))))))
    refine wq_no (et_brw brw (et_or (et_tt (ev_neM (ev_var rfl) (ev_fr (ev_sorted (ev_fr (ev_listD (ev_var rfl))))))) fun _ => et_tt (ev_neI (ev_phGone sv) (ev_var rfl)))) (by simp) ?_
    refine wp_seq (wp_appF (xs := sortI (N.map (·.1))) rfl ev_int rfl (by omega) ?_)
    refine wp_for (xs := rangeI 0 os.length) (by decreasing_trivial) bd_n (fun _ Γ => ∃ x5 x6 x7, Γ = [some (PhS C CN os N t), some (Fz (Dc.mk N)), some (Fz (os.length : Int)), some (Fz t), some (Fz ag), x5, x6, x7]) (by exact ⟨_, _, _, rfl⟩) ?_ ?_
    · rintro k2 p Γ hk2 ⟨y5, y6, y7, rfl⟩
      have hp := rangeI_mem.mp (List.mem_of_getElem? hk2)
      refine wq_asgO (ev_phRow sv (ev_var rfl) ⟨by omega, by omega⟩) ?_
      have brw2 : Brw [some (PhS C CN os N t), some (Fz (Dc.mk N)), some (Fz (os.length : Int)), some (Fz t), some (Fz ag), y5, some (Fz p), some (OwO (gVal N p))] [none, some (Fz (Dc.mk N)), none, none, none, none, some (Fz p), some (Fz (gVal N p))] := .no _ (.so cv_fz (.no _ (.no _ (.no _ (.no _ (.so cv_fz (.so cv_owO .nil)))))))
      refine wq_no (et_brw brw2 (et_tt (ev_neM (ev_var rfl) (ev_dg1 (ev_var rfl) (ev_var rfl))))) (by simp) ?_
      refine wp_if (et_brw brw2 (et_tt (ev_notN nn_list (ev_var rfl)))) (fun hb => ?_) (fun hb => wp_next ⟨_, _, _, rfl⟩)
      cases hg : gVal N p with
      | none => rw [hg] at hb; cases hb
      | some r =>
        exact wp_appF (xs := r) rfl ev_int rfl (by have := hR p r hg; omega) ⟨_, _, _, rfl⟩
    · rintro Γ ⟨y5, y6, y7, rfl⟩
      exact ⟨_, _, _, _, rfl⟩
  · rintro Γ ⟨x4, x5, x6, x7, rfl⟩
    have hall : Ev (tCB (rAll K) (tCons (tLockE (tLc (iKeys (tVar 1)) (gName 6) tYes (tOp (rEqD K) (tDGet (tVar 1) (tVar 6)) (tLst tNil)) [6])) tNil)) [some (PhS C CN os N t), some (Fz (Dc.mk N)), some (Fz (os.length : Int)), some (Fz t), x4, x5, x6, x7] [some (PhS C CN os N t), some (Fz (Dc.mk N)), some (Fz (os.length : Int)), some (Fz t), x4, x5, x6, x7] (Fz (decide (callersM N = []))) := by
      rw [← all_rows]
      refine ev_all (ev_fr (ev_lockF (i := 1) rfl tpo_ow fun od => ⟨[none, some (Fz (Dz.mk od N)), none, none, none, none, none, none], ev_map (Γ := [none, some (Fz (Dz.mk od N)), none, none, none, none, none, none]) (fun k => decide (rowAt N k = [])) (is_keys (ev_var rfl)) (by decreasing_trivial) bd_n (by simp; omega) fun c hc => ⟨_, ev_eqM (ev_dgZ (ev_var rfl) (ev_var rfl) (gVal_rowAt hc)) (ev_fr ev_nil)⟩⟩))
    refine wp_ret (ev_andV (ev_eqB (ev_phDone sv (by omega)) hall) fun _ => ev_isM (ev_phDone sv (by omega)) kb) ?_
    rw [decide_eq_true rfl]
    rfl
section
variable {C CN : Addr} {os : List (List Int)} {N : Nw} {t : Int} {ta tb tc td : TE} {Γ Γ1 Γ2 Γ3 Γ4 : Env}
theorem ev_toldP (h1 : Ev ta Γ Γ1 (PhS C CN os N t)) (h2 : Ev tb Γ1 Γ2 (Fz (Dc.mk N))) (h3 : Ev tc Γ2 Γ3 (Fz (os.length : Int))) (h4 : Ev td Γ3 Γ4 (Fz t)) (hN : N.length ≤ 1000) (hn : os.length ≤ 1000) (hR : RowsB N) : Ev (tCall (sp__law_toldP C CN) [] E0 (tCons ta (tCons tb (tCons tc (tCons td tNil))))) Γ Γ4 (Fz true) :=
  ev_call (i := ((os, N, t) : PhJ)) (ea_cons h1 (ea_3 h2 h3 h4)) ⟨hN, hn, hR⟩ (.so fr_ph (.so fr_fz (.so fr_fz (.so fr_fz .nil))))
end
end Cc

namespace Cc
open PySem L2
local macro_rules | `(tactic| decreasing_trivial) => `(tactic| first | (with_reducible exact ev_int) | (with_reducible exact ev_bl) | ((with_reducible apply ev_var) <;> rfl) | (with_reducible exact ea_nil) | (with_reducible exact Es.nil) | (with_reducible exact Kp.nil) | (with_reducible apply ev_non) | ((with_reducible apply ev_add) <;> decreasing_trivial) | ((with_reducible apply ev_sub) <;> decreasing_trivial) | ((with_reducible apply ev_mod) <;> decreasing_trivial) | ((with_reducible apply ev_div) <;> decreasing_trivial) | ((with_reducible apply ev_mul) <;> decreasing_trivial) | ((with_reducible apply ev_pow) <;> decreasing_trivial) | ((with_reducible apply ev_lt) <;> decreasing_trivial) | ((with_reducible apply ev_le) <;> decreasing_trivial) | ((with_reducible apply ev_gt) <;> decreasing_trivial) | ((with_reducible apply ev_ge) <;> decreasing_trivial) | ((with_reducible apply ev_eqS) <;> decreasing_trivial) | ((with_reducible apply ev_neS) <;> decreasing_trivial) | ((with_reducible apply ev_isB) <;> decreasing_trivial) | ((with_reducible apply ev_notB) <;> decreasing_trivial) | ((with_reducible apply ev_neg) <;> decreasing_trivial) | ((with_reducible apply ev_not) <;> decreasing_trivial) | ((with_reducible apply ev_len) <;> decreasing_trivial) | ((with_reducible apply ev_sum) <;> decreasing_trivial) | ((with_reducible apply ev_ixD) <;> decreasing_trivial) | ((with_reducible apply ev_ixT0) <;> decreasing_trivial) | ((with_reducible apply ev_ixT1) <;> decreasing_trivial) | ((with_reducible apply ev_ixT2) <;> decreasing_trivial) | ((with_reducible apply ev_ixP0) <;> decreasing_trivial) | ((with_reducible apply ev_ixP1) <;> decreasing_trivial) | ((with_reducible apply ev_ixDT) <;> decreasing_trivial) | ((with_reducible apply ev_fr; with_reducible apply ev_cat) <;> decreasing_trivial) | ((with_reducible apply ev_fr; with_reducible apply ev_list) <;> decreasing_trivial) | ((with_reducible apply ev_fr; with_reducible apply ev_sorted) <;> decreasing_trivial) | ((with_reducible apply ev_fr; with_reducible apply ev_slH) <;> decreasing_trivial) | ((with_reducible apply ev_fr; with_reducible apply ev_slL) <;> decreasing_trivial) | ((with_reducible apply ev_fr; with_reducible apply ev_rev) <;> decreasing_trivial) | (with_reducible apply ev_fr; with_reducible exact ev_nil) | ((with_reducible apply ev_fr; with_reducible apply ev_ls) <;> decreasing_trivial) | ((with_reducible apply Es.cons) <;> decreasing_trivial) | ((with_reducible apply ev_in) <;> decreasing_trivial) | ((with_reducible apply ev_notin) <;> decreasing_trivial) | ((with_reducible apply ev_max2) <;> decreasing_trivial) | ((with_reducible apply ev_min2) <;> decreasing_trivial) | ((with_reducible apply ev_eqD) <;> decreasing_trivial) | ((with_reducible apply ev_neD) <;> decreasing_trivial) | ((with_reducible apply ev_all) <;> decreasing_trivial) | ((with_reducible apply ev_any) <;> decreasing_trivial) | ((with_reducible apply ev_fr; with_reducible apply ev_rg1) <;> decreasing_trivial) | ((with_reducible apply ev_fr; with_reducible apply ev_rg2) <;> decreasing_trivial) | ((with_reducible apply ev_p2) <;> decreasing_trivial) | ((with_reducible apply ev_t3) <;> decreasing_trivial) | ((with_reducible apply ev_tp) <;> decreasing_trivial) | ((with_reducible apply et_tt) <;> decreasing_trivial) | ((with_reducible apply et_b) <;> decreasing_trivial) | ((with_reducible apply et_not) <;> decreasing_trivial) | ((with_reducible apply et_or) <;> decreasing_trivial) | ((with_reducible apply et_and) <;> decreasing_trivial) | ((with_reducible apply ev_andV) <;> decreasing_trivial) | ((with_reducible apply ev_orV) <;> decreasing_trivial) | ((with_reducible apply ev_chLL) <;> decreasing_trivial) | ((with_reducible apply ev_chll) <;> decreasing_trivial) | ((with_reducible apply is_list) <;> decreasing_trivial) | ((with_reducible apply is_tup) <;> decreasing_trivial) | ((with_reducible apply is_rng1) <;> decreasing_trivial) | ((with_reducible apply is_rng2) <;> decreasing_trivial) | ((with_reducible apply is_enum) <;> decreasing_trivial) | ((with_reducible apply is_zip) <;> decreasing_trivial) | ((with_reducible apply ea_1) <;> decreasing_trivial) | ((with_reducible apply ea_2) <;> decreasing_trivial) | ((with_reducible apply ea_3) <;> decreasing_trivial) | ((with_reducible apply ev_dg) <;> decreasing_trivial) | ((with_reducible apply ev_dg1) <;> decreasing_trivial) | ((with_reducible apply ev_fr; with_reducible apply ev_listD) <;> decreasing_trivial) | ((with_reducible apply ev_isi) <;> decreasing_trivial) | ((with_reducible apply ev_whole) <;> decreasing_trivial) | ((with_reducible apply ev_betw) <;> decreasing_trivial) | ((with_reducible apply ev_num) <;> decreasing_trivial) | ((with_reducible apply Kp.so fr_fz) <;> decreasing_trivial) | ((with_reducible apply Kp.no) <;> decreasing_trivial) | (intro (_ : (_ : Bool) = _); decreasing_trivial) | (infer_instance) | (rfl) | (omega) | (decide) | (simp; done) | (skip))
/-! lists of things of several sorts, compared -/
theorem et_orF {tt tu : TT} {Γ Γ1 Γ2 : Env} {c : Bool} (h : Et tt Γ Γ1 false) (h' : Et tu Γ1 Γ2 c) : Et (tOr tt tu) Γ Γ2 c := fun Hs G σ H F X Cs I Q q => h Hs G σ H F X Cs I _ fun H1 F1 Cs1 I1 => iteF (h' Hs G σ H1 _ _ _ I1 _ fun H2 F2 Cs2 I2 => q _ _ _ I2.asc)
theorem fr_D {d : PyData} : Fr (FzD d) := fun _ _ _ h => h.1
theorem eqv_dat {α : Type} [DecidableEq α] [Enc α] [EncD α] [EncQ α] (a : α) : PyData.eqv (EncD.dat a) (EncD.dat a) = true := by rw [EncQ.eqv]; simp
inductive EqL : List PyData → List PyData → Prop
  | nil : EqL [] []
  | cons {d e : PyData} {ds es : List PyData} : PyData.eqv d e = true → EqL ds es → EqL (d :: ds) (e :: es)
theorem EqL.all {ds es : List PyData} (h : EqL ds es) : PyData.eqvAll ds es = true := by
  induction h with
  | nil => simp [PyData.eqvAll]
  | cons r _ ih => simp [PyData.eqvAll, r, ih]
theorem EqL.list {ds es : List PyData} (h : EqL ds es) : PyData.eqv (.list ds) (.list es) = true := by
  have := h.all
  simpa [PyData.eqv] using this
inductive ShL (n : Nat) : List PyData → Prop
  | nil : ShL n []
  | cons {d : PyData} {ds : List PyData} {m : Nat} : Shp d m → m ≤ n → ShL n ds → ShL n (d :: ds)
theorem ShL.list {n : Nat} {ds : List PyData} (h : ShL n ds) : Shp (.list ds) (n + 1) := shp_list (by
  induction h with
  | nil => exact fun d hd => nomatch hd
  | cons r hm _ ih =>
    intro d hd
    rcases List.mem_cons.mp hd with rfl | hd
    · exact shp_up r hm
    · exact ih d hd)
/-! _law_two_right -/
theorem pass_inv {os : List (List Int)} {absent silent : List Int} {N : Nw} (O : OrdG os) (hl : os.length ≤ 1000) (W : ∃ K, WInv os N K) : ∃ K, WInv os (passM os absent silent N).2 K := by
  obtain ⟨K, W⟩ := W
  exact ⟨_, (pass_ok O hl W silent).inv⟩
def sp__law_two_right : Sp := spG (fun _ : Unit => True) (fun _ => []) (fun _ => Fz true)
def t__law_two_right (K : PySem.W.Frag) (C_Phones C_News : Addr) : TS :=
(tSeq (tAsg (tLst (tCons (tLst (tCons (tC (.int 1)) (tCons (tC (.int 2)) tNil))) (tCons (tLst (tCons (tC (.int 3)) tNil)) (tCons (tLst tNil) (tCons (tLst tNil) tNil))))) (gName 0))
    (tSeq (tPar 1 2 (tCons (tMake C_Phones (sp_Phones___init__ C_Phones C_News) [] E0 (tCons (tVar 0) tNil)) (tCons (tMake C_Phones (sp_Phones___init__ C_Phones C_News) [] E0 (tCons (tVar 0) tNil)) tNil)))
    (tSeq (tAsg (tLst (tCons (tMeth C_Phones "pass_round" (sp_Phones_pass_round C_Phones C_News) [] E0 (tVar 1) (tCons (tLst (tCons (tC (.int 2)) tNil)) tNil)) (tCons (tMeth C_Phones "pass_round" (sp_Phones_pass_round C_Phones C_News) [] E0 (tVar 1) (tCons (tLst (tCons (tC (.int 1)) (tCons (tC (.int 2)) tNil))) tNil)) (tCons (tMeth C_Phones "is_done" (sp_Phones_is_done C_Phones C_News) [] E0 (tVar 1) tNil) (tCons (tMeth C_Phones "row" (sp_Phones_row C_Phones C_News) [] E0 (tVar 1) (tCons (tC (.int 1)) tNil)) (tCons (tMeth C_Phones "pass_round" (sp_Phones_pass_round C_Phones C_News) [] E0 (tVar 1) (tCons (tLst tNil) tNil)) tNil)))))) (gName 3))
    (tSeq (tIfS (tTest (tOp (rNeD K) (tVar 3) (tLst (tCons (tLst (tCons (tTup (tCons (tC (.int 0)) (tCons (tC (.int 1)) (tCons (tC (.bl true)) tNil)))) tNil)) (tCons (tLst (tCons (tTup (tCons (tC (.int 0)) (tCons (tC (.int 2)) (tCons (tC (.bl false)) tNil)))) tNil)) (tCons (tC (.bl false)) (tCons (tLst (tCons (tC (.int 3)) tNil)) (tCons (tLst (tCons (tTup (tCons (tC (.int 1)) (tCons (tC (.int 3)) (tCons (tC (.bl true)) tNil)))) tNil)) tNil))))))))
    (tRet (tC (.bl false)))
    tNext)
    (tSeq (tIfS (tOr (tTest (tOp rNe (tMeth C_Phones "gone" (sp_Phones_gone C_Phones C_News) [] E0 (tVar 2) tNil) (tC (.int 0)))) (tOr (tTest (tOp (rNeD K) (tMeth C_Phones "knowing" (sp_Phones_knowing C_Phones C_News) [] E0 (tVar 2) tNil) (tLst (tCons (tC (.int 0)) tNil)))) (tOr (tTest (tOp (rNeD K) (tMeth C_Phones "row" (sp_Phones_row C_Phones C_News) [] E0 (tVar 2) (tCons (tC (.int 0)) tNil)) (tLst (tCons (tC (.int 1)) (tCons (tC (.int 2)) tNil))))) (tTest (tOp (rNeD K) (tVar 0) (tLst (tCons (tLst (tCons (tC (.int 1)) (tCons (tC (.int 2)) tNil))) (tCons (tLst (tCons (tC (.int 3)) tNil)) (tCons (tLst tNil) (tCons (tLst tNil) tNil))))))))))
    (tRet (tC (.bl false)))
    tNext)
    (tSeq (tIfS (tOr (tTest (tOp (rNeD K) (tMeth C_Phones "pass_round" (sp_Phones_pass_round C_Phones C_News) [] E0 (tVar 2) (tCons (tLst tNil) tNil)) (tLst (tCons (tTup (tCons (tC (.int 0)) (tCons (tC (.int 1)) (tCons (tC (.bl true)) tNil)))) tNil)))) (tTest (tOp (rNeD K) (tMeth C_Phones "pass_round" (sp_Phones_pass_round C_Phones C_News) [] E0 (tVar 2) (tCons (tLst (tCons (tC (.int 3)) tNil)) tNil)) (tLst (tCons (tTup (tCons (tC (.int 0)) (tCons (tC (.int 2)) (tCons (tC (.bl true)) tNil)))) (tCons (tTup (tCons (tC (.int 1)) (tCons (tC (.int 3)) (tCons (tC (.bl false)) tNil)))) tNil))))))
    (tRet (tC (.bl false)))
    tNext)
    (tRet (tAndV (tOp rIsB (tMeth C_Phones "is_done" (sp_Phones_is_done C_Phones C_News) [] E0 (tVar 1) tNil) (tC (.bl true))) (tAndV (tOp qIsN (tMeth C_Phones "row" (sp_Phones_row C_Phones C_News) [] E0 (tVar 1) (tCons (tC (.int 2)) tNil)) (tC .non)) (tAndV (tOp (rEqD K) (tMeth C_Phones "knowing" (sp_Phones_knowing C_Phones C_News) [] E0 (tVar 1) tNil) (tLst (tCons (tC (.int 0)) (tCons (tC (.int 1)) (tCons (tC (.int 3)) tNil))))) (tOp rEq (tMeth C_Phones "gone" (sp_Phones_gone C_Phones C_News) [] E0 (tVar 1) tNil) (tC (.int 3)))))))))))))
theorem v__law_two_right {K : PySem.W.Frag} {C CN : Addr} {vs : List V} {H : Hp} {Q : VK} {E : XK} (h : sp__law_two_right vs H Q E) : t__law_two_right K C CN (fin Q) (st0 4 vs) H := by
  refine v_of (n := 4) (fun _ _ => ?_) h
  show Wp (t__law_two_right K C CN) [none, none, none, none] (Rt (Fz true))
  have O : OrdG [[1, 2], [3], [], []] := ordG_of [0, 1, 1, 2] (by decide)
  have hn : ([[1, 2], [3], [], []] : List (List Int)).length ≤ 40 := by decide
  have hn2 : ([[1, 2], [3], [], []] : List (List Int)).length ≤ 1000 := by decide
  obtain ⟨os, hos⟩ : ∃ os : List (List Int), os = [[1, 2], [3], [], []] := ⟨_, rfl⟩
  have elit : ∀ {Γ : Env}, Ev (tLst (tCons (tLst (tCons (tC (.int 1)) (tCons (tC (.int 2)) tNil))) (tCons (tLst (tCons (tC (.int 3)) tNil)) (tCons (tLst tNil) (tCons (tLst tNil) tNil))))) Γ Γ (Fz os) := fun {Γ} => by
    rw [hos]
    exact ev_fr (ev_ls (.cons (ev_fr (ev_l2 ev_int ev_int)) (.cons (ev_fr (ev_l1 ev_int)) (.cons (ev_fr ev_nil) (.cons (ev_fr ev_nil) .nil)))) (by simp))
  have a1 : AbsOk os.length [2] := by rw [hos]; exact ⟨by simp, by simp⟩
  have a2 : AbsOk os.length [1, 2] := by rw [hos]; exact ⟨by simp, by simp⟩
  have a5 : AbsOk os.length [3] := by rw [hos]; exact ⟨by simp, by simp⟩
  have p0 : rowO os 0 = [1, 2] := by rw [hos]; rfl
  have p1 : passM os [2] [2] [(0, [1, 2])] = ([⟨0, 1, true⟩], [(0, [2]), (1, [3])]) := by rw [hos]; decide +kernel
  have p2 : passM os [1, 2] [1, 2] [(0, [2]), (1, [3])] = ([⟨0, 2, false⟩], [(0, []), (1, [3])]) := by rw [hos]; decide +kernel
  have p3 : passM os [] [] [(0, []), (1, [3])] = ([⟨1, 3, true⟩], [(0, []), (1, []), (3, [])]) := by rw [hos]; decide +kernel
  have p4 : passM os [] [] [(0, [1, 2])] = ([⟨0, 1, true⟩], [(0, [2]), (1, [3])]) := by rw [hos]; decide +kernel
  have p5 : passM os [3] [3] [(0, [2]), (1, [3])] = ([⟨0, 2, true⟩, ⟨1, 3, false⟩], [(0, []), (1, []), (2, [])]) := by rw [hos]; decide +kernel
  rw [← hos] at O hn hn2
  have hl4 : os.length = 4 := by rw [hos]; rfl
  have W0 : ∃ K, WInv os [(0, [1, 2])] K := by have := WInv.start O; rw [p0] at this; exact ⟨_, this⟩
  have W1 : ∃ K, WInv os [(0, [2]), (1, [3])] K := by have := pass_inv (absent := [2]) (silent := [2]) O hn2 W0; rwa [p1] at this
  have W2 : ∃ K, WInv os [(0, []), (1, [3])] K := by have := pass_inv (absent := [1, 2]) (silent := [1, 2]) O hn2 W1; rwa [p2] at this
  refine wq_asg elit ?_
  have em : ∀ {x1 x2 : Option As}, Ev (tMake C (sp_Phones___init__ C CN) [] E0 (tCons (tVar 0) tNil)) [some (Fz os), x1, x2, none] [some (Fz os), x1, x2, none] (PhO C CN os [(0, [1, 2])] 0) := fun {x1 x2} => by
    have := ev_mkPh (C := C) (CN := CN) (ta := tVar 0) (Γ := [some (Fz os), x1, x2, none]) (ev_var rfl) O hn
    rwa [p0] at this
  refine wq_parO em em ?_
  have b0 : ∀ (x0 x1 x2 x3 : Option As), Brw [x0, x1, x2, x3] [none, none, none, none] := fun _ _ _ _ => .no _ (.no _ (.no _ (.no _ .nil)))
  have q1 := ev_phPass (C := C) (CN := CN) (t := 0) (j := 1) (Γ := [some (Fz os), some (PhO C CN os [(0, [1, 2])] 0), some (PhO C CN os [(0, [1, 2])] 0), none]) (absent := [2]) (ta := tLst (tCons (tC (.int 2)) tNil)) rfl (b0 _ _ _ _) (ev_fr (ev_l1 ev_int)) O hn W0 a1
  have q2 := ev_phPass (C := C) (CN := CN) (t := 0 + 1) (j := 1) (Γ := [some (Fz os), some (PhO C CN os [(0, [2]), (1, [3])] (0 + 1)), some (PhO C CN os [(0, [1, 2])] 0), none]) (absent := [1, 2]) (ta := tLst (tCons (tC (.int 1)) (tCons (tC (.int 2)) tNil))) rfl (b0 _ _ _ _) (ev_fr (ev_l2 ev_int ev_int)) O hn W1 a2
  have q3 := ev_phPass (C := C) (CN := CN) (t := 0 + 1 + 1) (j := 1) (Γ := [some (Fz os), some (PhO C CN os [(0, []), (1, [3])] (0 + 1 + 1)), some (PhO C CN os [(0, [1, 2])] 0), none]) (absent := []) (ta := tLst tNil) rfl (b0 _ _ _ _) (ev_fr ev_nil) O hn W2 (absOk_nil _)
  rw [p1] at q1
  rw [p2] at q2
  rw [p3] at q3
  have brP : ∀ {N N' : Nw} {t t' : Int} {x0 x3 : Option As}, Brw [x0, some (PhO C CN os N t), some (PhO C CN os N' t'), x3] [none, some (PhS C CN os N t), some (PhS C CN os N' t'), none] := .no _ (.so cv_ph (.so cv_ph (.no _ .nil)))
  have sv1 : ∀ {N : Nw} {t : Int} {x0 x2 x3 : Option As}, Ev (tVar 1) [x0, some (PhS C CN os N t), x2, x3] [x0, some (PhS C CN os N t), x2, x3] (PhS C CN os N t) := ev_same rfl fr_ph
  have sv2 : ∀ {N : Nw} {t : Int} {x0 x1 x3 : Option As}, Ev (tVar 2) [x0, x1, some (PhS C CN os N t), x3] [x0, x1, some (PhS C CN os N t), x3] (PhS C CN os N t) := ev_same rfl fr_ph
  have d2 := ev_brw (brP (N := [(0, []), (1, [3])]) (t := 0 + 1 + 1) (N' := [(0, [1, 2])]) (t' := 0) (x0 := some (Fz os)) (x3 := none)) tpo_fz (ev_phDone (C := C) (CN := CN) sv1 (show ([(0, []), (1, [3])] : Nw).length ≤ 10000 by decide))
  have r2 := ev_brw (brP (N := [(0, []), (1, [3])]) (t := 0 + 1 + 1) (N' := [(0, [1, 2])]) (t' := 0) (x0 := some (Fz os)) (x3 := none)) tpo_owO (ev_phRow (C := C) (CN := CN) (p := 1) sv1 ev_int (by rw [hl4]; decide))
  rw [show decide (callersM [(0, []), (1, [3])] = []) = false from by decide +kernel] at d2
  rw [show gVal ([(0, []), (1, [3])] : Nw) 1 = some [3] from by decide +kernel] at r2
  refine wq_asgO (ev_lst (by simp) (ea_cons q1 (ea_cons q2 (ea_cons d2 (ea_2 r2 q3))))) ?_
  refine wp_std (i := 3) (A := OwL [Ow [TriN 0 1 true], Ow [TriN 0 2 false], Fz false, OwO (some [3]), Ow [TriN 1 3 true]]) (B := FzD (.list [EncD.dat [TriN 0 1 true], EncD.dat [TriN 0 2 false], EncD.dat false, EncD.dat [(3 : Int)], EncD.dat [TriN 1 3 true]])) rfl (cv_owlD (.cons cv_ow.dat (.cons cv_ow.dat (.cons cv_fzD (.cons cv_ow.dat (.cons cv_ow.dat .nil)))))) ?_
  refine wq_no (et_tt (ev_neDD (d := .list [EncD.dat [TriN 0 1 true], EncD.dat [TriN 0 2 false], EncD.dat false, EncD.dat [(3 : Int)], EncD.dat [TriN 1 3 true]]) (e := .list [EncD.dat [TriN 0 1 true], EncD.dat [TriN 0 2 false], EncD.dat false, EncD.dat [(3 : Int)], EncD.dat [TriN 1 3 true]]) (n := 4) (m := 4) (ev_same rfl fr_D) cv_D (ev_lst (Bs := [Ow [TriN 0 1 true], Ow [TriN 0 2 false], Fz false, Ow [(3 : Int)], Ow [TriN 1 3 true]]) (by simp) (ea_cons (ev_l1 (ev_t3 ev_int ev_int ev_bl)) (ea_cons (ev_l1 (ev_t3 ev_int ev_int ev_bl)) (ea_cons ev_bl (ea_2 (ev_l1 ev_int) (ev_l1 (ev_t3 ev_int ev_int ev_bl))))))) (cv_owlD (.cons cv_ow.dat (.cons cv_ow.dat (.cons cv_fzD (.cons cv_ow.dat (.cons cv_ow.dat .nil)))))) (ShL.list (n := 3) (.cons (EncD.sh _) (by decide) (.cons (EncD.sh _) (by decide) (.cons (EncD.sh _) (by decide) (.cons (EncD.sh _) (by decide) (.cons (EncD.sh _) (by decide) .nil)))))) (ShL.list (n := 3) (.cons (EncD.sh _) (by decide) (.cons (EncD.sh _) (by decide) (.cons (EncD.sh _) (by decide) (.cons (EncD.sh _) (by decide) (.cons (EncD.sh _) (by decide) .nil)))))))) (by
    rw [EqL.list (.cons (eqv_dat _) (.cons (eqv_dat _) (.cons (eqv_dat _) (.cons (eqv_dat _) (.cons (eqv_dat _) .nil)))))]; rfl) ?_
  generalize hD : FzD _ = D3
  show Wp _ [some (Fz os), some (PhO C CN os [(0, []), (1, []), (3, [])] (0 + 1 + 1 + 1)), some (PhO C CN os [(0, [1, 2])] 0), some D3] _
  have brQ : ∀ {N N' : Nw} {t t' : Int}, Brw [some (Fz os), some (PhO C CN os N t), some (PhO C CN os N' t'), some D3] [some (Fz os), some (PhS C CN os N t), some (PhS C CN os N' t'), none] := .so cv_fz (.so cv_ph (.so cv_ph (.no _ .nil)))
  refine wq_no (et_brw brQ (et_or (et_tt (ev_neI (ev_phGone sv2) ev_int)) fun _ => et_or (et_tt (ev_neM (ev_fr (ev_phKnow sv2)) (ev_fr (ev_l1 ev_int)))) fun _ => et_or (et_tt (ev_neM (ev_frz (ev_phRow (p := 0) sv2 ev_int (by rw [hl4]; decide)) cv_owO) (ev_some (ev_fr (ev_l2 ev_int ev_int))))) fun _ => et_tt (ev_neM (ev_var rfl) elit))) (by
    rw [show gVal ([(0, [1, 2])] : Nw) 0 = some [1, 2] from by decide +kernel, show sortI (([(0, [1, 2])] : Nw).map (·.1)) = [0] from by decide +kernel]
    simp) ?_
  have q4 := ev_phPass (C := C) (CN := CN) (t := 0) (j := 2) (Γ := [some (Fz os), some (PhO C CN os [(0, []), (1, []), (3, [])] (0 + 1 + 1 + 1)), some (PhO C CN os [(0, [1, 2])] 0), some D3]) (absent := []) (ta := tLst tNil) rfl (b0 _ _ _ _) (ev_fr ev_nil) O hn W0 (absOk_nil _)
  have q5 := ev_phPass (C := C) (CN := CN) (t := 0 + 1) (j := 2) (Γ := [some (Fz os), some (PhO C CN os [(0, []), (1, []), (3, [])] (0 + 1 + 1 + 1)), some (PhO C CN os [(0, [2]), (1, [3])] (0 + 1)), some D3]) (absent := [3]) (ta := tLst (tCons (tC (.int 3)) tNil)) rfl (b0 _ _ _ _) (ev_fr (ev_l1 ev_int)) O hn W1 a5
  rw [p4] at q4
  rw [p5] at q5
  refine wq_no (b := false) (et_orF (et_eq (et_tt (ev_neM (ev_fr q4) (ev_fr (ev_l1 (ev_t3 ev_int ev_int ev_bl))))) (by simp)) (et_eq (et_tt (ev_neM (ev_fr q5) (ev_fr (ev_l2 (ev_t3 ev_int ev_int ev_bl) (ev_t3 ev_int ev_int ev_bl))))) (by simp))) rfl ?_
  show Wp _ [some (Fz os), some (PhO C CN os [(0, []), (1, []), (3, [])] (0 + 1 + 1 + 1)), some (PhO C CN os [(0, []), (1, []), (2, [])] (0 + 1 + 1)), some D3] _
  refine wp_ret (ev_brw brQ tpo_fz (ev_andV (ev_isB (ev_phDone sv1 (by decide)) ev_bl) fun _ => ev_andV (ev_isN nn_list (ev_frz (ev_phRow (p := 2) sv1 ev_int (by rw [hl4]; decide)) cv_owO)) fun _ => ev_andV (ev_eqM (ev_fr (ev_phKnow sv1)) (ev_fr (ev_l3 ev_int ev_int ev_int))) fun _ => ev_eqI (ev_phGone sv1) ev_int)) ?_
  rw [show decide (callersM [(0, []), (1, []), (3, [])] = []) = true from by decide +kernel, show gVal ([(0, []), (1, []), (3, [])] : Nw) 2 = none from by decide +kernel, show sortI (([(0, []), (1, []), (3, [])] : Nw).map (·.1)) = [0, 1, 3] from by decide +kernel]
  rfl
theorem ev_two {Γ : Env} : Ev (tCall sp__law_two_right [] E0 tNil) Γ Γ (Fz true) := ev_call (i := ()) ea_nil trivial
end Cc

namespace Cc
open PySem L2
theorem spM_len {ι : Type} {ok : ι → Prop} {S0 S1 : ι → As} {Bs : ι → List As} {A : ι → As} {vs : List V} {H : Hp} {Q : VK} {E : XK} {n : Nat} (h : spM ok S0 S1 Bs A vs H Q E) (hn : ∀ i, (Bs i).length = n) : vs.length = n + 1 := by
  obtain ⟨i, Hs, G, v0, vs', C0, _, rfl, _, _, _, h, _⟩ := h
  rw [List.length_cons, h.lenV, hn]
end Cc

namespace Cc
open PySem L2
local macro_rules | `(tactic| decreasing_trivial) => `(tactic| first | (with_reducible exact ev_int) | (with_reducible exact ev_bl) | ((with_reducible apply ev_var) <;> rfl) | (with_reducible exact ea_nil) | (with_reducible exact Es.nil) | (with_reducible exact Kp.nil) | (with_reducible apply ev_non) | ((with_reducible apply ev_add) <;> decreasing_trivial) | ((with_reducible apply ev_sub) <;> decreasing_trivial) | ((with_reducible apply ev_mod) <;> decreasing_trivial) | ((with_reducible apply ev_div) <;> decreasing_trivial) | ((with_reducible apply ev_mul) <;> decreasing_trivial) | ((with_reducible apply ev_pow) <;> decreasing_trivial) | ((with_reducible apply ev_lt) <;> decreasing_trivial) | ((with_reducible apply ev_le) <;> decreasing_trivial) | ((with_reducible apply ev_gt) <;> decreasing_trivial) | ((with_reducible apply ev_ge) <;> decreasing_trivial) | ((with_reducible apply ev_eqS) <;> decreasing_trivial) | ((with_reducible apply ev_neS) <;> decreasing_trivial) | ((with_reducible apply ev_isB) <;> decreasing_trivial) | ((with_reducible apply ev_notB) <;> decreasing_trivial) | ((with_reducible apply ev_neg) <;> decreasing_trivial) | ((with_reducible apply ev_not) <;> decreasing_trivial) | ((with_reducible apply ev_len) <;> decreasing_trivial) | ((with_reducible apply ev_sum) <;> decreasing_trivial) | ((with_reducible apply ev_ixD) <;> decreasing_trivial) | ((with_reducible apply ev_ixT0) <;> decreasing_trivial) | ((with_reducible apply ev_ixT1) <;> decreasing_trivial) | ((with_reducible apply ev_ixT2) <;> decreasing_trivial) | ((with_reducible apply ev_ixP0) <;> decreasing_trivial) | ((with_reducible apply ev_ixP1) <;> decreasing_trivial) | ((with_reducible apply ev_ixDT) <;> decreasing_trivial) | ((with_reducible apply ev_fr; with_reducible apply ev_cat) <;> decreasing_trivial) | ((with_reducible apply ev_fr; with_reducible apply ev_list) <;> decreasing_trivial) | ((with_reducible apply ev_fr; with_reducible apply ev_sorted) <;> decreasing_trivial) | ((with_reducible apply ev_fr; with_reducible apply ev_slH) <;> decreasing_trivial) | ((with_reducible apply ev_fr; with_reducible apply ev_slL) <;> decreasing_trivial) | ((with_reducible apply ev_fr; with_reducible apply ev_rev) <;> decreasing_trivial) | (with_reducible apply ev_fr; with_reducible exact ev_nil) | ((with_reducible apply ev_fr; with_reducible apply ev_ls) <;> decreasing_trivial) | ((with_reducible apply Es.cons) <;> decreasing_trivial) | ((with_reducible apply ev_in) <;> decreasing_trivial) | ((with_reducible apply ev_notin) <;> decreasing_trivial) | ((with_reducible apply ev_max2) <;> decreasing_trivial) | ((with_reducible apply ev_min2) <;> decreasing_trivial) | ((with_reducible apply ev_eqD) <;> decreasing_trivial) | ((with_reducible apply ev_neD) <;> decreasing_trivial) | ((with_reducible apply ev_all) <;> decreasing_trivial) | ((with_reducible apply ev_any) <;> decreasing_trivial) | ((with_reducible apply ev_fr; with_reducible apply ev_rg1) <;> decreasing_trivial) | ((with_reducible apply ev_fr; with_reducible apply ev_rg2) <;> decreasing_trivial) | ((with_reducible apply ev_p2) <;> decreasing_trivial) | ((with_reducible apply ev_t3) <;> decreasing_trivial) | ((with_reducible apply ev_tp) <;> decreasing_trivial) | ((with_reducible apply et_tt) <;> decreasing_trivial) | ((with_reducible apply et_b) <;> decreasing_trivial) | ((with_reducible apply et_not) <;> decreasing_trivial) | ((with_reducible apply et_or) <;> decreasing_trivial) | ((with_reducible apply et_and) <;> decreasing_trivial) | ((with_reducible apply ev_andV) <;> decreasing_trivial) | ((with_reducible apply ev_orV) <;> decreasing_trivial) | ((with_reducible apply ev_chLL) <;> decreasing_trivial) | ((with_reducible apply ev_chll) <;> decreasing_trivial) | ((with_reducible apply is_list) <;> decreasing_trivial) | ((with_reducible apply is_tup) <;> decreasing_trivial) | ((with_reducible apply is_rng1) <;> decreasing_trivial) | ((with_reducible apply is_rng2) <;> decreasing_trivial) | ((with_reducible apply is_enum) <;> decreasing_trivial) | ((with_reducible apply is_zip) <;> decreasing_trivial) | ((with_reducible apply ea_1) <;> decreasing_trivial) | ((with_reducible apply ea_2) <;> decreasing_trivial) | ((with_reducible apply ea_3) <;> decreasing_trivial) | ((with_reducible apply ev_dg) <;> decreasing_trivial) | ((with_reducible apply ev_dg1) <;> decreasing_trivial) | ((with_reducible apply ev_fr; with_reducible apply ev_listD) <;> decreasing_trivial) | ((with_reducible apply ev_isi) <;> decreasing_trivial) | ((with_reducible apply ev_whole) <;> decreasing_trivial) | ((with_reducible apply ev_betw) <;> decreasing_trivial) | ((with_reducible apply ev_num) <;> decreasing_trivial) | ((with_reducible apply Kp.so fr_fz) <;> decreasing_trivial) | ((with_reducible apply Kp.no) <;> decreasing_trivial) | (intro (_ : (_ : Bool) = _); decreasing_trivial) | (infer_instance) | (rfl) | (omega) | (decide) | (simp; done) | (skip))
/-! law k10 -/
theorem filt_abs {n : Nat} (q : Int → Bool) : AbsOk n ((rangeI 1 n).filter q) := ⟨(rangeI_sorted 1 n).sublist List.filter_sublist, fun x hx => rangeI_mem.mp (List.mem_filter.mp hx).1⟩
def t_law_k10 (K : PySem.W.Frag) (C_Phones C_News : Addr) : TS :=
(tSeq (tAsg (tIf (tTest (tOp (rNeD K) (tVar 0) (tLst tNil))) (L2.tSl (rSlL K) (tVar 0) tNoPart (tPart (tC (.int 63)))) (tLst (tCons (tC (.int 5)) tNil))) (gName 1))
    (tSeq (tPar 2 3 (tCons (tCB (rSum K) (tCons (tVar 1) tNil)) (tCons (tCall (sp__law_orders K) [] E0 (tCons (tVar 0) (tCons (tC (.int 0)) (tCons (tIf (tTest (tOp rEq (tOp qMod (tCB (rSum K) (tCons (tVar 1) tNil)) (tC (.int 4))) (tC (.int 0)))) (tC (.int 40)) (tC (.int 12))) tNil)))) tNil)))
    (tSeq (tPar 5 6 (tCons (tLc (iList K (tVar 3)) (gName 4) tYes (tCB (qList K) (tCons (tVar 4) tNil)) [4]) (tCons (tCB (qLen K) (tCons (tVar 3) tNil)) tNil)))
    (tSeq (tPar3 7 8 9 (tCons (tMake C_Phones (sp_Phones___init__ C_Phones C_News) [] E0 (tCons (tVar 5) tNil)) (tCons tDNewK (tCons (tC (.int 0)) tNil))))
    (tSeq (sDPut (tVar 8) (tC (.int 0)) (tCB (qList K) (tCons (tOp (rIxL K) (tVar 3) (tC (.int 0))) tNil)))
    (tSeq (tFor (iList K (tVar 5)) (gName 4)
    (tDrop (tBM K "list" rAppend (tVar 4) (tCons (tC (.int 0)) tNil))))
    (tSeq (tIfS (tNot (tB (tCall (sp__law_toldP C_Phones C_News) [] E0 (tCons (tVar 7) (tCons (tVar 8) (tCons (tVar 6) (tCons (tC (.int 0)) tNil)))))))
    (tRet (tC (.bl false)))
    tNext)
    (tSeq (tFor (iRng1 (tCons (tCB qMin2 (tCons (tC (.int 40)) (tCons (tOp qMul (tC (.int 2)) (tVar 6)) tNil))) tNil)) (gName 10)
    (tSeq (tAsg (tOp qDiv (tCall sp__law_number [] E0 (tCons (tOp qAdd (tOp (rIxL K) (tVar 1) (tOp qMod (tVar 10) (tCB (qLen K) (tCons (tVar 1) tNil)))) (tOp qMul (tC (.int 5)) (tVar 10))) (tCons (tVar 10) (tCons (tVar 2) tNil)))) (tC (.int 3))) (gName 11))
      (tSeq (tAsg (tOp (rIxT K) (tTup (tCons (tC (.int 1)) (tCons (tC (.int 2)) (tCons (tC (.int 3)) (tCons (tC (.int 7)) tNil))))) (tOp qMod (tVar 11) (tC (.int 4)))) (gName 12))
      (tSeq (tAsg (tLc (iRng2 (tCons (tC (.int 1)) (tCons (tVar 6) tNil))) (gName 13) (tAnd (tTest (tOp qGt (tVar 12) (tC (.int 1)))) (tTest (tOp rEq (tOp qMod (tOp qAdd (tOp qDiv (tVar 11) (tC (.int 4))) (tOp qMul (tVar 13) (tVar 13))) (tVar 12)) (tC (.int 0))))) (tVar 13) [13]) (gName 14))
      (tSeq (tPar 15 9 (tCons (tCB (qList K) (tCons (tVar 14) tNil)) (tCons (tOp qAdd (tVar 9) (tC (.int 1))) tNil)))
      (tSeq (tPar 16 17 (tCons (tMeth C_Phones "pass_round" (sp_Phones_pass_round C_Phones C_News) [] E0 (tVar 7) (tCons (tVar 15) tNil)) (tCons (tCall sp__law_turn [] E0 (tCons (tVar 3) (tCons (tVar 8) (tCons (tVar 14) tNil)))) tNil)))
      (tSeq (tIfS (tOr (tTest (tOp (rNeD K) (tVar 16) (tVar 17))) (tOr (tTest (tOp (rNeD K) (tVar 15) (tVar 14))) (tNot (tB (tCB (rIsi K) (tCons (tVar 16) (tCons (tC (.ty "list")) tNil)))))))
      (tRet (tC (.bl false)))
      tNext)
      (tSeq (tDrop (tBM K "list" rAppend (tVar 16) (tCons (tTup tNil) tNil)))
      (tSeq (tDrop (tBM K "list" rAppend (tVar 15) (tCons (tC (.int 0)) tNil)))
      (tIfS (tAnd (tTest (tOp rEq (tOp qMod (tVar 10) (tC (.int 5))) (tOp qMod (tVar 2) (tC (.int 5))))) (tNot (tB (tCall (sp__law_toldP C_Phones C_News) [] E0 (tCons (tVar 7) (tCons (tVar 8) (tCons (tVar 6) (tCons (tVar 9) tNil))))))))
      (tRet (tC (.bl false)))
      tNext))))))))))
    (tSeq (tIfS (tNot (tB (tCall (sp__law_toldP C_Phones C_News) [] E0 (tCons (tVar 7) (tCons (tVar 8) (tCons (tVar 6) (tCons (tVar 9) tNil)))))))
    (tRet (tC (.bl false)))
    tNext)
    (tRet (tCall sp__law_two_right [] E0 tNil)))))))))))
theorem v_law_k10 {K : PySem.W.Frag} {C CN : Addr} {vs : List V} {H : Hp} {Q : VK} {E : XK} (h : sp_law K vs H Q E) : t_law_k10 K C CN (fin Q) (st0 18 vs) H := by
  refine v_lawOf (n := 18) (fun ns hns => ?_) h
  have kl : kitB "list" "list" = some true := by decide +kernel
  show Wp (t_law_k10 K C CN) [some (Sq K ns), none, none, none, none, none, none, none, none, none, none, none, none, none, none, none, none, none] (Rt (Fz true))
  refine wq_asg (ev_fr (ev_cells rfl)) ?_
  have hcl := cellsM_ne ns
  have hcl2 := cellsM_le ns
  generalize hce : cellsM ns = cells at hcl hcl2
  obtain ⟨mo, hmo1, hmo2⟩ : ∃ mo : Int, (mo = if cells.sum % 4 = 0 then 40 else 12) ∧ (0 < mo ∧ mo ≤ 40) := ⟨_, rfl, by split <;> omega⟩
  refine wq_parO (A := Fz cells.sum) (B := Fz (ordersM ns 0 mo)) (ev_sum (ev_var rfl)) (ev_fr2 (ev_orders (most := mo) rfl ev_int (ev_if (et_tt (ev_eqI (ev_mod (ev_sum (ev_var rfl)) ev_int (by decide)) ev_int)) (fun hb => by
      rw [hmo1, if_pos (of_decide_eq_true hb)]; exact ev_int) (fun hb => by
      rw [hmo1, if_neg (of_decide_eq_false hb)]; exact ev_int)) ⟨by omega, by omega, by omega, by omega⟩)) ?_
  have O := ordersM_ok ns 0 mo
  have hol := ordersM_le ns 0 (most := mo) (by omega)
  generalize ordersM ns 0 mo = os at O hol
  have hp := O.pos
  have hol : os.length ≤ 40 := by omega
  have hos : ∀ r ∈ os, r.length < 50000 := fun r hr => by
    have h1 := (List.sublist_flatten_of_mem hr).length_le
    have h2 := O.perm.length_eq
    rw [people_len] at h2
    rw [List.length_cons] at h2
    omega
  generalize hw : cells.sum = w
  have ecp : Ev (tLc (iList K (tVar 3)) (gName 4) tYes (tCB (qList K) (tCons (tVar 4) tNil)) [4]) [some (Sq K ns), some (Fz cells), some (Fz w), some (Fz os), none, none, none, none, none, none, none, none, none, none, none, none, none, none] [some (Sq K ns), some (Fz cells), some (Fz w), some (Fz os), none, none, none, none, none, none, none, none, none, none, none, none, none, none] (OwL (os.map Ow)) := by
    have := ev_mapO (xs := os) (te := tCB (qList K) (tCons (tVar 4) tNil)) (g := gName 4) (ws := [4]) (wi := iList K (tVar 3)) (Γ := [some (Sq K ns), some (Fz cells), some (Fz w), some (Fz os), none, none, none, none, none, none, none, none, none, none, none, none, none, none]) (fun r : List Int => r) (by decreasing_trivial) (by decreasing_trivial) bd_n (by omega) fun a ha => ⟨_, ev_list (ev_var rfl)⟩
    rwa [List.map_id'] at this
  refine wq_parO (A := OwL (os.map Ow)) (B := Fz (os.length : Int)) ecp (ev_len (ev_var rfl)) ?_
  have brH : Brw [some (Sq K ns), some (Fz cells), some (Fz w), some (Fz os), none, some (OwL (os.map Ow)), some (Fz (os.length : Int)), none, none, none, none, none, none, none, none, none, none, none] [none, none, none, none, none, some (Fz os), none, none, none, none, none, none, none, none, none, none, none, none] := .no _ (.no _ (.no _ (.no _ (.no _ (.so cv_ow2 (.no _ (.no _ (.no _ (.no _ (.no _ (.no _ (.no _ (.no _ (.no _ (.no _ (.no _ (.no _ .nil)))))))))))))))))
  refine wp_seq (wp_par3 (A := PhO C CN os [(0, rowO os 0)] 0) (B := OwD ([] : Nw)) (A3 := Fz (0 : Int)) (evN (evN_brw brH (ev_mkPhN (ev_var rfl) O hol))) ev_dnew ev_int ?_)
  have h00 : atI os 0 = some (rowO os 0) := atI_getD os 0 [] (by omega)
  refine wp_seq (wp_dput (a := rowO os 0) (k := 0) (ev_fr (ev_list (ev_ix (ev_var rfl) ev_int h00))) rfl ev_int rfl (by simp) ?_)
  refine wp_seq (wp_appAll (i := 5) (j := 4) (rows := os) rfl (by decide) (by simp) (fun Hs G σ H F X Cs Γ' I Q q => q _ _ (Same.refl _)) (by omega) hos ?_)
  generalize hLk : Lk 50000 = L5
  show Wp _ [some (Sq K ns), some (Fz cells), some (Fz w), some (Fz os), none, some L5, some (Fz (os.length : Int)), some (PhO C CN os [(0, rowO os 0)] 0), some (OwD [((0 : Int), rowO os 0)]), some (Fz (0 : Int)), none, none, none, none, none, none, none, none] _
  have brT : ∀ {N : Nw} {t : Int} (x4 x10 x11 x12 x13 x14 x15 x16 x17 : Option As), Brw [some (Sq K ns), some (Fz cells), some (Fz w), some (Fz os), x4, some L5, some (Fz (os.length : Int)), some (PhO C CN os N t), some (OwD N), some (Fz t), x10, x11, x12, x13, x14, x15, x16, x17] [none, none, none, none, none, none, some (Fz (os.length : Int)), some (PhS C CN os N t), some (Fz (Dc.mk N)), some (Fz t), none, none, none, none, none, none, none, none] := fun _ _ _ _ _ _ _ _ _ => .no _ (.no _ (.no _ (.no _ (.no _ (.no _ (.so cv_fz (.so cv_ph (.so cv_owd (.so cv_fz (.no _ (.no _ (.no _ (.no _ (.no _ (.no _ (.no _ (.no _ .nil)))))))))))))))))
  have W0 := WInv.start O
  have hkl0 := W0.klen.2
  refine wq_no (et_not (et_brw (brT _ _ _ _ _ _ _ _ _) (et_b (ev_toldP (ev_same rfl fr_ph) (ev_var rfl) (ev_var rfl) ev_int (by omega) (by omega) (W0.rowsB O (by omega)))))) rfl ?_
  have hmul2 : CMul 2 (os.length : Int) := .inl ⟨by omega, by omega⟩
  refine wp_seq (wp_for (xs := rangeI 0 (min 40 (2 * (os.length : Int)))) (is_rng1 (ev_min2 ev_int (ev_mul ev_int (ev_var rfl) hmul2)) (by omega) (by omega)) bd_n (fun k Γ => ∃ (N : Nw) (KK : List Int) (x10 x11 x12 x14 x15 x16 x17 : Option As), WInv os N KK ∧ Γ = [some (Sq K ns), some (Fz cells), some (Fz w), some (Fz os), none, some L5, some (Fz (os.length : Int)), some (PhO C CN os N (k : Int)), some (OwD N), some (Fz (k : Int)), x10, x11, x12, none, x14, x15, x16, x17]) (by exact ⟨_, _, _, _, _, _, _, _, _, W0, rfl⟩) ?_ ?_)
  · rintro k at_ Γ hk ⟨N, KK, x10, x11, x12, x14, x15, x16, x17, W, rfl⟩
    have hkm := rangeI_mem.mp (List.mem_of_getElem? hk)
    have hidx : 0 ≤ at_ % (cells.length : Int) ∧ at_ % (cells.length : Int) < cells.length := ⟨Int.emod_nonneg _ (by omega), Int.emod_lt_of_pos _ (by omega)⟩
    have hmul5 : CMul 5 at_ := .inl ⟨by omega, by omega⟩
    have hl0 : 0 < (cells.length : Int) := by omega
    refine wq_asg (ev_div (ev_num (ev_add (ev_ix (ev_var rfl) (ev_mod (ev_var rfl) (ev_len (ev_var rfl)) hl0) (atI_getD _ _ 0 hidx)) (ev_mul ev_int (ev_var rfl) hmul5)) (ev_var rfl) (ev_var rfl) (by omega)) ev_int ⟨by decide, by decide⟩) ?_
    generalize numberM _ at_ w / 3 = nu
    have hm4 : 0 ≤ nu % 4 ∧ nu % 4 < 4 := ⟨Int.emod_nonneg _ (by decide), Int.emod_lt_of_pos _ (by decide)⟩
    obtain ⟨wide, hwide⟩ : ∃ wd : Int, ([1, 2, 3, 7] : List Int).getD (nu % 4).toNat 0 = wd := ⟨_, rfl⟩
    have hwp : 0 < wide := by
      rw [← hwide]
      have : (nu % 4).toNat = 0 ∨ (nu % 4).toNat = 1 ∨ (nu % 4).toNat = 2 ∨ (nu % 4).toNat = 3 := by omega
      rcases this with h | h | h | h <;> rw [h] <;> decide
    refine wq_asg (a := wide) (ev_ixT (ev_tp (as := [1, 2, 3, 7]) (.cons ev_int (.cons ev_int (.cons ev_int (.cons ev_int .nil)))) (by simp)) (ev_mod (ev_var rfl) ev_int (by decide)) (by rw [← hwide]; exact atI_getD _ _ 0 (by show 0 ≤ _ ∧ _ < (4 : Int); omega))) ?_
    have ea : Ev (tLc (iRng2 (tCons (tC (.int 1)) (tCons (tVar 6) tNil))) (gName 13) (tAnd (tTest (tOp qGt (tVar 12) (tC (.int 1)))) (tTest (tOp rEq (tOp qMod (tOp qAdd (tOp qDiv (tVar 11) (tC (.int 4))) (tOp qMul (tVar 13) (tVar 13))) (tVar 12)) (tC (.int 0))))) (tVar 13) [13]) [some (Sq K ns), some (Fz cells), some (Fz w), some (Fz os), none, some L5, some (Fz (os.length : Int)), some (PhO C CN os N (k : Int)), some (OwD N), some (Fz (k : Int)), some (Fz at_), some (Fz nu), some (Fz wide), none, x14, x15, x16, x17] [some (Sq K ns), some (Fz cells), some (Fz w), some (Fz os), none, some L5, some (Fz (os.length : Int)), some (PhO C CN os N (k : Int)), some (OwD N), some (Fz (k : Int)), some (Fz at_), some (Fz nu), some (Fz wide), none, x14, x15, x16, x17] (Ow ((rangeI 1 os.length).filter fun one => decide (1 < wide) && decide ((nu / 4 + one * one) % wide = 0))) := by
      have := ev_fil (xs := rangeI 1 os.length) (ws := [13]) (g := gName 13) (Γ := [some (Sq K ns), some (Fz cells), some (Fz w), some (Fz os), none, some L5, some (Fz (os.length : Int)), some (PhO C CN os N (k : Int)), some (OwD N), some (Fz (k : Int)), some (Fz at_), some (Fz nu), some (Fz wide), none, x14, x15, x16, x17]) (Γb := [none, none, none, none, none, none, none, none, none, none, none, some (Fz nu), some (Fz wide), none, none, none, none, none]) (wi := iRng2 (tCons (tC (.int 1)) (tCons (tVar 6) tNil))) (tt := tAnd (tTest (tOp qGt (tVar 12) (tC (.int 1)))) (tTest (tOp rEq (tOp qMod (tOp qAdd (tOp qDiv (tVar 11) (tC (.int 4))) (tOp qMul (tVar 13) (tVar 13))) (tVar 12)) (tC (.int 0))))) (te := tVar 13) (fun one => decide (1 < wide) && decide ((nu / 4 + one * one) % wide = 0)) (fun x => x) (is_rng2 ev_int (ev_var rfl) (by omega)) (.no (.no (.no (.no (.no (.no (.no (.no (.no (.no (.no (.so fr_fz (.so fr_fz (.no (.no (.no (.no (.no .nil)))))))))))))))))) bd_n (by rw [rangeI_len]; omega) fun one ho => ⟨[none, none, none, none, none, none, none, none, none, none, none, some (Fz nu), some (Fz wide), some (Fz one), none, none, none, none], et_and (et_tt (ev_gt (ev_var rfl) ev_int)) fun _ => et_tt (ev_eqI (ev_mod (ev_add (ev_div (ev_var rfl) ev_int ⟨by decide, by decide⟩) (ev_mul (ev_var rfl) (ev_var rfl) (by have := rangeI_mem.mp ho; exact .inl ⟨by omega, by omega⟩))) (ev_var rfl) hwp) ev_int), fun _ => ⟨_, ev_var rfl⟩⟩
      rwa [List.map_id'] at this
    refine wq_asg (ev_fr ea) ?_
    have hab := filt_abs (n := os.length) (fun one => decide (1 < wide) && decide ((nu / 4 + one * one) % wide = 0))
    have hall := hab.len
    generalize (rangeI 1 os.length).filter (fun one => decide (1 < wide) && decide ((nu / 4 + one * one) % wide = 0)) = absent at hab hall
    refine wq_parO (A := Ow absent) (B := Fz ((k : Int) + 1)) (ev_list (ev_var rfl)) (ev_add (ev_var rfl) ev_int) ?_
    show Wp _ [some (Sq K ns), some (Fz cells), some (Fz w), some (Fz os), none, some L5, some (Fz (os.length : Int)), some (PhO C CN os N (k : Int)), some (OwD N), some (Fz ((k : Int) + 1)), some (Fz at_), some (Fz nu), some (Fz wide), none, some (Fz absent), some (Ow absent), x16, x17] _
    have brM : Brw [some (Sq K ns), some (Fz cells), some (Fz w), some (Fz os), none, some L5, some (Fz (os.length : Int)), some (PhO C CN os N (k : Int)), some (OwD N), some (Fz ((k : Int) + 1)), some (Fz at_), some (Fz nu), some (Fz wide), none, some (Fz absent), some (Ow absent), x16, x17] [none, none, none, none, none, none, none, none, none, none, none, none, none, none, none, some (Fz absent), none, none] := .no _ (.no _ (.no _ (.no _ (.no _ (.no _ (.no _ (.no _ (.no _ (.no _ (.no _ (.no _ (.no _ (.no _ (.no _ (.so cv_ow (.no _ (.no _ .nil)))))))))))))))))
    refine wq_parO (ev_phPass (C := C) (CN := CN) (j := 7) rfl brM (ev_var rfl) O hol ⟨_, W⟩ hab) (ev_lturn (i := 3) (j := 8) (l := 14) rfl rfl rfl O (by omega) ⟨_, W⟩) ?_
    obtain ⟨KK', W'⟩ := pass_inv (absent := absent) (silent := absent) O (by omega) ⟨_, W⟩
    have hkl' := W'.klen.2
    have htl : (passM os absent absent N).1.length ≤ 1000 := by
      have T := pass_ok (absent := absent) O (by omega) W absent
      have h1 := congrArg List.length T.callers
      rw [List.length_map] at h1
      have h2 : ((callersM N).filter fun c => decide (c ∉ absent)).length ≤ (callersM N).length := List.length_filter_le _ _
      have h3 : (callersM N).length ≤ N.length := by
        unfold callersM
        refine Nat.le_trans (List.length_filter_le _ _) ?_
        rw [sortI_len, List.length_map]
        exact Nat.le_refl _
      have := W.klen.2
      show (turnGo os absent ((callersM N).filter fun c => decide (c ∉ absent)) N).1.length ≤ 1000
      omega
    show Wp _ [some (Sq K ns), some (Fz cells), some (Fz w), some (Fz os), none, some L5, some (Fz (os.length : Int)), some (PhO C CN os (passM os absent absent N).2 ((k : Int) + 1)), some (OwD (passM os absent absent N).2), some (Fz ((k : Int) + 1)), some (Fz at_), some (Fz nu), some (Fz wide), none, some (Fz absent), some (Ow absent), some (Ow (passM os absent absent N).1), some (Ow (passM os absent absent N).1)] _
    generalize (passM os absent absent N).2 = N2 at W' hkl'
    generalize (passM os absent absent N).1 = ts at htl
    have brC : Brw [some (Sq K ns), some (Fz cells), some (Fz w), some (Fz os), none, some L5, some (Fz (os.length : Int)), some (PhO C CN os N2 ((k : Int) + 1)), some (OwD N2), some (Fz ((k : Int) + 1)), some (Fz at_), some (Fz nu), some (Fz wide), none, some (Fz absent), some (Ow absent), some (Ow ts), some (Ow ts)] [none, none, none, none, none, none, none, none, none, none, none, none, none, none, some (Fz absent), some (Fz absent), some (Fz ts), some (Fz ts)] := .no _ (.no _ (.no _ (.no _ (.no _ (.no _ (.no _ (.no _ (.no _ (.no _ (.no _ (.no _ (.no _ (.no _ (.so cv_fz (.so cv_ow (.so cv_ow (.so cv_ow .nil)))))))))))))))))
    refine wq_no (et_brw brC (et_or (et_tt (ev_neM (ev_var rfl) (ev_var rfl))) fun _ => et_or (et_tt (ev_neM (ev_var rfl) (ev_var rfl))) fun _ => et_not (et_b (ev_isM (ev_var rfl) kl)))) (by simp) ?_
    refine wp_seq (wp_app (Bs := ts.map Fz) (A := Fz (Tp.mk ([] : List Int))) rfl (ev_tp .nil (by simp)) rfl (by rw [List.length_map]; omega) ?_)
    refine wp_seq (wp_appF (xs := absent) rfl ev_int rfl (by omega) ?_)
    have hdm : (0 : Int) < 5 := by decide
    refine wn_no (b := decide (at_ % 5 = w % 5) && false) (et_and (et_tt (ev_eqI (ev_mod (ev_var rfl) ev_int hdm) (ev_mod (ev_var rfl) ev_int hdm))) fun _ => et_eq (et_not (et_brw (brT _ _ _ _ _ _ _ _ _) (et_b (ev_toldP (ev_same rfl fr_ph) (ev_var rfl) (ev_var rfl) (ev_var rfl) (by omega) (by omega) (W'.rowsB O (by omega)))))) rfl) (by simp) ⟨N2, KK', _, _, _, _, _, _, _, W', by rw [show ((k + 1 : Nat) : Int) = (k : Int) + 1 by omega]; rfl⟩
  · rintro Γ ⟨N, KK, x10, x11, x12, x14, x15, x16, x17, W, rfl⟩
    have hkl := W.klen.2
    refine wq_no (et_not (et_brw (brT _ _ _ _ _ _ _ _ _) (et_b (ev_toldP (ev_same rfl fr_ph) (ev_var rfl) (ev_var rfl) (ev_var rfl) (by omega) (by omega) (W.rowsB O (by omega)))))) rfl ?_
    exact wp_ret ev_two rfl
end Cc
namespace Cc
open PySem L2
def topS (i : Nat) : Stmt := PySem.Challenge.pw_callchain_k10_whole_phones.main.body.getD i (.Pass ⟨0, 0, 0, 0⟩)
abbrev s__law_number : Stmt := topS 18
abbrev s__law_ups : Stmt := topS 19
abbrev s__law_orders : Stmt := topS 20
abbrev s_is_whole : Stmt := topS 7
abbrev s_is_between : Stmt := topS 8
abbrev s_come_to : Stmt := topS 9
abbrev s_are_orders : Stmt := topS 10
abbrev s_check_orders : Stmt := topS 11
abbrev s_News___init__ : Stmt := inClass (topS 14) 0
abbrev s_Phones___init__ : Stmt := inClass (topS 16) 0
abbrev s_Phones_knowing : Stmt := inClass (topS 16) 3
abbrev s_Phones_gone : Stmt := inClass (topS 16) 2
abbrev s_Phones_row : Stmt := inClass (topS 16) 4
abbrev s_News_callers : Stmt := inClass (topS 14) 1
abbrev s_Phones_is_done : Stmt := inClass (topS 16) 5
abbrev s__law_told : Stmt := topS 22
abbrev s__law_turn : Stmt := topS 21
abbrev s_check_absent : Stmt := topS 12
abbrev s_News_next_of : Stmt := inClass (topS 14) 2
abbrev s_News_call : Stmt := inClass (topS 14) 3
abbrev s_News_pass_turn : Stmt := inClass (topS 14) 4
abbrev s_Phones_pass_round : Stmt := inClass (topS 16) 1
abbrev s__law_two_right : Stmt := topS 23
abbrev s_law : Stmt := topS 24
theorem sc__law_number : FnScope ["_law_cell", "_law_at", "_law_whole", "_law_mixed", "_law_more"] ["_law_cell", "_law_at", "_law_whole"] (defScope s__law_number) := ⟨rfl, rfl, rfl, by decide +kernel, rfl, by decide +kernel, by decide +kernel⟩
theorem sc__law_ups : FnScope ["_law_script", "_law_by", "_law_most", "_law_cells", "_law_whole", "_law_found", "_law_many", "_law_kind", "_law_at", "_law_number_here"] ["_law_script", "_law_by", "_law_most"] (defScope s__law_ups) := ⟨rfl, rfl, rfl, by decide +kernel, rfl, by decide +kernel, by decide +kernel⟩
theorem sc__law_orders : FnScope ["_law_script", "_law_by", "_law_most", "_law_ups_here", "_law_names", "_law_cells", "_law_whole", "_law_at", "_law_number_here", "_law_person", "_law_found", "_law_known", "_law_up", "_law_row"] ["_law_script", "_law_by", "_law_most"] (defScope s__law_orders) := ⟨rfl, rfl, rfl, by decide +kernel, rfl, by decide +kernel, by decide +kernel⟩
theorem sc_is_whole : FnScope ["thing"] ["thing"] (defScope s_is_whole) := ⟨rfl, rfl, rfl, by decide +kernel, rfl, by decide +kernel, by decide +kernel⟩
theorem sc_is_between : FnScope ["thing", "least", "most"] ["thing", "least", "most"] (defScope s_is_between) := ⟨rfl, rfl, rfl, by decide +kernel, rfl, by decide +kernel, by decide +kernel⟩
theorem sc_come_to : FnScope ["orders", "found", "at"] ["orders"] (defScope s_come_to) := ⟨rfl, rfl, rfl, by decide +kernel, rfl, by decide +kernel, by decide +kernel⟩
theorem sc_are_orders : FnScope ["thing", "row", "person"] ["thing"] (defScope s_are_orders) := ⟨rfl, rfl, rfl, by decide +kernel, rfl, by decide +kernel, by decide +kernel⟩
theorem sc_check_orders : FnScope ["orders"] ["orders"] (defScope s_check_orders) := ⟨rfl, rfl, rfl, by decide +kernel, rfl, by decide +kernel, by decide +kernel⟩
theorem sc_News___init__ : FnScope ["self", "orders", "row"] ["self", "orders"] (defScope s_News___init__) := ⟨rfl, rfl, rfl, by decide +kernel, rfl, by decide +kernel, by decide +kernel⟩
theorem sc_Phones___init__ : FnScope ["self", "orders"] ["self", "orders"] (defScope s_Phones___init__) := ⟨rfl, rfl, rfl, by decide +kernel, rfl, by decide +kernel, by decide +kernel⟩
theorem sc_Phones_knowing : FnScope ["self"] ["self"] (defScope s_Phones_knowing) := ⟨rfl, rfl, rfl, by decide +kernel, rfl, by decide +kernel, by decide +kernel⟩
theorem sc_Phones_gone : FnScope ["self"] ["self"] (defScope s_Phones_gone) := ⟨rfl, rfl, rfl, by decide +kernel, rfl, by decide +kernel, by decide +kernel⟩
theorem sc_Phones_row : FnScope ["self", "person", "found"] ["self", "person"] (defScope s_Phones_row) := ⟨rfl, rfl, rfl, by decide +kernel, rfl, by decide +kernel, by decide +kernel⟩
theorem sc_News_callers : FnScope ["self", "person"] ["self"] (defScope s_News_callers) := ⟨rfl, rfl, rfl, by decide +kernel, rfl, by decide +kernel, by decide +kernel⟩
theorem sc_Phones_is_done : FnScope ["self"] ["self"] (defScope s_Phones_is_done) := ⟨rfl, rfl, rfl, by decide +kernel, rfl, by decide +kernel, by decide +kernel⟩
theorem sc__law_told : FnScope ["_law_phones", "_law_rows", "_law_people", "_law_gone", "_law_again", "_law_found", "_law_person", "_law_row"] ["_law_phones", "_law_rows", "_law_people", "_law_gone"] (defScope s__law_told) := ⟨rfl, rfl, rfl, by decide +kernel, rfl, by decide +kernel, by decide +kernel⟩
theorem sc__law_turn : FnScope ["_law_orders_here", "_law_rows", "_law_absent", "_law_turn_here", "_law_more", "_law_caller", "_law_person"] ["_law_orders_here", "_law_rows", "_law_absent"] (defScope s__law_turn) := ⟨rfl, rfl, rfl, by decide +kernel, rfl, by decide +kernel, by decide +kernel⟩
theorem sc_check_absent : FnScope ["people", "absent", "person", "one", "other"] ["people", "absent"] (defScope s_check_absent) := ⟨rfl, rfl, rfl, by decide +kernel, rfl, by decide +kernel, by decide +kernel⟩
theorem sc_News_next_of : FnScope ["self", "caller"] ["self", "caller"] (defScope s_News_next_of) := ⟨rfl, rfl, rfl, by decide +kernel, rfl, by decide +kernel, by decide +kernel⟩
theorem sc_News_call : FnScope ["self", "caller", "answered", "person", "rest"] ["self", "caller", "answered"] (defScope s_News_call) := ⟨rfl, rfl, rfl, by decide +kernel, rfl, by decide +kernel, by decide +kernel⟩
theorem sc_News_pass_turn : FnScope ["self", "absent", "silent", "found", "one", "caller", "person"] ["self", "absent", "silent"] (defScope s_News_pass_turn) := ⟨rfl, rfl, rfl, by decide +kernel, rfl, by decide +kernel, by decide +kernel⟩
theorem sc_Phones_pass_round : FnScope ["self", "absent"] ["self", "absent"] (defScope s_Phones_pass_round) := ⟨rfl, rfl, rfl, by decide +kernel, rfl, by decide +kernel, by decide +kernel⟩
theorem sc__law_two_right : FnScope ["_law_orders_here", "_law_phones", "_law_other", "_law_shown"] [] (defScope s__law_two_right) := ⟨rfl, rfl, rfl, by decide +kernel, rfl, by decide +kernel, by decide +kernel⟩
theorem sc_law : FnScope ["_law_script", "_law_cells", "_law_whole", "_law_orders_here", "_law_row", "_law_handed", "_law_people", "_law_phones", "_law_rows", "_law_gone", "_law_at", "_law_number_here", "_law_wide", "_law_one", "_law_absent", "_law_mine", "_law_found", "_law_due"] ["_law_script"] (defScope s_law) := ⟨rfl, rfl, rfl, by decide +kernel, rfl, by decide +kernel, by decide +kernel⟩
section
variable {P : Program} {w : World} {K : PySem.W.Frag} {mg : Str → Option Value} {base : Heap}
theorem ok__law_number {f : Addr} {fd : FuncData} (F : Fun K "_law_number" "_law_number" s__law_number f fd) (T : Blt mg) : FnOk P w K mg base CX0 1 f fd ["_law_cell", "_law_at", "_law_whole"] sp__law_number := by
  refine F.ok sc__law_number (fun vs H Q E h => ?_) (fun cdv A outer s H vs Q E hr h => ?_)
  · (repeat (obtain ⟨_, h⟩ := h)); subst_vars; rfl
  · refine ⟨t__law_number K,
    (pss_cons (ps_if (PW.pt (pw_or (pt_cmpR op_ge (pv 0) (pe_op op_pow pe_int pe_int) (nomark _)) (pw_or1 (pt_cmpR op_le (pv 0) (pe_op op_sub pe_int (pe_op op_pow pe_int pe_int)) (nomark _)))))
    (pss_one (ps_ret (pe_op op_mod (pv 0) (pe_op op_pow pe_int pe_int))))
    pss_nil)
    (pss_cons (ps_set (i := 3) sc__law_number.nd rfl (by first | exact Or.inl rfl | exact Or.inr rfl) (pe_op op_mod (pe_op op_add (pe_op op_mul (pe_op op_add (pv 0) (pe_op op_mul pe_int (pv 1))) pe_int) (pv 2)) pe_int))
    (pss_cons (ps_set (i := 4) sc__law_number.nd rfl (by first | exact Or.inl rfl | exact Or.inr rfl) (pe_op op_mul (pe_op op_mul (pv 3) (pe_op op_add (pe_op op_add (pv 3) (pe_op op_mul pe_int (pv 1))) pe_int)) (pe_op op_add (pe_op op_add (pv 3) (pv 0)) pe_int)))
    (pss_one (ps_ret (pe_op op_fdiv (pe_op op_mulW (pv 4) (pe_op op_add (pv 4) pe_int)) pe_int)))))), v__law_number h⟩
theorem ok__law_ups {f : Addr} {fd : FuncData} (F : Fun K "_law_ups" "_law_ups" s__law_ups f fd) (T : Blt mg) (c__law_number : Dfn P w K mg base "_law_number" 1 ["_law_cell", "_law_at", "_law_whole"] sp__law_number) : FnOk P w K mg base CX0 2 f fd ["_law_script", "_law_by", "_law_most"] (sp__law_ups K) := by
  refine F.ok sc__law_ups (fun vs H Q E h => ?_) (fun cdv A outer s H vs Q E hr h => ?_)
  · (repeat (obtain ⟨_, h⟩ := h)); subst_vars; rfl
  · refine ⟨t__law_ups K,
    (pss_cons (ps_set (i := 3) sc__law_ups.nd rfl (by first | exact Or.inl rfl | exact Or.inr rfl) (pe_ifExp (pt_cmpR (op_neD hr.units) (pv 0) (pe_lst pa_nil) (nomark _)) (pe_slice sl_list (pv 0) po_none (po_some pe_int)) (pe_lst (pa_cons pe_int pa_nil))))
    (pss_cons (ps_par (i := 4) (j := 5) (by rfl) sc__law_ups.nd rfl rfl (by decide) rfl rfl (pa_cons (pe_op op_add (pe_callB (cr_sum (by rfl)) (by rfl) T.sum (by decide +kernel) (pa_cons (pv 3) pa_nil)) (pv 1)) (pa_cons (pe_lst pa_nil) pa_nil)) (by rfl))
    (pss_cons (ps_par (i := 6) (j := 7) (by rfl) sc__law_ups.nd rfl rfl (by decide) rfl rfl (pa_cons (pe_op op_mod (pe_op op_fdiv (pe_callD c__law_number hr (by decide) (by rfl) (pa_cons (pv 4) (pa_cons (pe_op op_add (pv 1) pe_int) (pa_cons pe_int pa_nil)))) pe_int) (pv 2)) (pa_cons (pe_op op_mod (pe_op op_fdiv (pe_callD c__law_number hr (by decide) (by rfl) (pa_cons (pv 4) (pa_cons (pe_op op_add (pv 1) pe_int) (pa_cons pe_int pa_nil)))) pe_int) pe_int) pa_nil)) (by rfl))
    (pss_cons (ps_for PassesOwn.never rfl (pi_range1 (by rfl) T.range (pa_cons (pv 6) pa_nil)) (pg_name (i := 8) sc__law_ups.nd rfl (by first | exact Or.inl rfl | exact Or.inr rfl))
    (pss_cons (ps_set (i := 9) sc__law_ups.nd rfl (by first | exact Or.inl rfl | exact Or.inr rfl) (pe_op op_fdiv (pe_callD c__law_number hr (by decide) (by rfl) (pa_cons (pe_op op_add (pe_ix ix_list (pv 3) (pe_op op_mod (pe_op op_add (pv 8) (pv 1)) (pe_callB call_len_seq (by rfl) T.len PySem.boot_len (pa_cons (pv 3) pa_nil))) (fun _ _ => rfl)) (pv 8)) (pa_cons (pe_op op_add (pv 8) (pv 1)) (pa_cons (pv 4) pa_nil)))) pe_int))
      (pss_one (ps_expr (pe_bm PySem.F.plainAttrs_list PySem.F.slot_list_append PySem.F.type_list_append mt_append (pv 5) (pa_cons (pe_ix ix_tup (pe_tup (pa_cons (pe_op op_mod (pv 9) (pe_op op_add (pv 8) pe_int)) (pa_cons (pv 8) (pa_cons pe_int (pa_cons (pe_op op_mod (pv 9) (pe_callB (call_min2 (by rfl)) (by rfl) T.min (by decide +kernel) (pa_cons (pe_op op_add (pv 8) pe_int) (pa_cons pe_int pa_nil)))) (pa_cons (pe_op op_fdiv (pv 8) pe_int) pa_nil)))))) (pv 7) (fun _ _ => rfl)) pa_nil))))))
    (pss_one (ps_ret (pv 5))))))), v__law_ups h⟩
theorem ok__law_orders {f : Addr} {fd : FuncData} (F : Fun K "_law_orders" "_law_orders" s__law_orders f fd) (T : Blt mg) (c__law_ups : Dfn P w K mg base "_law_ups" 2 ["_law_script", "_law_by", "_law_most"] (sp__law_ups K)) (c__law_number : Dfn P w K mg base "_law_number" 1 ["_law_cell", "_law_at", "_law_whole"] sp__law_number) : FnOk P w K mg base CX0 3 f fd ["_law_script", "_law_by", "_law_most"] (sp__law_orders K) := by
  refine F.ok sc__law_orders (fun vs H Q E h => ?_) (fun cdv A outer s H vs Q E hr h => ?_)
  · exact spG_len h fun _ => rfl
  · refine ⟨t__law_orders K,
    (pss_cons (ps_par (i := 3) (j := 4) (by rfl) sc__law_orders.nd rfl rfl (by decide) rfl rfl (pa_cons (pe_callD c__law_ups hr (by decide) (by rfl) (pa_cons (pv 0) (pa_cons (pv 1) (pa_cons (pv 2) pa_nil)))) (pa_cons (pe_lst pa_nil) pa_nil)) (by rfl))
    (pss_cons (ps_set (i := 5) sc__law_orders.nd rfl (by first | exact Or.inl rfl | exact Or.inr rfl) (pe_ifExp (pt_cmpR (op_neD hr.units) (pv 0) (pe_lst pa_nil) (nomark _)) (pe_slice sl_list (pv 0) po_none (po_some pe_int)) (pe_lst (pa_cons pe_int pa_nil))))
    (pss_cons (ps_set (i := 6) sc__law_orders.nd rfl (by first | exact Or.inl rfl | exact Or.inr rfl) (pe_op op_add (pe_callB (cr_sum (by rfl)) (by rfl) T.sum (by decide +kernel) (pa_cons (pv 5) pa_nil)) (pv 1)))
    (pss_cons (ps_for PassesOwn.never rfl (pi_range1 (by rfl) T.range (pa_cons (pe_callB call_len_seq (by rfl) T.len PySem.boot_len (pa_cons (pv 3) pa_nil)) pa_nil)) (pg_name (i := 7) sc__law_orders.nd rfl (by first | exact Or.inl rfl | exact Or.inr rfl))
    (pss_cons (ps_set (i := 8) sc__law_orders.nd rfl (by first | exact Or.inl rfl | exact Or.inr rfl) (pe_op op_fdiv (pe_callD c__law_number hr (by decide) (by rfl) (pa_cons (pe_op op_add (pe_ix ix_list (pv 5) (pe_op op_mod (pe_op op_add (pv 7) (pv 1)) (pe_callB call_len_seq (by rfl) T.len PySem.boot_len (pa_cons (pv 5) pa_nil))) (fun _ _ => rfl)) (pe_op op_mul pe_int (pv 7))) (pa_cons (pe_op op_add (pv 7) (pv 1)) (pa_cons (pv 6) pa_nil)))) pe_int))
      (pss_one (ps_expr (pe_bm PySem.F.plainAttrs_list PySem.F.slot_list_insert PySem.F.type_list_insert mt_insert (pv 4) (pa_cons (pe_op op_mod (pv 8) (pe_op op_add (pv 7) pe_int)) (pa_cons (pe_op op_add (pv 7) pe_int) pa_nil)))))))
    (pss_cons (ps_par (i := 10) (j := 11) (by rfl) sc__law_orders.nd rfl rfl (by decide) rfl rfl (pa_cons (pe_lc (own := [("_law_person", 9)]) (by rfl) sc__law_orders.nd (pi_range1 (by rfl) T.range (pa_cons (pe_op op_add (pe_callB call_len_seq (by rfl) T.len PySem.boot_len (pa_cons (pv 3) pa_nil)) pe_int) pa_nil)) (blkOk_by (own := [("_law_person", 9)]) (N := ["_law_script", "_law_by", "_law_most", "_law_ups_here", "_law_names", "_law_cells", "_law_whole", "_law_at", "_law_number_here", "_law_person", "_law_found", "_law_known", "_law_up", "_law_row"]) (sc := defScope s__law_orders) (by decide +kernel)) (fun _ _ _ _ _ => (pg_name (i := 9) sc__law_orders.nd rfl (by first | exact Or.inl rfl | exact Or.inr rfl))) (fun _ _ _ _ _ => pts_nil) (fun _ _ _ _ _ => (pe_lst pa_nil))) (pa_cons (pe_op op_cat (pe_lst (pa_cons pe_int pa_nil)) (pv 4)) pa_nil)) (by rfl))
    (pss_cons (ps_for PassesOwn.never rfl (pi_enum (by rfl) T.enumerate (pa_cons (pv 3) pa_nil)) (pg_tup (n := 2) rfl (pgs_cons (pg_name (i := 7) sc__law_orders.nd rfl (by first | exact Or.inl rfl | exact Or.inr rfl)) (pgs_cons (pg_name (i := 12) sc__law_orders.nd rfl (by first | exact Or.inl rfl | exact Or.inr rfl)) pgs_nil)))
    (pss_cons (ps_set (i := 13) sc__law_orders.nd rfl (by first | exact Or.inl rfl | exact Or.inr rfl) (pe_ix ix_list (pv 10) (pe_ix ix_list (pv 11) (pv 12) (fun _ _ => rfl)) (fun _ _ => rfl)))
      (pss_one (ps_expr (pe_bm PySem.F.plainAttrs_list PySem.F.slot_list_insert PySem.F.type_list_insert mt_insert (pv 13) (pa_cons (pe_op op_mod (pe_op op_fdiv (pe_callD c__law_number hr (by decide) (by rfl) (pa_cons (pv 6) (pa_cons (pv 7) (pa_cons pe_int pa_nil)))) pe_int) (pe_op op_add (pe_callB call_len_seq (by rfl) T.len PySem.boot_len (pa_cons (pv 13) pa_nil)) pe_int)) (pa_cons (pe_ix ix_list (pv 11) (pe_op op_add (pv 7) pe_int) (fun _ _ => rfl)) pa_nil)))))))
    (pss_one (ps_ret (pv 10))))))))), v__law_orders h⟩
theorem ok_is_whole {f : Addr} {fd : FuncData} (F : Fun K "is_whole" "is_whole" s_is_whole f fd) (T : Blt mg) : FnOk P w K mg base CX0 1 f fd ["thing"] sp_is_whole := by
  refine F.ok sc_is_whole (fun vs H Q E h => ?_) (fun cdv A outer s H vs Q E hr h => ?_)
  · (repeat (obtain ⟨_, h⟩ := h)); subst_vars; rfl
  · refine ⟨t_is_whole K,
    (pss_one (ps_ret (pe_and (pe_callB call_isi (by rfl) T.isinstance (by decide +kernel) (pa_cons (pv 0) (pa_cons (pe_bltn (v := .ty "int") (by rfl) T.int (by decide +kernel) rfl) pa_nil))) (pe_one (pe_not (pe_callB call_isi (by rfl) T.isinstance (by decide +kernel) (pa_cons (pv 0) (pa_cons (pe_bltn (v := .ty "bool") (by rfl) T.bool (by decide +kernel) rfl) pa_nil)))))))), v_is_whole h⟩
theorem ok_is_between {f : Addr} {fd : FuncData} (F : Fun K "is_between" "is_between" s_is_between f fd) (T : Blt mg) (c_is_whole : Dfn P w K mg base "is_whole" 1 ["thing"] sp_is_whole) : FnOk P w K mg base CX0 2 f fd ["thing", "least", "most"] sp_is_between := by
  refine F.ok sc_is_between (fun vs H Q E h => ?_) (fun cdv A outer s H vs Q E hr h => ?_)
  · (repeat (obtain ⟨_, h⟩ := h)); subst_vars; rfl
  · refine ⟨t_is_between K,
    (pss_one (ps_ret (pe_and (pe_callD c_is_whole hr (by decide) (by rfl) (pa_cons (pv 0) pa_nil)) (pe_one (pe_chain op_le op_le (pv 1) (pv 0) (pv 2)))))), v_is_between h⟩
theorem ok_come_to {f : Addr} {fd : FuncData} (F : Fun K "come_to" "come_to" s_come_to f fd) (T : Blt mg) : FnOk P w K mg base CX0 1 f fd ["orders"] sp_come_to := by
  refine F.ok sc_come_to (fun vs H Q E h => ?_) (fun cdv A outer s H vs Q E hr h => ?_)
  · exact spG_len h fun _ => rfl
  · refine ⟨t_come_to K,
    (pss_cons (ps_par (i := 1) (j := 2) (by rfl) sc_come_to.nd rfl rfl (by decide) rfl rfl (pa_cons (pe_lst (pa_cons pe_int pa_nil)) (pa_cons pe_int pa_nil)) (by rfl))
    (pss_cons (ps_while PassesOwn.never (PW.pt (pw_and (pt_cmpR op_lt (pv 2) (pe_callB call_len_seq (by rfl) T.len PySem.boot_len (pa_cons (pv 1) pa_nil)) (nomark _)) (pw_and1 (pt_cmpR op_le (pe_callB call_len_seq (by rfl) T.len PySem.boot_len (pa_cons (pv 1) pa_nil)) (pe_callB call_len_seq (by rfl) T.len PySem.boot_len (pa_cons (pv 0) pa_nil)) (nomark _)))))
    (pss_cons (ps_expr (pe_bm PySem.F.plainAttrs_list PySem.F.slot_list_extend PySem.F.type_list_extend mt_extend (pv 1) (pa_cons (pe_ix ix_list (pv 0) (pe_ix ix_list (pv 1) (pv 2) (fun _ _ => rfl)) (fun _ _ => rfl)) pa_nil)))
      (pss_one (ps_aug (i := 2) sc_come_to.nd rfl (by first | exact Or.inl rfl | exact Or.inr rfl) pe_int ip_add))))
    (pss_one (ps_ret (pv 1))))), v_come_to h⟩
theorem ok_are_orders {tk_MOST_PEOPLE : Tok} {f : Addr} {fd : FuncData} (F : Fun K "are_orders" "are_orders" s_are_orders f fd) (T : Blt mg) (M_MOST_PEOPLE : mg "MOST_PEOPLE" = some (.int 40 tk_MOST_PEOPLE)) (c_is_between : Dfn P w K mg base "is_between" 2 ["thing", "least", "most"] sp_is_between) (c_come_to : Dfn P w K mg base "come_to" 1 ["orders"] sp_come_to) : FnOk P w K mg base CX0 3 f fd ["thing"] sp_are_orders := by
  refine F.ok sc_are_orders (fun vs H Q E h => ?_) (fun cdv A outer s H vs Q E hr h => ?_)
  · exact spG_len h fun _ => rfl
  · refine ⟨t_are_orders K,
    (pss_cons (ps_if (PW.pt (pw_or (pt_not (pt_val (pe_callB call_isi (by rfl) T.isinstance (by decide +kernel) (pa_cons (pv 0) (pa_cons (pe_bltn (v := .ty "list") (by rfl) T.list (by decide +kernel) rfl) pa_nil))))) (pw_or1 (pt_not (pt_chain op_le op_le pe_int (pe_callB call_len_seq (by rfl) T.len PySem.boot_len (pa_cons (pv 0) pa_nil)) (pe_glob (by rfl) M_MOST_PEOPLE ⟨_, rfl⟩))))))
    (pss_one (ps_ret pe_bl))
    pss_nil)
    (pss_cons (ps_for PassesOwn.never rfl (pi_list (pv 0)) (pg_name (i := 1) sc_are_orders.nd rfl (by first | exact Or.inl rfl | exact Or.inr rfl))
    (pss_one (ps_if (PW.pt (pw_or (pt_not (pt_val (pe_callB call_isi (by rfl) T.isinstance (by decide +kernel) (pa_cons (pv 1) (pa_cons (pe_bltn (v := .ty "list") (by rfl) T.list (by decide +kernel) rfl) pa_nil))))) (pw_or1 (pt_not (pt_val (pe_callB (cr_all (by rfl)) (by rfl) T.all (by decide +kernel) (pa_cons (pe_lc (own := [("person", 2)]) (by rfl) sc_are_orders.nd (pi_list (pv 1)) (blkOk_by (own := [("person", 2)]) (N := ["thing", "row", "person"]) (sc := defScope s_are_orders) (by decide +kernel)) (fun _ _ _ _ _ => (pg_name (i := 2) sc_are_orders.nd rfl (by first | exact Or.inl rfl | exact Or.inr rfl))) (fun _ _ _ _ _ => pts_nil) (fun _ _ _ _ _ => (pe_callD c_is_between hr (by decide) (by rfl) (pa_cons (pv 2) (pa_cons pe_int (pa_cons (pe_op op_sub (pe_callB call_len_seq (by rfl) T.len PySem.boot_len (pa_cons (pv 0) pa_nil)) pe_int) pa_nil)))))) pa_nil)))))))
      (pss_one (ps_ret pe_bl))
      pss_nil)))
    (pss_one (ps_ret (pe_cmpR (op_eqD hr.units) (pe_callB cr_sortedI (by rfl) T.sorted (by decide +kernel) (pa_cons (pe_callD c_come_to hr (by decide) (by rfl) (pa_cons (pv 0) pa_nil)) pa_nil)) (pe_listRg (by rfl) (by rfl) T.list (prg_1 (by rfl) T.range (pe_callB call_len_seq (by rfl) T.len PySem.boot_len (pa_cons (pv 0) pa_nil)))) (nomark _)))))), v_are_orders h⟩
theorem ok_check_orders {f : Addr} {fd : FuncData} (F : Fun K "check_orders" "check_orders" s_check_orders f fd) (T : Blt mg) (c_are_orders : Dfn P w K mg base "are_orders" 3 ["thing"] sp_are_orders) : FnOk P w K mg base CX0 4 f fd ["orders"] sp_check_orders := by
  refine F.ok sc_check_orders (fun vs H Q E h => ?_) (fun cdv A outer s H vs Q E hr h => ?_)
  · exact spG_len h fun _ => rfl
  · refine ⟨t_check_orders K,
    (pss_one (ps_if (pt_not (pt_val (pe_callD c_are_orders hr (by decide) (by rfl) (pa_cons (pv 0) pa_nil))))
    (pss_one ps_never)
    pss_nil)), v_check_orders h⟩
theorem ok_News___init__ {C_News : Addr} {f : Addr} {fd : FuncData} (F : Fun K "__init__" "News.__init__" s_News___init__ f fd) (T : Blt mg) (T_News : KNews K C_News) : FnOk P w K mg base CX0 1 f fd ["self", "orders"] (sp_News___init__ C_News) := by
  refine F.ok sc_News___init__ (fun vs H Q E h => ?_) (fun cdv A outer s H vs Q E hr h => ?_)
  · (repeat (obtain ⟨_, h⟩ := h)); subst_vars; rfl
  · refine ⟨t_News___init__ K,
    (pss_cons (ps_fld (pv 0) (pe_lc (own := [("row", 2)]) (by rfl) sc_News___init__.nd (pi_list (pv 1)) (blkOk_by (own := [("row", 2)]) (N := ["self", "orders", "row"]) (sc := defScope s_News___init__) (by decide +kernel)) (fun _ _ _ _ _ => (pg_name (i := 2) sc_News___init__.nd rfl (by first | exact Or.inl rfl | exact Or.inr rfl))) (fun _ _ _ _ _ => pts_nil) (fun _ _ _ _ _ => (pe_callTy call_list_of (by rfl) T.list (by decide +kernel) (pa_cons (pv 2) pa_nil)))) rfl)
    (pss_cons (ps_fld (pv 0) pe_dnewK rfl)
    (pss_one (ps_dput (hu_of hr) (pe_fld (pv 0) rfl) pe_int (pe_callTy call_list_of (by rfl) T.list (by decide +kernel) (pa_cons (pe_ix ix_list (pv 1) pe_int (fun _ _ => rfl)) pa_nil)) rfl)))), v_News___init__ T_News h⟩
theorem ok_Phones___init__ {C_News : Addr} {C_Phones : Addr} {f : Addr} {fd : FuncData} (F : Fun K "__init__" "Phones.__init__" s_Phones___init__ f fd) (T : Blt mg) (T_Phones : KPhones K C_Phones) (c_check_orders : Dfn P w K mg base "check_orders" 4 ["orders"] sp_check_orders) (c_News : Ctr P w K mg base "News" C_News 1 ["self", "orders"] (sp_News___init__ C_News)) : FnOk P w K mg base CX0 5 f fd ["self", "orders"] (sp_Phones___init__ C_Phones C_News) := by
  refine F.ok sc_Phones___init__ (fun vs H Q E h => ?_) (fun cdv A outer s H vs Q E hr h => ?_)
  · (repeat (obtain ⟨_, h⟩ := h)); subst_vars; rfl
  · refine ⟨t_Phones___init__ K C_News,
    (pss_cons (ps_expr (pe_callD c_check_orders hr (by decide) (by rfl) (pa_cons (pv 1) pa_nil)))
    (pss_cons (ps_fld (pv 0) (pe_makeD c_News hr (by decide) (by rfl) (pa_cons (pv 1) pa_nil)) rfl)
    (pss_cons (ps_fld (pv 0) (pe_callB call_len_seq (by rfl) T.len PySem.boot_len (pa_cons (pv 1) pa_nil)) rfl)
    (pss_one (ps_fld (pv 0) pe_int rfl))))), v_Phones___init__ T_Phones h⟩
theorem ok_Phones_knowing {C_Phones : Addr} {C_News : Addr} {f : Addr} {fd : FuncData} (F : Fun K "knowing" "Phones.knowing" s_Phones_knowing f fd) (T : Blt mg) (T_Phones : KPhones K C_Phones) (T_News : KNews K C_News) : FnOk P w K mg base CX0 1 f fd ["self"] (sp_Phones_knowing C_Phones C_News) := by
  refine F.ok sc_Phones_knowing (fun vs H Q E h => ?_) (fun cdv A outer s H vs Q E hr h => ?_)
  · exact spG_len h fun _ => rfl
  · refine ⟨t_Phones_knowing K,
    (pss_one (ps_ret (pe_callB cr_sortedI (by rfl) T.sorted (by decide +kernel) (pa_cons (pe_callTy (call_listD (by rfl)) (by rfl) T.list (by decide +kernel) (pa_cons (pe_fld (pe_fld (pv 0) rfl) rfl) pa_nil)) pa_nil)))), v_Phones_knowing T_Phones T_News h⟩
theorem ok_Phones_gone {C_Phones : Addr} {C_News : Addr} {f : Addr} {fd : FuncData} (F : Fun K "gone" "Phones.gone" s_Phones_gone f fd) (T : Blt mg) (T_Phones : KPhones K C_Phones) : FnOk P w K mg base CX0 1 f fd ["self"] (sp_Phones_gone C_Phones C_News) := by
  refine F.ok sc_Phones_gone (fun vs H Q E h => ?_) (fun cdv A outer s H vs Q E hr h => ?_)
  · exact spG_len h fun _ => rfl
  · refine ⟨t_Phones_gone K,
    (pss_one (ps_ret (pe_fld (pv 0) rfl))), v_Phones_gone T_Phones h⟩
theorem ok_Phones_row {C_Phones : Addr} {C_News : Addr} {f : Addr} {fd : FuncData} (F : Fun K "row" "Phones.row" s_Phones_row f fd) (T : Blt mg) (T_Phones : KPhones K C_Phones) (T_News : KNews K C_News) (c_is_between : Dfn P w K mg base "is_between" 2 ["thing", "least", "most"] sp_is_between) : FnOk P w K mg base CX0 3 f fd ["self", "person"] (sp_Phones_row C_Phones C_News) := by
  refine F.ok sc_Phones_row (fun vs H Q E h => ?_) (fun cdv A outer s H vs Q E hr h => ?_)
  · exact spG_len h fun _ => rfl
  · refine ⟨t_Phones_row K,
    (pss_cons (ps_if (pt_not (pt_val (pe_callD c_is_between hr (by decide) (by rfl) (pa_cons (pv 1) (pa_cons pe_int (pa_cons (pe_op op_sub (pe_fld (pv 0) rfl) pe_int) pa_nil))))))
    (pss_one ps_never)
    pss_nil)
    (pss_cons (ps_set (i := 2) sc_Phones_row.nd rfl (by first | exact Or.inl rfl | exact Or.inr rfl) (pe_dget1 (hu_of hr) (pe_fld (pe_fld (pv 0) rfl) rfl) (pv 1) ⟨by rfl, by rfl, by rfl, by rfl⟩))
    (pss_one (ps_ret (pe_ifExp (pt_cmpR op_notN (pv 2) pe_non (nomark _)) (pe_callTy call_list_of (by rfl) T.list (by decide +kernel) (pa_cons (pv 2) pa_nil)) pe_non))))), v_Phones_row T_Phones T_News h⟩
theorem ok_News_callers {C_News : Addr} {f : Addr} {fd : FuncData} (F : Fun K "callers" "News.callers" s_News_callers f fd) (T : Blt mg) (T_News : KNews K C_News) : FnOk P w K mg base CX0 1 f fd ["self"] (sp_News_callers C_News) := by
  refine F.ok sc_News_callers (fun vs H Q E h => ?_) (fun cdv A outer s H vs Q E hr h => ?_)
  · (repeat (obtain ⟨_, h⟩ := h)); subst_vars; rfl
  · refine ⟨t_News_callers K,
    (pss_one (ps_ret (pe_lc (own := [("person", 1)]) (by rfl) sc_News_callers.nd (pi_list (pe_callB cr_sortedI (by rfl) T.sorted (by decide +kernel) (pa_cons (pe_callTy (call_listD (by rfl)) (by rfl) T.list (by decide +kernel) (pa_cons (pe_fld (pv 0) rfl) pa_nil)) pa_nil))) (blkOk_by (own := [("person", 1)]) (N := ["self", "person"]) (sc := defScope s_News_callers) (by decide +kernel)) (fun _ _ _ _ _ => (pg_name (i := 1) sc_News_callers.nd rfl (by first | exact Or.inl rfl | exact Or.inr rfl))) (fun _ _ _ _ _ => (pts_one (pt_cmpR (op_neD hr.units) (pe_dget (hu_of hr) (pe_fld (pv 0) rfl) (pv 1) (fun _ _ => rfl)) (pe_lst pa_nil) (nomark _)))) (fun _ _ _ _ _ => (pv 1))))), v_News_callers T_News h⟩
theorem ok_Phones_is_done {C_News : Addr} {C_Phones : Addr} {f : Addr} {fd : FuncData} (F : Fun K "is_done" "Phones.is_done" s_Phones_is_done f fd) (T : Blt mg) (T_Phones : KPhones K C_Phones) (c_News_callers : Mth P w K mg base C_News "callers" 1 ["self"] (sp_News_callers C_News)) : FnOk P w K mg base CX0 2 f fd ["self"] (sp_Phones_is_done C_Phones C_News) := by
  refine F.ok sc_Phones_is_done (fun vs H Q E h => ?_) (fun cdv A outer s H vs Q E hr h => ?_)
  · exact spG_len h fun _ => rfl
  · obtain ⟨f_News_callers, fd_News_callers, m_News_callers, b_News_callers, G_News_callers⟩ := c_News_callers.ex
    refine ⟨t_Phones_is_done K C_News,
    (pss_one (ps_ret (pe_cmpR (op_eqD hr.units) (pe_meth0 (pe_fld (pv 0) rfl) c_News_callers.cl m_News_callers G_News_callers (hr.mono (by decide)) b_News_callers .nil pass0) (pe_lst pa_nil) (nomark _)))), v_Phones_is_done T_Phones h⟩
theorem ok__law_told {C_Phones : Addr} {C_News : Addr} {f : Addr} {fd : FuncData} (F : Fun K "_law_told" "_law_told" s__law_told f fd) (T : Blt mg) (c_Phones_knowing : Mth P w K mg base C_Phones "knowing" 1 ["self"] (sp_Phones_knowing C_Phones C_News)) (c_Phones_gone : Mth P w K mg base C_Phones "gone" 1 ["self"] (sp_Phones_gone C_Phones C_News)) (c_Phones_row : Mth P w K mg base C_Phones "row" 3 ["self", "person"] (sp_Phones_row C_Phones C_News)) (c_Phones_is_done : Mth P w K mg base C_Phones "is_done" 2 ["self"] (sp_Phones_is_done C_Phones C_News)) : FnOk P w K mg base CX0 4 f fd ["_law_phones", "_law_rows", "_law_people", "_law_gone"] (sp__law_toldP C_Phones C_News) := by
  refine F.ok sc__law_told (fun vs H Q E h => ?_) (fun cdv A outer s H vs Q E hr h => ?_)
  · exact spG_len h fun _ => rfl
  · obtain ⟨f_Phones_knowing, fd_Phones_knowing, m_Phones_knowing, b_Phones_knowing, G_Phones_knowing⟩ := c_Phones_knowing.ex
    obtain ⟨f_Phones_gone, fd_Phones_gone, m_Phones_gone, b_Phones_gone, G_Phones_gone⟩ := c_Phones_gone.ex
    obtain ⟨f_Phones_row, fd_Phones_row, m_Phones_row, b_Phones_row, G_Phones_row⟩ := c_Phones_row.ex
    obtain ⟨f_Phones_is_done, fd_Phones_is_done, m_Phones_is_done, b_Phones_is_done, G_Phones_is_done⟩ := c_Phones_is_done.ex
    refine ⟨t__law_toldP K C_Phones C_News,
    (pss_cons (ps_for PassesOwn.never rfl (pi_range1 (by rfl) T.range (pa_cons pe_int pa_nil)) (pg_name (i := 4) sc__law_told.nd rfl (by first | exact Or.inl rfl | exact Or.inr rfl))
    (pss_cons (ps_set (i := 5) sc__law_told.nd rfl (by first | exact Or.inl rfl | exact Or.inr rfl) (pe_meth0 (pv 0) c_Phones_knowing.cl m_Phones_knowing G_Phones_knowing (hr.mono (by decide)) b_Phones_knowing .nil pass0))
      (pss_cons (ps_if (PW.pt (pw_or (pt_cmpR (op_neD hr.units) (pv 5) (pe_callB cr_sortedI (by rfl) T.sorted (by decide +kernel) (pa_cons (pe_callTy (call_listD (by rfl)) (by rfl) T.list (by decide +kernel) (pa_cons (pv 1) pa_nil)) pa_nil)) (nomark _)) (pw_or1 (pt_cmpR op_ne (pe_meth0 (pv 0) c_Phones_gone.cl m_Phones_gone G_Phones_gone (hr.mono (by decide)) b_Phones_gone .nil pass0) (pv 3) (nomark _)))))
      (pss_one (ps_ret pe_bl))
      pss_nil)
      (pss_cons (ps_expr (pe_bm PySem.F.plainAttrs_list PySem.F.slot_list_append PySem.F.type_list_append mt_append (pv 5) (pa_cons pe_int pa_nil)))
      (pss_one (ps_for PassesOwn.never rfl (pi_range1 (by rfl) T.range (pa_cons (pv 2) pa_nil)) (pg_name (i := 6) sc__law_told.nd rfl (by first | exact Or.inl rfl | exact Or.inr rfl))
      (pss_cons (ps_set (i := 7) sc__law_told.nd rfl (by first | exact Or.inl rfl | exact Or.inr rfl) (pe_meth (pv 0) c_Phones_row.cl m_Phones_row G_Phones_row (hr.mono (by decide)) b_Phones_row .nil pass0 (pa_cons (pv 6) pa_nil)))
        (pss_cons (ps_if (pt_cmpR (op_neD hr.units) (pv 7) (pe_dget1 (hu_of hr) (pv 1) (pv 6) ⟨by rfl, by rfl, by rfl, by rfl⟩) (nomark _))
        (pss_one (ps_ret pe_bl))
        pss_nil)
        (pss_one (ps_if (pt_cmpR op_notN (pv 7) pe_non (nomark _))
        (pss_one (ps_expr (pe_bm PySem.F.plainAttrs_list PySem.F.slot_list_append PySem.F.type_list_append mt_append (pv 7) (pa_cons pe_int pa_nil))))
        pss_nil))))))))))
    (pss_one (ps_ret (pe_and (pe_cmpR op_eq (pe_meth0 (pv 0) c_Phones_is_done.cl m_Phones_is_done G_Phones_is_done (hr.mono (by decide)) b_Phones_is_done .nil pass0) (pe_callB (cr_all (by rfl)) (by rfl) T.all (by decide +kernel) (pa_cons (pe_lock (pe_lc (own := [("_law_person", 6)]) (by rfl) sc__law_told.nd (pi_keys (pv 1)) (blkOk_by (own := [("_law_person", 6)]) (N := ["_law_phones", "_law_rows", "_law_people", "_law_gone", "_law_again", "_law_found", "_law_person", "_law_row"]) (sc := defScope s__law_told) (by decide +kernel)) (fun _ _ _ _ _ => (pg_name (i := 6) sc__law_told.nd rfl (by first | exact Or.inl rfl | exact Or.inr rfl))) (fun _ _ _ _ _ => pts_nil) (fun _ _ _ _ _ => (pe_cmpR (op_eqD hr.units) (pe_dget (hu_of hr) (pv 1) (pv 6) (fun _ _ => rfl)) (pe_lst pa_nil) (nomark _))))) pa_nil)) (nomark _)) (pe_one (pe_callB call_isi (by rfl) T.isinstance (by decide +kernel) (pa_cons (pe_meth0 (pv 0) c_Phones_is_done.cl m_Phones_is_done G_Phones_is_done (hr.mono (by decide)) b_Phones_is_done .nil pass0) (pa_cons (pe_bltn (v := .ty "bool") (by rfl) T.bool (by decide +kernel) rfl) pa_nil)))))))), v__law_toldP h⟩
theorem ok__law_turn {f : Addr} {fd : FuncData} (F : Fun K "_law_turn" "_law_turn" s__law_turn f fd) (T : Blt mg) : FnOk P w K mg base CX0 1 f fd ["_law_orders_here", "_law_rows", "_law_absent"] sp__law_turn := by
  refine F.ok sc__law_turn (fun vs H Q E h => ?_) (fun cdv A outer s H vs Q E hr h => ?_)
  · exact spW_len h
  · refine ⟨t__law_turn K,
    (pss_cons (ps_par (i := 3) (j := 4) (by rfl) sc__law_turn.nd rfl rfl (by decide) rfl rfl (pa_cons (pe_lst pa_nil) (pa_cons pe_dnewK pa_nil)) (by rfl))
    (pss_cons (ps_for PassesOwn.never rfl (pi_list (pe_callB cr_sortedI (by rfl) T.sorted (by decide +kernel) (pa_cons (pe_callTy (call_listD (by rfl)) (by rfl) T.list (by decide +kernel) (pa_cons (pv 1) pa_nil)) pa_nil))) (pg_name (i := 5) sc__law_turn.nd rfl (by first | exact Or.inl rfl | exact Or.inr rfl))
    (pss_one (ps_if (PW.pt (pw_and (pt_cmpR op_notIn_seq (pv 5) (pv 2) (by rfl)) (pw_and1 (pt_cmpR (op_neD hr.units) (pe_dget (hu_of hr) (pv 1) (pv 5) (fun _ _ => rfl)) (pe_lst pa_nil) (nomark _)))))
      (pss_cons (ps_set (i := 6) sc__law_turn.nd rfl (by first | exact Or.inl rfl | exact Or.inr rfl) (pe_ix ix_list (pe_dget (hu_of hr) (pv 1) (pv 5) (fun _ _ => rfl)) pe_int (fun _ _ => rfl)))
        (pss_cons (ps_expr (pe_bm PySem.F.plainAttrs_list PySem.F.slot_list_append PySem.F.type_list_append mt_append (pv 3) (pa_cons (pe_tup (pa_cons (pv 5) (pa_cons (pv 6) (pa_cons (pe_cmpR op_notIn_seq (pv 6) (pv 2) (by rfl)) pa_nil)))) pa_nil)))
        (pss_one (ps_if (pt_cmpR op_in_seq (pv 6) (pv 2) (by rfl))
        (pss_one (ps_dput (hu_of hr) (pv 1) (pv 5) (pe_op op_cat (pe_callTy call_list_of (by rfl) T.list (by decide +kernel) (pa_cons (pe_ix ix_list (pv 0) (pv 6) (fun _ _ => rfl)) pa_nil)) (pe_slice sl_list (pe_dget (hu_of hr) (pv 1) (pv 5) (fun _ _ => rfl)) (po_some pe_int) po_none)) rfl))
        (pss_cons (ps_dput (hu_of hr) (pv 1) (pv 5) (pe_slice sl_list (pe_dget (hu_of hr) (pv 1) (pv 5) (fun _ _ => rfl)) (po_some pe_int) po_none) rfl)
          (pss_one (ps_dput (hu_of hr) (pv 4) (pv 6) (pe_callTy call_list_of (by rfl) T.list (by decide +kernel) (pa_cons (pe_ix ix_list (pv 0) (pv 6) (fun _ _ => rfl)) pa_nil)) rfl)))))))
      pss_nil)))
    (pss_cons (ps_lock (ps_for PassesOwn.never rfl (pi_keys (pv 4)) (pg_name (i := 6) sc__law_turn.nd rfl (by first | exact Or.inl rfl | exact Or.inr rfl))
    (pss_one (ps_dput (hu_of hr) (pv 1) (pv 6) (pe_dget (hu_of hr) (pv 4) (pv 6) (fun _ _ => rfl)) rfl))))
    (pss_one (ps_ret (pv 3)))))), v__law_turn h⟩
theorem ok_check_absent {f : Addr} {fd : FuncData} (F : Fun K "check_absent" "check_absent" s_check_absent f fd) (T : Blt mg) (c_is_between : Dfn P w K mg base "is_between" 2 ["thing", "least", "most"] sp_is_between) : FnOk P w K mg base CX0 3 f fd ["people", "absent"] sp_check_absent := by
  refine F.ok sc_check_absent (fun vs H Q E h => ?_) (fun cdv A outer s H vs Q E hr h => ?_)
  · exact spG_len h fun _ => rfl
  · refine ⟨t_check_absent K,
    (pss_cons (ps_if (PW.pt (pw_or (pt_not (pt_val (pe_callB call_isi (by rfl) T.isinstance (by decide +kernel) (pa_cons (pv 1) (pa_cons (pe_bltn (v := .ty "list") (by rfl) T.list (by decide +kernel) rfl) pa_nil))))) (pw_or1 (pt_not (pt_val (pe_callB (cr_all (by rfl)) (by rfl) T.all (by decide +kernel) (pa_cons (pe_lc (own := [("person", 2)]) (by rfl) sc_check_absent.nd (pi_list (pv 1)) (blkOk_by (own := [("person", 2)]) (N := ["people", "absent", "person", "one", "other"]) (sc := defScope s_check_absent) (by decide +kernel)) (fun _ _ _ _ _ => (pg_name (i := 2) sc_check_absent.nd rfl (by first | exact Or.inl rfl | exact Or.inr rfl))) (fun _ _ _ _ _ => pts_nil) (fun _ _ _ _ _ => (pe_callD c_is_between hr (by decide) (by rfl) (pa_cons (pv 2) (pa_cons pe_int (pa_cons (pe_op op_sub (pv 0) pe_int) pa_nil)))))) pa_nil)))))))
    (pss_one ps_never)
    pss_nil)
    (pss_one (ps_if (pt_val (pe_callB (cr_any (by rfl)) (by rfl) T.any (by decide +kernel) (pa_cons (pe_lc (own := [("one", 3), ("other", 4)]) (by rfl) sc_check_absent.nd (pi_zip (by rfl) T.zip (pa_cons (pv 1) (pa_cons (pe_slice sl_list (pv 1) (po_some pe_int) po_none) pa_nil))) (blkOk_by (own := [("one", 3), ("other", 4)]) (N := ["people", "absent", "person", "one", "other"]) (sc := defScope s_check_absent) (by decide +kernel)) (fun _ _ _ _ _ => (pg_tup (n := 2) rfl (pgs_cons (pg_name (i := 3) sc_check_absent.nd rfl (by first | exact Or.inl rfl | exact Or.inr rfl)) (pgs_cons (pg_name (i := 4) sc_check_absent.nd rfl (by first | exact Or.inl rfl | exact Or.inr rfl)) pgs_nil)))) (fun _ _ _ _ _ => pts_nil) (fun _ _ _ _ _ => (pe_cmpR op_ge (pv 3) (pv 4) (nomark _)))) pa_nil)))
    (pss_one ps_never)
    pss_nil))), v_check_absent h⟩
theorem ok_News_next_of {C_News : Addr} {f : Addr} {fd : FuncData} (F : Fun K "next_of" "News.next_of" s_News_next_of f fd) (T : Blt mg) (T_News : KNews K C_News) : FnOk P w K mg base CX0 1 f fd ["self", "caller"] (sp_News_next_of C_News) := by
  refine F.ok sc_News_next_of (fun vs H Q E h => ?_) (fun cdv A outer s H vs Q E hr h => ?_)
  · (repeat (obtain ⟨_, h⟩ := h)); subst_vars; rfl
  · refine ⟨t_News_next_of K,
    (pss_one (ps_ret (pe_ix ix_list (pe_dget (hu_of hr) (pe_fld (pv 0) rfl) (pv 1) (fun _ _ => rfl)) pe_int (fun _ _ => rfl)))), v_News_next_of T_News h⟩
theorem ok_News_call {C_News : Addr} {f : Addr} {fd : FuncData} (F : Fun K "call" "News.call" s_News_call f fd) (T : Blt mg) (T_News : KNews K C_News) : FnOk P w K mg base CX0 1 f fd ["self", "caller", "answered"] (sp_News_call C_News) := by
  refine F.ok sc_News_call (fun vs H Q E h => ?_) (fun cdv A outer s H vs Q E hr h => ?_)
  · (repeat (obtain ⟨_, h⟩ := h)); subst_vars; rfl
  · refine ⟨t_News_call K,
    (pss_cons (ps_set (i := 3) sc_News_call.nd rfl (by first | exact Or.inl rfl | exact Or.inr rfl) (pe_ix ix_list (pe_dget (hu_of hr) (pe_fld (pv 0) rfl) (pv 1) (fun _ _ => rfl)) pe_int (fun _ _ => rfl)))
    (pss_cons (ps_set (i := 4) sc_News_call.nd rfl (by first | exact Or.inl rfl | exact Or.inr rfl) (pe_slice sl_list (pe_dget (hu_of hr) (pe_fld (pv 0) rfl) (pv 1) (fun _ _ => rfl)) (po_some pe_int) po_none))
    (pss_cons (ps_if (pt_val (pv 2))
    (pss_cons (ps_dput (hu_of hr) (pe_fld (pv 0) rfl) (pv 1) (pv 4) rfl)
      (pss_one (ps_dput (hu_of hr) (pe_fld (pv 0) rfl) (pv 3) (pe_callTy call_list_of (by rfl) T.list (by decide +kernel) (pa_cons (pe_ix ix_list (pe_fld (pv 0) rfl) (pv 3) (fun _ _ => rfl)) pa_nil)) rfl)))
    (pss_one (ps_dput (hu_of hr) (pe_fld (pv 0) rfl) (pv 1) (pe_op op_cat (pe_ix ix_list (pe_fld (pv 0) rfl) (pv 3) (fun _ _ => rfl)) (pv 4)) rfl)))
    (pss_one (ps_ret (pv 3)))))), v_News_call T_News h⟩
theorem ok_News_pass_turn {C_News : Addr} {f : Addr} {fd : FuncData} (F : Fun K "pass_turn" "News.pass_turn" s_News_pass_turn f fd) (T : Blt mg) (T_News : KNews K C_News) (c_News_callers : Mth P w K mg base C_News "callers" 1 ["self"] (sp_News_callers C_News)) (c_News_next_of : Mth P w K mg base C_News "next_of" 1 ["self", "caller"] (sp_News_next_of C_News)) (c_News_call : Mth P w K mg base C_News "call" 1 ["self", "caller", "answered"] (sp_News_call C_News)) : FnOk P w K mg base CX0 2 f fd ["self", "absent", "silent"] (sp_News_pass_turn C_News) := by
  refine F.ok sc_News_pass_turn (fun vs H Q E h => ?_) (fun cdv A outer s H vs Q E hr h => ?_)
  · (repeat (obtain ⟨_, h⟩ := h)); subst_vars; rfl
  · obtain ⟨f_News_callers, fd_News_callers, m_News_callers, b_News_callers, G_News_callers⟩ := c_News_callers.ex
    obtain ⟨f_News_next_of, fd_News_next_of, m_News_next_of, b_News_next_of, G_News_next_of⟩ := c_News_next_of.ex
    obtain ⟨f_News_call, fd_News_call, m_News_call, b_News_call, G_News_call⟩ := c_News_call.ex
    refine ⟨t_News_pass_turn K C_News,
    (pss_cons (ps_set (i := 3) sc_News_pass_turn.nd rfl (by first | exact Or.inl rfl | exact Or.inr rfl) (pe_lst pa_nil))
    (pss_cons (ps_for PassesOwn.never rfl (pi_list (pe_lc (own := [("one", 4)]) (by rfl) sc_News_pass_turn.nd (pi_list (pe_meth0 (pv 0) c_News_callers.cl m_News_callers G_News_callers (hr.mono (by decide)) b_News_callers .nil pass0)) (blkOk_by (own := [("one", 4)]) (N := ["self", "absent", "silent", "found", "one", "caller", "person"]) (sc := defScope s_News_pass_turn) (by decide +kernel)) (fun _ _ _ _ _ => (pg_name (i := 4) sc_News_pass_turn.nd rfl (by first | exact Or.inl rfl | exact Or.inr rfl))) (fun _ _ _ _ _ => (pts_one (pt_cmpR op_notIn_seq (pv 4) (pv 2) (by rfl)))) (fun _ _ _ _ _ => (pv 4)))) (pg_name (i := 5) sc_News_pass_turn.nd rfl (by first | exact Or.inl rfl | exact Or.inr rfl))
    (pss_cons (ps_set (i := 6) sc_News_pass_turn.nd rfl (by first | exact Or.inl rfl | exact Or.inr rfl) (pe_meth (pv 0) c_News_next_of.cl m_News_next_of G_News_next_of (hr.mono (by decide)) b_News_next_of .nil pass0 (pa_cons (pv 5) pa_nil)))
      (pss_cons (ps_expr (pe_bm PySem.F.plainAttrs_list PySem.F.slot_list_append PySem.F.type_list_append mt_append (pv 3) (pa_cons (pe_tup (pa_cons (pv 5) (pa_cons (pv 6) (pa_cons (pe_cmpR op_notIn_seq (pv 6) (pv 1) (by rfl)) pa_nil)))) pa_nil)))
      (pss_one (ps_expr (pe_meth (pv 0) c_News_call.cl m_News_call G_News_call (hr.mono (by decide)) b_News_call .nil pass0 (pa_cons (pv 5) (pa_cons (pe_cmpR op_notIn_seq (pv 6) (pv 1) (by rfl)) pa_nil))))))))
    (pss_one (ps_ret (pv 3))))), v_News_pass_turn T_News h⟩
theorem ok_Phones_pass_round {C_News : Addr} {C_Phones : Addr} {f : Addr} {fd : FuncData} (F : Fun K "pass_round" "Phones.pass_round" s_Phones_pass_round f fd) (T : Blt mg) (T_Phones : KPhones K C_Phones) (c_check_absent : Dfn P w K mg base "check_absent" 3 ["people", "absent"] sp_check_absent) (c_News_pass_turn : Mth P w K mg base C_News "pass_turn" 2 ["self", "absent", "silent"] (sp_News_pass_turn C_News)) : FnOk P w K mg base CX0 4 f fd ["self", "absent"] (sp_Phones_pass_round C_Phones C_News) := by
  refine F.ok sc_Phones_pass_round (fun vs H Q E h => ?_) (fun cdv A outer s H vs Q E hr h => ?_)
  · exact spM_len h fun _ => rfl
  · obtain ⟨f_News_pass_turn, fd_News_pass_turn, m_News_pass_turn, b_News_pass_turn, G_News_pass_turn⟩ := c_News_pass_turn.ex
    refine ⟨t_Phones_pass_round K C_News,
    (pss_cons (ps_expr (pe_callD c_check_absent hr (by decide) (by rfl) (pa_cons (pe_fld (pv 0) rfl) (pa_cons (pv 1) pa_nil))))
    (pss_cons (ps_fldaug (pv 0) pe_int in_add)
    (pss_one (ps_ret (pe_meth (pe_fld (pv 0) rfl) c_News_pass_turn.cl m_News_pass_turn G_News_pass_turn (hr.mono (by decide)) b_News_pass_turn .nil pass0 (pa_cons (pv 1) (pa_cons (pv 1) pa_nil))))))), v_Phones_pass_round T_Phones h⟩
theorem ok__law_two_right {C_Phones : Addr} {C_News : Addr} {f : Addr} {fd : FuncData} (F : Fun K "_law_two_right" "_law_two_right" s__law_two_right f fd) (T : Blt mg) (c_Phones : Ctr P w K mg base "Phones" C_Phones 5 ["self", "orders"] (sp_Phones___init__ C_Phones C_News)) (c_Phones_pass_round : Mth P w K mg base C_Phones "pass_round" 4 ["self", "absent"] (sp_Phones_pass_round C_Phones C_News)) (c_Phones_is_done : Mth P w K mg base C_Phones "is_done" 2 ["self"] (sp_Phones_is_done C_Phones C_News)) (c_Phones_row : Mth P w K mg base C_Phones "row" 3 ["self", "person"] (sp_Phones_row C_Phones C_News)) (c_Phones_gone : Mth P w K mg base C_Phones "gone" 1 ["self"] (sp_Phones_gone C_Phones C_News)) (c_Phones_knowing : Mth P w K mg base C_Phones "knowing" 1 ["self"] (sp_Phones_knowing C_Phones C_News)) : FnOk P w K mg base CX0 7 f fd [] sp__law_two_right := by
  refine F.ok sc__law_two_right (fun vs H Q E h => ?_) (fun cdv A outer s H vs Q E hr h => ?_)
  · exact spG_len h fun _ => rfl
  · obtain ⟨f_Phones_pass_round, fd_Phones_pass_round, m_Phones_pass_round, b_Phones_pass_round, G_Phones_pass_round⟩ := c_Phones_pass_round.ex
    obtain ⟨f_Phones_is_done, fd_Phones_is_done, m_Phones_is_done, b_Phones_is_done, G_Phones_is_done⟩ := c_Phones_is_done.ex
    obtain ⟨f_Phones_row, fd_Phones_row, m_Phones_row, b_Phones_row, G_Phones_row⟩ := c_Phones_row.ex
    obtain ⟨f_Phones_gone, fd_Phones_gone, m_Phones_gone, b_Phones_gone, G_Phones_gone⟩ := c_Phones_gone.ex
    obtain ⟨f_Phones_knowing, fd_Phones_knowing, m_Phones_knowing, b_Phones_knowing, G_Phones_knowing⟩ := c_Phones_knowing.ex
    refine ⟨t__law_two_right K C_Phones C_News,
    (pss_cons (ps_set (i := 0) sc__law_two_right.nd rfl (by first | exact Or.inl rfl | exact Or.inr rfl) (pe_lst (pa_cons (pe_lst (pa_cons pe_int (pa_cons pe_int pa_nil))) (pa_cons (pe_lst (pa_cons pe_int pa_nil)) (pa_cons (pe_lst pa_nil) (pa_cons (pe_lst pa_nil) pa_nil))))))
    (pss_cons (ps_par (i := 1) (j := 2) (by rfl) sc__law_two_right.nd rfl rfl (by decide) rfl rfl (pa_cons (pe_makeD c_Phones hr (by decide) (by rfl) (pa_cons (pv 0) pa_nil)) (pa_cons (pe_makeD c_Phones hr (by decide) (by rfl) (pa_cons (pv 0) pa_nil)) pa_nil)) (by rfl))
    (pss_cons (ps_set (i := 3) sc__law_two_right.nd rfl (by first | exact Or.inl rfl | exact Or.inr rfl) (pe_lst (pa_cons (pe_meth (pv 1) c_Phones_pass_round.cl m_Phones_pass_round G_Phones_pass_round (hr.mono (by decide)) b_Phones_pass_round .nil pass0 (pa_cons (pe_lst (pa_cons pe_int pa_nil)) pa_nil)) (pa_cons (pe_meth (pv 1) c_Phones_pass_round.cl m_Phones_pass_round G_Phones_pass_round (hr.mono (by decide)) b_Phones_pass_round .nil pass0 (pa_cons (pe_lst (pa_cons pe_int (pa_cons pe_int pa_nil))) pa_nil)) (pa_cons (pe_meth0 (pv 1) c_Phones_is_done.cl m_Phones_is_done G_Phones_is_done (hr.mono (by decide)) b_Phones_is_done .nil pass0) (pa_cons (pe_meth (pv 1) c_Phones_row.cl m_Phones_row G_Phones_row (hr.mono (by decide)) b_Phones_row .nil pass0 (pa_cons pe_int pa_nil)) (pa_cons (pe_meth (pv 1) c_Phones_pass_round.cl m_Phones_pass_round G_Phones_pass_round (hr.mono (by decide)) b_Phones_pass_round .nil pass0 (pa_cons (pe_lst pa_nil) pa_nil)) pa_nil)))))))
    (pss_cons (ps_if (pt_cmpR (op_neD hr.units) (pv 3) (pe_lst (pa_cons (pe_lst (pa_cons (pe_tup (pa_cons pe_int (pa_cons pe_int (pa_cons pe_bl pa_nil)))) pa_nil)) (pa_cons (pe_lst (pa_cons (pe_tup (pa_cons pe_int (pa_cons pe_int (pa_cons pe_bl pa_nil)))) pa_nil)) (pa_cons pe_bl (pa_cons (pe_lst (pa_cons pe_int pa_nil)) (pa_cons (pe_lst (pa_cons (pe_tup (pa_cons pe_int (pa_cons pe_int (pa_cons pe_bl pa_nil)))) pa_nil)) pa_nil)))))) (nomark _))
    (pss_one (ps_ret pe_bl))
    pss_nil)
    (pss_cons (ps_if (PW.pt (pw_or (pt_cmpR op_ne (pe_meth0 (pv 2) c_Phones_gone.cl m_Phones_gone G_Phones_gone (hr.mono (by decide)) b_Phones_gone .nil pass0) pe_int (nomark _)) (pw_or (pt_cmpR (op_neD hr.units) (pe_meth0 (pv 2) c_Phones_knowing.cl m_Phones_knowing G_Phones_knowing (hr.mono (by decide)) b_Phones_knowing .nil pass0) (pe_lst (pa_cons pe_int pa_nil)) (nomark _)) (pw_or (pt_cmpR (op_neD hr.units) (pe_meth (pv 2) c_Phones_row.cl m_Phones_row G_Phones_row (hr.mono (by decide)) b_Phones_row .nil pass0 (pa_cons pe_int pa_nil)) (pe_lst (pa_cons pe_int (pa_cons pe_int pa_nil))) (nomark _)) (pw_or1 (pt_cmpR (op_neD hr.units) (pv 0) (pe_lst (pa_cons (pe_lst (pa_cons pe_int (pa_cons pe_int pa_nil))) (pa_cons (pe_lst (pa_cons pe_int pa_nil)) (pa_cons (pe_lst pa_nil) (pa_cons (pe_lst pa_nil) pa_nil))))) (nomark _)))))))
    (pss_one (ps_ret pe_bl))
    pss_nil)
    (pss_cons (ps_if (PW.pt (pw_or (pt_cmpR (op_neD hr.units) (pe_meth (pv 2) c_Phones_pass_round.cl m_Phones_pass_round G_Phones_pass_round (hr.mono (by decide)) b_Phones_pass_round .nil pass0 (pa_cons (pe_lst pa_nil) pa_nil)) (pe_lst (pa_cons (pe_tup (pa_cons pe_int (pa_cons pe_int (pa_cons pe_bl pa_nil)))) pa_nil)) (nomark _)) (pw_or1 (pt_cmpR (op_neD hr.units) (pe_meth (pv 2) c_Phones_pass_round.cl m_Phones_pass_round G_Phones_pass_round (hr.mono (by decide)) b_Phones_pass_round .nil pass0 (pa_cons (pe_lst (pa_cons pe_int pa_nil)) pa_nil)) (pe_lst (pa_cons (pe_tup (pa_cons pe_int (pa_cons pe_int (pa_cons pe_bl pa_nil)))) (pa_cons (pe_tup (pa_cons pe_int (pa_cons pe_int (pa_cons pe_bl pa_nil)))) pa_nil))) (nomark _)))))
    (pss_one (ps_ret pe_bl))
    pss_nil)
    (pss_one (ps_ret (pe_and (pe_cmpR op_isBl (pe_meth0 (pv 1) c_Phones_is_done.cl m_Phones_is_done G_Phones_is_done (hr.mono (by decide)) b_Phones_is_done .nil pass0) pe_bl (nomark _)) (pe_and (pe_cmpR op_isN (pe_meth (pv 1) c_Phones_row.cl m_Phones_row G_Phones_row (hr.mono (by decide)) b_Phones_row .nil pass0 (pa_cons pe_int pa_nil)) pe_non (nomark _)) (pe_and (pe_cmpR (op_eqD hr.units) (pe_meth0 (pv 1) c_Phones_knowing.cl m_Phones_knowing G_Phones_knowing (hr.mono (by decide)) b_Phones_knowing .nil pass0) (pe_lst (pa_cons pe_int (pa_cons pe_int (pa_cons pe_int pa_nil)))) (nomark _)) (pe_one (pe_cmpR op_eq (pe_meth0 (pv 1) c_Phones_gone.cl m_Phones_gone G_Phones_gone (hr.mono (by decide)) b_Phones_gone .nil pass0) pe_int (nomark _)))))))))))))), v__law_two_right h⟩
theorem ok_law {C_Phones : Addr} {C_News : Addr} {f : Addr} {fd : FuncData} (F : Fun K "law" "law" s_law f fd) (T : Blt mg) (c__law_orders : Dfn P w K mg base "_law_orders" 3 ["_law_script", "_law_by", "_law_most"] (sp__law_orders K)) (c_Phones : Ctr P w K mg base "Phones" C_Phones 5 ["self", "orders"] (sp_Phones___init__ C_Phones C_News)) (c__law_told : Dfn P w K mg base "_law_told" 4 ["_law_phones", "_law_rows", "_law_people", "_law_gone"] (sp__law_toldP C_Phones C_News)) (c__law_number : Dfn P w K mg base "_law_number" 1 ["_law_cell", "_law_at", "_law_whole"] sp__law_number) (c__law_turn : Dfn P w K mg base "_law_turn" 1 ["_law_orders_here", "_law_rows", "_law_absent"] sp__law_turn) (c__law_two_right : Dfn P w K mg base "_law_two_right" 7 [] sp__law_two_right) (c_Phones_pass_round : Mth P w K mg base C_Phones "pass_round" 4 ["self", "absent"] (sp_Phones_pass_round C_Phones C_News)) : FnOk P w K mg base CX0 8 f fd ["_law_script"] (sp_law K) := by
  refine F.ok sc_law (fun vs H Q E h => ?_) (fun cdv A outer s H vs Q E hr h => ?_)
  · (repeat (obtain ⟨_, h⟩ := h)); subst_vars; rfl
  · obtain ⟨f_Phones_pass_round, fd_Phones_pass_round, m_Phones_pass_round, b_Phones_pass_round, G_Phones_pass_round⟩ := c_Phones_pass_round.ex
    refine ⟨t_law_k10 K C_Phones C_News,
    (pss_cons (ps_set (i := 1) sc_law.nd rfl (by first | exact Or.inl rfl | exact Or.inr rfl) (pe_ifExp (pt_cmpR (op_neD hr.units) (pv 0) (pe_lst pa_nil) (nomark _)) (pe_slice sl_list (pv 0) po_none (po_some pe_int)) (pe_lst (pa_cons pe_int pa_nil))))
    (pss_cons (ps_par (i := 2) (j := 3) (by rfl) sc_law.nd rfl rfl (by decide) rfl rfl (pa_cons (pe_callB (cr_sum (by rfl)) (by rfl) T.sum (by decide +kernel) (pa_cons (pv 1) pa_nil)) (pa_cons (pe_callD c__law_orders hr (by decide) (by rfl) (pa_cons (pv 0) (pa_cons pe_int (pa_cons (pe_ifExp (pt_cmpR op_eq (pe_op op_mod (pe_callB (cr_sum (by rfl)) (by rfl) T.sum (by decide +kernel) (pa_cons (pv 1) pa_nil)) pe_int) pe_int (nomark _)) pe_int pe_int) pa_nil)))) pa_nil)) (by rfl))
    (pss_cons (ps_par (i := 5) (j := 6) (by rfl) sc_law.nd rfl rfl (by decide) rfl rfl (pa_cons (pe_lc (own := [("_law_row", 4)]) (by rfl) sc_law.nd (pi_list (pv 3)) (blkOk_by (own := [("_law_row", 4)]) (N := ["_law_script", "_law_cells", "_law_whole", "_law_orders_here", "_law_row", "_law_handed", "_law_people", "_law_phones", "_law_rows", "_law_gone", "_law_at", "_law_number_here", "_law_wide", "_law_one", "_law_absent", "_law_mine", "_law_found", "_law_due"]) (sc := defScope s_law) (by decide +kernel)) (fun _ _ _ _ _ => (pg_name (i := 4) sc_law.nd rfl (by first | exact Or.inl rfl | exact Or.inr rfl))) (fun _ _ _ _ _ => pts_nil) (fun _ _ _ _ _ => (pe_callTy call_list_of (by rfl) T.list (by decide +kernel) (pa_cons (pv 4) pa_nil)))) (pa_cons (pe_callB call_len_seq (by rfl) T.len PySem.boot_len (pa_cons (pv 3) pa_nil)) pa_nil)) (by rfl))
    (pss_cons (ps_par3 (i := 7) (j := 8) (l := 9) (by rfl) sc_law.nd rfl rfl rfl (by decide) (by decide) (by decide) rfl rfl rfl (pa_cons (pe_makeD c_Phones hr (by decide) (by rfl) (pa_cons (pv 5) pa_nil)) (pa_cons pe_dnewK (pa_cons pe_int pa_nil))) (by rfl))
    (pss_cons (ps_dput (hu_of hr) (pv 8) pe_int (pe_callTy call_list_of (by rfl) T.list (by decide +kernel) (pa_cons (pe_ix ix_list (pv 3) pe_int (fun _ _ => rfl)) pa_nil)) rfl)
    (pss_cons (ps_for PassesOwn.never rfl (pi_list (pv 5)) (pg_name (i := 4) sc_law.nd rfl (by first | exact Or.inl rfl | exact Or.inr rfl))
    (pss_one (ps_expr (pe_bm PySem.F.plainAttrs_list PySem.F.slot_list_append PySem.F.type_list_append mt_append (pv 4) (pa_cons pe_int pa_nil)))))
    (pss_cons (ps_if (pt_not (pt_val (pe_callD c__law_told hr (by decide) (by rfl) (pa_cons (pv 7) (pa_cons (pv 8) (pa_cons (pv 6) (pa_cons pe_int pa_nil)))))))
    (pss_one (ps_ret pe_bl))
    pss_nil)
    (pss_cons (ps_for PassesOwn.never rfl (pi_range1 (by rfl) T.range (pa_cons (pe_callB (call_min2 (by rfl)) (by rfl) T.min (by decide +kernel) (pa_cons pe_int (pa_cons (pe_op op_mul pe_int (pv 6)) pa_nil))) pa_nil)) (pg_name (i := 10) sc_law.nd rfl (by first | exact Or.inl rfl | exact Or.inr rfl))
    (pss_cons (ps_set (i := 11) sc_law.nd rfl (by first | exact Or.inl rfl | exact Or.inr rfl) (pe_op op_fdiv (pe_callD c__law_number hr (by decide) (by rfl) (pa_cons (pe_op op_add (pe_ix ix_list (pv 1) (pe_op op_mod (pv 10) (pe_callB call_len_seq (by rfl) T.len PySem.boot_len (pa_cons (pv 1) pa_nil))) (fun _ _ => rfl)) (pe_op op_mul pe_int (pv 10))) (pa_cons (pv 10) (pa_cons (pv 2) pa_nil)))) pe_int))
      (pss_cons (ps_set (i := 12) sc_law.nd rfl (by first | exact Or.inl rfl | exact Or.inr rfl) (pe_ix ix_tup (pe_tup (pa_cons pe_int (pa_cons pe_int (pa_cons pe_int (pa_cons pe_int pa_nil))))) (pe_op op_mod (pv 11) pe_int) (fun _ _ => rfl)))
      (pss_cons (ps_setLc (i := 14) (own := [("_law_one", 13)]) (by rfl) sc_law.nd rfl rfl (sw_true rfl rfl rfl (by decide +kernel)) (pi_range2 (by rfl) T.range (pa_cons pe_int (pa_cons (pv 6) pa_nil))) (blkOk_by (own := [("_law_one", 13)]) (N := ["_law_script", "_law_cells", "_law_whole", "_law_orders_here", "_law_row", "_law_handed", "_law_people", "_law_phones", "_law_rows", "_law_gone", "_law_at", "_law_number_here", "_law_wide", "_law_one", "_law_absent", "_law_mine", "_law_found", "_law_due"]) (sc := defScope s_law) (by decide +kernel)) (fun _ _ _ _ _ => (pg_name (i := 13) sc_law.nd rfl (by first | exact Or.inl rfl | exact Or.inr rfl))) (fun _ _ _ _ _ => (pts_one (PW.pt (pw_and (pt_cmpR op_gt (pv 12) pe_int (nomark _)) (pw_and1 (pt_cmpR op_eq (pe_op op_mod (pe_op op_add (pe_op op_fdiv (pv 11) pe_int) (pe_op op_mul (pv 13) (pv 13))) (pv 12)) pe_int (nomark _))))))) (fun _ _ _ _ _ => (pv 13)))
      (pss_cons (ps_par (i := 15) (j := 9) (by rfl) sc_law.nd rfl rfl (by decide) rfl rfl (pa_cons (pe_callTy call_list_of (by rfl) T.list (by decide +kernel) (pa_cons (pv 14) pa_nil)) (pa_cons (pe_op op_add (pv 9) pe_int) pa_nil)) (by rfl))
      (pss_cons (ps_par (i := 16) (j := 17) (by rfl) sc_law.nd rfl rfl (by decide) rfl rfl (pa_cons (pe_meth (pv 7) c_Phones_pass_round.cl m_Phones_pass_round G_Phones_pass_round (hr.mono (by decide)) b_Phones_pass_round .nil pass0 (pa_cons (pv 15) pa_nil)) (pa_cons (pe_callD c__law_turn hr (by decide) (by rfl) (pa_cons (pv 3) (pa_cons (pv 8) (pa_cons (pv 14) pa_nil)))) pa_nil)) (by rfl))
      (pss_cons (ps_if (PW.pt (pw_or (pt_cmpR (op_neD hr.units) (pv 16) (pv 17) (nomark _)) (pw_or (pt_cmpR (op_neD hr.units) (pv 15) (pv 14) (nomark _)) (pw_or1 (pt_not (pt_val (pe_callB call_isi (by rfl) T.isinstance (by decide +kernel) (pa_cons (pv 16) (pa_cons (pe_bltn (v := .ty "list") (by rfl) T.list (by decide +kernel) rfl) pa_nil)))))))))
      (pss_one (ps_ret pe_bl))
      pss_nil)
      (pss_cons (ps_expr (pe_bm PySem.F.plainAttrs_list PySem.F.slot_list_append PySem.F.type_list_append mt_append (pv 16) (pa_cons (pe_tup pa_nil) pa_nil)))
      (pss_cons (ps_expr (pe_bm PySem.F.plainAttrs_list PySem.F.slot_list_append PySem.F.type_list_append mt_append (pv 15) (pa_cons pe_int pa_nil)))
      (pss_one (ps_if (PW.pt (pw_and (pt_cmpR op_eq (pe_op op_mod (pv 10) pe_int) (pe_op op_mod (pv 2) pe_int) (nomark _)) (pw_and1 (pt_not (pt_val (pe_callD c__law_told hr (by decide) (by rfl) (pa_cons (pv 7) (pa_cons (pv 8) (pa_cons (pv 6) (pa_cons (pv 9) pa_nil))))))))))
      (pss_one (ps_ret pe_bl))
      pss_nil)))))))))))
    (pss_cons (ps_if (pt_not (pt_val (pe_callD c__law_told hr (by decide) (by rfl) (pa_cons (pv 7) (pa_cons (pv 8) (pa_cons (pv 6) (pa_cons (pv 9) pa_nil)))))))
    (pss_one (ps_ret pe_bl))
    pss_nil)
    (pss_one (ps_ret (pe_callD0 c__law_two_right hr (by decide) (by rfl))))))))))))), v_law_k10 h⟩
end
theorem all_mk {l : PySem.W.OpenLaw} {w : World} {K : PySem.W.Frag} {h : Heap} {mg : Str → Option Value} {fa : Addr} (X : K.In h) (G : h.Ns mainGlobals mg) (hfa : mg "law" = some (.ref fa)) {C_News : Addr} {C_Phones : Addr} {tk_MOST_PEOPLE : Tok} {f__law_number : Addr} {od__law_number an__law_number : Option Addr} {sl__law_number : Array (Option Value)} {oc__law_number kV__law_number dc__law_number pm__law_number cd__law_number ct__law_number : Value} {f__law_ups : Addr} {od__law_ups an__law_ups : Option Addr} {sl__law_ups : Array (Option Value)} {oc__law_ups kV__law_ups dc__law_ups pm__law_ups cd__law_ups ct__law_ups : Value} {f__law_orders : Addr} {od__law_orders an__law_orders : Option Addr} {sl__law_orders : Array (Option Value)} {oc__law_orders kV__law_orders dc__law_orders pm__law_orders cd__law_orders ct__law_orders : Value} {f_is_whole : Addr} {od_is_whole an_is_whole : Option Addr} {sl_is_whole : Array (Option Value)} {oc_is_whole kV_is_whole dc_is_whole pm_is_whole cd_is_whole ct_is_whole : Value} {f_is_between : Addr} {od_is_between an_is_between : Option Addr} {sl_is_between : Array (Option Value)} {oc_is_between kV_is_between dc_is_between pm_is_between cd_is_between ct_is_between : Value} {f_come_to : Addr} {od_come_to an_come_to : Option Addr} {sl_come_to : Array (Option Value)} {oc_come_to kV_come_to dc_come_to pm_come_to cd_come_to ct_come_to : Value} {f_are_orders : Addr} {od_are_orders an_are_orders : Option Addr} {sl_are_orders : Array (Option Value)} {oc_are_orders kV_are_orders dc_are_orders pm_are_orders cd_are_orders ct_are_orders : Value} {f_check_orders : Addr} {od_check_orders an_check_orders : Option Addr} {sl_check_orders : Array (Option Value)} {oc_check_orders kV_check_orders dc_check_orders pm_check_orders cd_check_orders ct_check_orders : Value} {f_News___init__ : Addr} {od_News___init__ an_News___init__ : Option Addr} {sl_News___init__ : Array (Option Value)} {oc_News___init__ kV_News___init__ dc_News___init__ pm_News___init__ cd_News___init__ ct_News___init__ : Value} {f_Phones___init__ : Addr} {od_Phones___init__ an_Phones___init__ : Option Addr} {sl_Phones___init__ : Array (Option Value)} {oc_Phones___init__ kV_Phones___init__ dc_Phones___init__ pm_Phones___init__ cd_Phones___init__ ct_Phones___init__ : Value} {f_Phones_knowing : Addr} {od_Phones_knowing an_Phones_knowing : Option Addr} {sl_Phones_knowing : Array (Option Value)} {oc_Phones_knowing kV_Phones_knowing dc_Phones_knowing pm_Phones_knowing cd_Phones_knowing ct_Phones_knowing : Value} {f_Phones_gone : Addr} {od_Phones_gone an_Phones_gone : Option Addr} {sl_Phones_gone : Array (Option Value)} {oc_Phones_gone kV_Phones_gone dc_Phones_gone pm_Phones_gone cd_Phones_gone ct_Phones_gone : Value} {f_Phones_row : Addr} {od_Phones_row an_Phones_row : Option Addr} {sl_Phones_row : Array (Option Value)} {oc_Phones_row kV_Phones_row dc_Phones_row pm_Phones_row cd_Phones_row ct_Phones_row : Value} {f_News_callers : Addr} {od_News_callers an_News_callers : Option Addr} {sl_News_callers : Array (Option Value)} {oc_News_callers kV_News_callers dc_News_callers pm_News_callers cd_News_callers ct_News_callers : Value} {f_Phones_is_done : Addr} {od_Phones_is_done an_Phones_is_done : Option Addr} {sl_Phones_is_done : Array (Option Value)} {oc_Phones_is_done kV_Phones_is_done dc_Phones_is_done pm_Phones_is_done cd_Phones_is_done ct_Phones_is_done : Value} {f__law_told : Addr} {od__law_told an__law_told : Option Addr} {sl__law_told : Array (Option Value)} {oc__law_told kV__law_told dc__law_told pm__law_told cd__law_told ct__law_told : Value} {f__law_turn : Addr} {od__law_turn an__law_turn : Option Addr} {sl__law_turn : Array (Option Value)} {oc__law_turn kV__law_turn dc__law_turn pm__law_turn cd__law_turn ct__law_turn : Value} {f_check_absent : Addr} {od_check_absent an_check_absent : Option Addr} {sl_check_absent : Array (Option Value)} {oc_check_absent kV_check_absent dc_check_absent pm_check_absent cd_check_absent ct_check_absent : Value} {f_News_next_of : Addr} {od_News_next_of an_News_next_of : Option Addr} {sl_News_next_of : Array (Option Value)} {oc_News_next_of kV_News_next_of dc_News_next_of pm_News_next_of cd_News_next_of ct_News_next_of : Value} {f_News_call : Addr} {od_News_call an_News_call : Option Addr} {sl_News_call : Array (Option Value)} {oc_News_call kV_News_call dc_News_call pm_News_call cd_News_call ct_News_call : Value} {f_News_pass_turn : Addr} {od_News_pass_turn an_News_pass_turn : Option Addr} {sl_News_pass_turn : Array (Option Value)} {oc_News_pass_turn kV_News_pass_turn dc_News_pass_turn pm_News_pass_turn cd_News_pass_turn ct_News_pass_turn : Value} {f_Phones_pass_round : Addr} {od_Phones_pass_round an_Phones_pass_round : Option Addr} {sl_Phones_pass_round : Array (Option Value)} {oc_Phones_pass_round kV_Phones_pass_round dc_Phones_pass_round pm_Phones_pass_round cd_Phones_pass_round ct_Phones_pass_round : Value} {f__law_two_right : Addr} {od__law_two_right an__law_two_right : Option Addr} {sl__law_two_right : Array (Option Value)} {oc__law_two_right kV__law_two_right dc__law_two_right pm__law_two_right cd__law_two_right ct__law_two_right : Value} {f_law : Addr} {od_law an_law : Option Addr} {sl_law : Array (Option Value)} {oc_law kV_law dc_law pm_law cd_law ct_law : Value}
    (aC_News : PySem.W.nsIn K mainGlobals "News" = some (some (.ref C_News)))
    (pg_News : PySem.W.plainGet K C_News Str.empty = true)
    (hd_News : PySem.W.hasDictIn K C_News = true)
    (po_News : PySem.W.plainOver K C_News = true)
    (sa_News : PySem.W.findIn K (.ref C_News) "__setattr__" = some (some (.builtin "object.__setattr__")))
    (mk_News : PySem.W.makesIn K C_News = true)
    (kc_News : PySem.W.keepIn K (.ref C_News) = true)
    (n_News_orders : PySem.W.findIn K (.ref C_News) "orders" = some none)
    (n_News_rows : PySem.W.findIn K (.ref C_News) "rows" = some none)
    (aC_Phones : PySem.W.nsIn K mainGlobals "Phones" = some (some (.ref C_Phones)))
    (pg_Phones : PySem.W.plainGet K C_Phones Str.empty = true)
    (hd_Phones : PySem.W.hasDictIn K C_Phones = true)
    (po_Phones : PySem.W.plainOver K C_Phones = true)
    (sa_Phones : PySem.W.findIn K (.ref C_Phones) "__setattr__" = some (some (.builtin "object.__setattr__")))
    (mk_Phones : PySem.W.makesIn K C_Phones = true)
    (kc_Phones : PySem.W.keepIn K (.ref C_Phones) = true)
    (n_Phones_news : PySem.W.findIn K (.ref C_Phones) "news" = some none)
    (n_Phones_people : PySem.W.findIn K (.ref C_Phones) "people" = some none)
    (n_Phones_turns : PySem.W.findIn K (.ref C_Phones) "turns" = some none)
    (a__law_number : PySem.W.nsIn K mainGlobals "_law_number" = some (some (.ref f__law_number)))
    (l__law_number : K.lookup f__law_number = some ⟨oc__law_number, od__law_number, .func (PySem.W.fnOf "_law_number" "_law_number" (defArgs s__law_number) (defBody s__law_number) (defScope s__law_number) .none kV__law_number dc__law_number pm__law_number an__law_number cd__law_number ct__law_number), sl__law_number⟩)
    (c__law_number : PySem.W.codeIn K cd__law_number "_law_number" = true)
    (k__law_number : PySem.W.keepIn K (.ref f__law_number) = true)
    (a__law_ups : PySem.W.nsIn K mainGlobals "_law_ups" = some (some (.ref f__law_ups)))
    (l__law_ups : K.lookup f__law_ups = some ⟨oc__law_ups, od__law_ups, .func (PySem.W.fnOf "_law_ups" "_law_ups" (defArgs s__law_ups) (defBody s__law_ups) (defScope s__law_ups) .none kV__law_ups dc__law_ups pm__law_ups an__law_ups cd__law_ups ct__law_ups), sl__law_ups⟩)
    (c__law_ups : PySem.W.codeIn K cd__law_ups "_law_ups" = true)
    (k__law_ups : PySem.W.keepIn K (.ref f__law_ups) = true)
    (a__law_orders : PySem.W.nsIn K mainGlobals "_law_orders" = some (some (.ref f__law_orders)))
    (l__law_orders : K.lookup f__law_orders = some ⟨oc__law_orders, od__law_orders, .func (PySem.W.fnOf "_law_orders" "_law_orders" (defArgs s__law_orders) (defBody s__law_orders) (defScope s__law_orders) .none kV__law_orders dc__law_orders pm__law_orders an__law_orders cd__law_orders ct__law_orders), sl__law_orders⟩)
    (c__law_orders : PySem.W.codeIn K cd__law_orders "_law_orders" = true)
    (k__law_orders : PySem.W.keepIn K (.ref f__law_orders) = true)
    (a_is_whole : PySem.W.nsIn K mainGlobals "is_whole" = some (some (.ref f_is_whole)))
    (l_is_whole : K.lookup f_is_whole = some ⟨oc_is_whole, od_is_whole, .func (PySem.W.fnOf "is_whole" "is_whole" (defArgs s_is_whole) (defBody s_is_whole) (defScope s_is_whole) .none kV_is_whole dc_is_whole pm_is_whole an_is_whole cd_is_whole ct_is_whole), sl_is_whole⟩)
    (c_is_whole : PySem.W.codeIn K cd_is_whole "is_whole" = true)
    (k_is_whole : PySem.W.keepIn K (.ref f_is_whole) = true)
    (a_is_between : PySem.W.nsIn K mainGlobals "is_between" = some (some (.ref f_is_between)))
    (l_is_between : K.lookup f_is_between = some ⟨oc_is_between, od_is_between, .func (PySem.W.fnOf "is_between" "is_between" (defArgs s_is_between) (defBody s_is_between) (defScope s_is_between) .none kV_is_between dc_is_between pm_is_between an_is_between cd_is_between ct_is_between), sl_is_between⟩)
    (c_is_between : PySem.W.codeIn K cd_is_between "is_between" = true)
    (k_is_between : PySem.W.keepIn K (.ref f_is_between) = true)
    (a_come_to : PySem.W.nsIn K mainGlobals "come_to" = some (some (.ref f_come_to)))
    (l_come_to : K.lookup f_come_to = some ⟨oc_come_to, od_come_to, .func (PySem.W.fnOf "come_to" "come_to" (defArgs s_come_to) (defBody s_come_to) (defScope s_come_to) .none kV_come_to dc_come_to pm_come_to an_come_to cd_come_to ct_come_to), sl_come_to⟩)
    (c_come_to : PySem.W.codeIn K cd_come_to "come_to" = true)
    (k_come_to : PySem.W.keepIn K (.ref f_come_to) = true)
    (a_are_orders : PySem.W.nsIn K mainGlobals "are_orders" = some (some (.ref f_are_orders)))
    (l_are_orders : K.lookup f_are_orders = some ⟨oc_are_orders, od_are_orders, .func (PySem.W.fnOf "are_orders" "are_orders" (defArgs s_are_orders) (defBody s_are_orders) (defScope s_are_orders) .none kV_are_orders dc_are_orders pm_are_orders an_are_orders cd_are_orders ct_are_orders), sl_are_orders⟩)
    (c_are_orders : PySem.W.codeIn K cd_are_orders "are_orders" = true)
    (k_are_orders : PySem.W.keepIn K (.ref f_are_orders) = true)
    (a_check_orders : PySem.W.nsIn K mainGlobals "check_orders" = some (some (.ref f_check_orders)))
    (l_check_orders : K.lookup f_check_orders = some ⟨oc_check_orders, od_check_orders, .func (PySem.W.fnOf "check_orders" "check_orders" (defArgs s_check_orders) (defBody s_check_orders) (defScope s_check_orders) .none kV_check_orders dc_check_orders pm_check_orders an_check_orders cd_check_orders ct_check_orders), sl_check_orders⟩)
    (c_check_orders : PySem.W.codeIn K cd_check_orders "check_orders" = true)
    (k_check_orders : PySem.W.keepIn K (.ref f_check_orders) = true)
    (a_News___init__ : PySem.W.findIn K (.ref C_News) "__init__" = some (some (.ref f_News___init__)))
    (i_News___init__ : PySem.W.isFn K (.ref f_News___init__) = true)
    (l_News___init__ : K.lookup f_News___init__ = some ⟨oc_News___init__, od_News___init__, .func (PySem.W.fnOf "__init__" "News.__init__" (defArgs s_News___init__) (defBody s_News___init__) (defScope s_News___init__) .none kV_News___init__ dc_News___init__ pm_News___init__ an_News___init__ cd_News___init__ ct_News___init__), sl_News___init__⟩)
    (c_News___init__ : PySem.W.codeIn K cd_News___init__ "News.__init__" = true)
    (k_News___init__ : PySem.W.keepIn K (.ref f_News___init__) = true)
    (a_Phones___init__ : PySem.W.findIn K (.ref C_Phones) "__init__" = some (some (.ref f_Phones___init__)))
    (i_Phones___init__ : PySem.W.isFn K (.ref f_Phones___init__) = true)
    (l_Phones___init__ : K.lookup f_Phones___init__ = some ⟨oc_Phones___init__, od_Phones___init__, .func (PySem.W.fnOf "__init__" "Phones.__init__" (defArgs s_Phones___init__) (defBody s_Phones___init__) (defScope s_Phones___init__) .none kV_Phones___init__ dc_Phones___init__ pm_Phones___init__ an_Phones___init__ cd_Phones___init__ ct_Phones___init__), sl_Phones___init__⟩)
    (c_Phones___init__ : PySem.W.codeIn K cd_Phones___init__ "Phones.__init__" = true)
    (k_Phones___init__ : PySem.W.keepIn K (.ref f_Phones___init__) = true)
    (a_Phones_knowing : PySem.W.findIn K (.ref C_Phones) "knowing" = some (some (.ref f_Phones_knowing)))
    (i_Phones_knowing : PySem.W.isFn K (.ref f_Phones_knowing) = true)
    (l_Phones_knowing : K.lookup f_Phones_knowing = some ⟨oc_Phones_knowing, od_Phones_knowing, .func (PySem.W.fnOf "knowing" "Phones.knowing" (defArgs s_Phones_knowing) (defBody s_Phones_knowing) (defScope s_Phones_knowing) .none kV_Phones_knowing dc_Phones_knowing pm_Phones_knowing an_Phones_knowing cd_Phones_knowing ct_Phones_knowing), sl_Phones_knowing⟩)
    (c_Phones_knowing : PySem.W.codeIn K cd_Phones_knowing "Phones.knowing" = true)
    (k_Phones_knowing : PySem.W.keepIn K (.ref f_Phones_knowing) = true)
    (a_Phones_gone : PySem.W.findIn K (.ref C_Phones) "gone" = some (some (.ref f_Phones_gone)))
    (i_Phones_gone : PySem.W.isFn K (.ref f_Phones_gone) = true)
    (l_Phones_gone : K.lookup f_Phones_gone = some ⟨oc_Phones_gone, od_Phones_gone, .func (PySem.W.fnOf "gone" "Phones.gone" (defArgs s_Phones_gone) (defBody s_Phones_gone) (defScope s_Phones_gone) .none kV_Phones_gone dc_Phones_gone pm_Phones_gone an_Phones_gone cd_Phones_gone ct_Phones_gone), sl_Phones_gone⟩)
    (c_Phones_gone : PySem.W.codeIn K cd_Phones_gone "Phones.gone" = true)
    (k_Phones_gone : PySem.W.keepIn K (.ref f_Phones_gone) = true)
    (a_Phones_row : PySem.W.findIn K (.ref C_Phones) "row" = some (some (.ref f_Phones_row)))
    (i_Phones_row : PySem.W.isFn K (.ref f_Phones_row) = true)
    (l_Phones_row : K.lookup f_Phones_row = some ⟨oc_Phones_row, od_Phones_row, .func (PySem.W.fnOf "row" "Phones.row" (defArgs s_Phones_row) (defBody s_Phones_row) (defScope s_Phones_row) .none kV_Phones_row dc_Phones_row pm_Phones_row an_Phones_row cd_Phones_row ct_Phones_row), sl_Phones_row⟩)
    (c_Phones_row : PySem.W.codeIn K cd_Phones_row "Phones.row" = true)
    (k_Phones_row : PySem.W.keepIn K (.ref f_Phones_row) = true)
    (a_News_callers : PySem.W.findIn K (.ref C_News) "callers" = some (some (.ref f_News_callers)))
    (i_News_callers : PySem.W.isFn K (.ref f_News_callers) = true)
    (l_News_callers : K.lookup f_News_callers = some ⟨oc_News_callers, od_News_callers, .func (PySem.W.fnOf "callers" "News.callers" (defArgs s_News_callers) (defBody s_News_callers) (defScope s_News_callers) .none kV_News_callers dc_News_callers pm_News_callers an_News_callers cd_News_callers ct_News_callers), sl_News_callers⟩)
    (c_News_callers : PySem.W.codeIn K cd_News_callers "News.callers" = true)
    (k_News_callers : PySem.W.keepIn K (.ref f_News_callers) = true)
    (a_Phones_is_done : PySem.W.findIn K (.ref C_Phones) "is_done" = some (some (.ref f_Phones_is_done)))
    (i_Phones_is_done : PySem.W.isFn K (.ref f_Phones_is_done) = true)
    (l_Phones_is_done : K.lookup f_Phones_is_done = some ⟨oc_Phones_is_done, od_Phones_is_done, .func (PySem.W.fnOf "is_done" "Phones.is_done" (defArgs s_Phones_is_done) (defBody s_Phones_is_done) (defScope s_Phones_is_done) .none kV_Phones_is_done dc_Phones_is_done pm_Phones_is_done an_Phones_is_done cd_Phones_is_done ct_Phones_is_done), sl_Phones_is_done⟩)
    (c_Phones_is_done : PySem.W.codeIn K cd_Phones_is_done "Phones.is_done" = true)
    (k_Phones_is_done : PySem.W.keepIn K (.ref f_Phones_is_done) = true)
    (a__law_told : PySem.W.nsIn K mainGlobals "_law_told" = some (some (.ref f__law_told)))
    (l__law_told : K.lookup f__law_told = some ⟨oc__law_told, od__law_told, .func (PySem.W.fnOf "_law_told" "_law_told" (defArgs s__law_told) (defBody s__law_told) (defScope s__law_told) .none kV__law_told dc__law_told pm__law_told an__law_told cd__law_told ct__law_told), sl__law_told⟩)
    (c__law_told : PySem.W.codeIn K cd__law_told "_law_told" = true)
    (k__law_told : PySem.W.keepIn K (.ref f__law_told) = true)
    (a__law_turn : PySem.W.nsIn K mainGlobals "_law_turn" = some (some (.ref f__law_turn)))
    (l__law_turn : K.lookup f__law_turn = some ⟨oc__law_turn, od__law_turn, .func (PySem.W.fnOf "_law_turn" "_law_turn" (defArgs s__law_turn) (defBody s__law_turn) (defScope s__law_turn) .none kV__law_turn dc__law_turn pm__law_turn an__law_turn cd__law_turn ct__law_turn), sl__law_turn⟩)
    (c__law_turn : PySem.W.codeIn K cd__law_turn "_law_turn" = true)
    (k__law_turn : PySem.W.keepIn K (.ref f__law_turn) = true)
    (a_check_absent : PySem.W.nsIn K mainGlobals "check_absent" = some (some (.ref f_check_absent)))
    (l_check_absent : K.lookup f_check_absent = some ⟨oc_check_absent, od_check_absent, .func (PySem.W.fnOf "check_absent" "check_absent" (defArgs s_check_absent) (defBody s_check_absent) (defScope s_check_absent) .none kV_check_absent dc_check_absent pm_check_absent an_check_absent cd_check_absent ct_check_absent), sl_check_absent⟩)
    (c_check_absent : PySem.W.codeIn K cd_check_absent "check_absent" = true)
    (k_check_absent : PySem.W.keepIn K (.ref f_check_absent) = true)
    (a_News_next_of : PySem.W.findIn K (.ref C_News) "next_of" = some (some (.ref f_News_next_of)))
    (i_News_next_of : PySem.W.isFn K (.ref f_News_next_of) = true)
    (l_News_next_of : K.lookup f_News_next_of = some ⟨oc_News_next_of, od_News_next_of, .func (PySem.W.fnOf "next_of" "News.next_of" (defArgs s_News_next_of) (defBody s_News_next_of) (defScope s_News_next_of) .none kV_News_next_of dc_News_next_of pm_News_next_of an_News_next_of cd_News_next_of ct_News_next_of), sl_News_next_of⟩)
    (c_News_next_of : PySem.W.codeIn K cd_News_next_of "News.next_of" = true)
    (k_News_next_of : PySem.W.keepIn K (.ref f_News_next_of) = true)
    (a_News_call : PySem.W.findIn K (.ref C_News) "call" = some (some (.ref f_News_call)))
    (i_News_call : PySem.W.isFn K (.ref f_News_call) = true)
    (l_News_call : K.lookup f_News_call = some ⟨oc_News_call, od_News_call, .func (PySem.W.fnOf "call" "News.call" (defArgs s_News_call) (defBody s_News_call) (defScope s_News_call) .none kV_News_call dc_News_call pm_News_call an_News_call cd_News_call ct_News_call), sl_News_call⟩)
    (c_News_call : PySem.W.codeIn K cd_News_call "News.call" = true)
    (k_News_call : PySem.W.keepIn K (.ref f_News_call) = true)
    (a_News_pass_turn : PySem.W.findIn K (.ref C_News) "pass_turn" = some (some (.ref f_News_pass_turn)))
    (i_News_pass_turn : PySem.W.isFn K (.ref f_News_pass_turn) = true)
    (l_News_pass_turn : K.lookup f_News_pass_turn = some ⟨oc_News_pass_turn, od_News_pass_turn, .func (PySem.W.fnOf "pass_turn" "News.pass_turn" (defArgs s_News_pass_turn) (defBody s_News_pass_turn) (defScope s_News_pass_turn) .none kV_News_pass_turn dc_News_pass_turn pm_News_pass_turn an_News_pass_turn cd_News_pass_turn ct_News_pass_turn), sl_News_pass_turn⟩)
    (c_News_pass_turn : PySem.W.codeIn K cd_News_pass_turn "News.pass_turn" = true)
    (k_News_pass_turn : PySem.W.keepIn K (.ref f_News_pass_turn) = true)
    (a_Phones_pass_round : PySem.W.findIn K (.ref C_Phones) "pass_round" = some (some (.ref f_Phones_pass_round)))
    (i_Phones_pass_round : PySem.W.isFn K (.ref f_Phones_pass_round) = true)
    (l_Phones_pass_round : K.lookup f_Phones_pass_round = some ⟨oc_Phones_pass_round, od_Phones_pass_round, .func (PySem.W.fnOf "pass_round" "Phones.pass_round" (defArgs s_Phones_pass_round) (defBody s_Phones_pass_round) (defScope s_Phones_pass_round) .none kV_Phones_pass_round dc_Phones_pass_round pm_Phones_pass_round an_Phones_pass_round cd_Phones_pass_round ct_Phones_pass_round), sl_Phones_pass_round⟩)
    (c_Phones_pass_round : PySem.W.codeIn K cd_Phones_pass_round "Phones.pass_round" = true)
    (k_Phones_pass_round : PySem.W.keepIn K (.ref f_Phones_pass_round) = true)
    (a__law_two_right : PySem.W.nsIn K mainGlobals "_law_two_right" = some (some (.ref f__law_two_right)))
    (l__law_two_right : K.lookup f__law_two_right = some ⟨oc__law_two_right, od__law_two_right, .func (PySem.W.fnOf "_law_two_right" "_law_two_right" (defArgs s__law_two_right) (defBody s__law_two_right) (defScope s__law_two_right) .none kV__law_two_right dc__law_two_right pm__law_two_right an__law_two_right cd__law_two_right ct__law_two_right), sl__law_two_right⟩)
    (c__law_two_right : PySem.W.codeIn K cd__law_two_right "_law_two_right" = true)
    (k__law_two_right : PySem.W.keepIn K (.ref f__law_two_right) = true)
    (a_law : PySem.W.nsIn K mainGlobals "law" = some (some (.ref f_law)))
    (l_law : K.lookup f_law = some ⟨oc_law, od_law, .func (PySem.W.fnOf "law" "law" (defArgs s_law) (defBody s_law) (defScope s_law) .none kV_law dc_law pm_law an_law cd_law ct_law), sl_law⟩)
    (c_law : PySem.W.codeIn K cd_law "law" = true)
    (k_law : PySem.W.keepIn K (.ref f_law) = true)
    (mT_MOST_PEOPLE : PySem.W.nsIn K mainGlobals "MOST_PEOPLE" = some (some (.int 40 tk_MOST_PEOPLE)))
    (z_len : PySem.W.nsIn K mainGlobals "len" = some none)
    (z_range : PySem.W.nsIn K mainGlobals "range" = some none)
    (z_enumerate : PySem.W.nsIn K mainGlobals "enumerate" = some none)
    (z_sorted : PySem.W.nsIn K mainGlobals "sorted" = some none)
    (z_max : PySem.W.nsIn K mainGlobals "max" = some none)
    (z_min : PySem.W.nsIn K mainGlobals "min" = some none)
    (z_sum : PySem.W.nsIn K mainGlobals "sum" = some none)
    (z_list : PySem.W.nsIn K mainGlobals "list" = some none)
    (z_all : PySem.W.nsIn K mainGlobals "all" = some none)
    (z_any : PySem.W.nsIn K mainGlobals "any" = some none)
    (z_isinstance : PySem.W.nsIn K mainGlobals "isinstance" = some none)
    (z_zip : PySem.W.nsIn K mainGlobals "zip" = some none)
    (z_abs : PySem.W.nsIn K mainGlobals "abs" = some none)
    (z_int : PySem.W.nsIn K mainGlobals "int" = some none)
    (z_bool : PySem.W.nsIn K mainGlobals "bool" = some none)
    (z_tuple : PySem.W.nsIn K mainGlobals "tuple" = some none)
    (z_set : PySem.W.nsIn K mainGlobals "set" = some none)
    (z_str : PySem.W.nsIn K mainGlobals "str" = some none) :
    ∃ fd : FuncData, (∀ (s : Shared) (v : Value), BindsTo s fd ⟨[v], []⟩ [("_law_script", v)]) ∧ ∀ base : Heap, K.In base → base.Ns mainGlobals mg → FnOk l.prog w K mg base CX0 8 fa fd ["_law_script"] (sp_law K) := by
  have e := hfa.symm.trans (PySem.W.mg_of X G a_law)
  cases e
  have T : Blt mg := ⟨PySem.W.mg_none_of X G z_len, PySem.W.mg_none_of X G z_range, PySem.W.mg_none_of X G z_enumerate, PySem.W.mg_none_of X G z_sorted, PySem.W.mg_none_of X G z_max, PySem.W.mg_none_of X G z_min, PySem.W.mg_none_of X G z_sum, PySem.W.mg_none_of X G z_list, PySem.W.mg_none_of X G z_all, PySem.W.mg_none_of X G z_any, PySem.W.mg_none_of X G z_isinstance, PySem.W.mg_none_of X G z_zip, PySem.W.mg_none_of X G z_abs, PySem.W.mg_none_of X G z_int, PySem.W.mg_none_of X G z_bool, PySem.W.mg_none_of X G z_tuple, PySem.W.mg_none_of X G z_set, PySem.W.mg_none_of X G z_str⟩
  have M_News : mg "News" = some (.ref C_News) := PySem.W.mg_of X G aC_News
  have cl_News : Cls K C_News := ⟨pg_News, hd_News, po_News, sa_News⟩
  have T_News : KNews K C_News := ⟨cl_News, n_News_orders, n_News_rows⟩
  have M_Phones : mg "Phones" = some (.ref C_Phones) := PySem.W.mg_of X G aC_Phones
  have cl_Phones : Cls K C_Phones := ⟨pg_Phones, hd_Phones, po_Phones, sa_Phones⟩
  have T_Phones : KPhones K C_Phones := ⟨cl_Phones, n_Phones_news, n_Phones_people, n_Phones_turns⟩
  have M_MOST_PEOPLE : mg "MOST_PEOPLE" = some (.int 40 tk_MOST_PEOPLE) := PySem.W.mg_of X G mT_MOST_PEOPLE
  have F__law_number := fun_mk (st := s__law_number) l__law_number c__law_number k__law_number
  have b__law_number := F__law_number.binds (ps := ["_law_cell", "_law_at", "_law_whole"]) fun _ _ _ _ _ _ us hl => match us, hl with | [_, _, _], _ => rfl
  have F__law_ups := fun_mk (st := s__law_ups) l__law_ups c__law_ups k__law_ups
  have b__law_ups := F__law_ups.binds (ps := ["_law_script", "_law_by", "_law_most"]) fun _ _ _ _ _ _ us hl => match us, hl with | [_, _, _], _ => rfl
  have F__law_orders := fun_mk (st := s__law_orders) l__law_orders c__law_orders k__law_orders
  have b__law_orders := F__law_orders.binds (ps := ["_law_script", "_law_by", "_law_most"]) fun _ _ _ _ _ _ us hl => match us, hl with | [_, _, _], _ => rfl
  have F_is_whole := fun_mk (st := s_is_whole) l_is_whole c_is_whole k_is_whole
  have b_is_whole := F_is_whole.binds (ps := ["thing"]) fun _ _ _ _ _ _ us hl => match us, hl with | [_], _ => rfl
  have F_is_between := fun_mk (st := s_is_between) l_is_between c_is_between k_is_between
  have b_is_between := F_is_between.binds (ps := ["thing", "least", "most"]) fun _ _ _ _ _ _ us hl => match us, hl with | [_, _, _], _ => rfl
  have F_come_to := fun_mk (st := s_come_to) l_come_to c_come_to k_come_to
  have b_come_to := F_come_to.binds (ps := ["orders"]) fun _ _ _ _ _ _ us hl => match us, hl with | [_], _ => rfl
  have F_are_orders := fun_mk (st := s_are_orders) l_are_orders c_are_orders k_are_orders
  have b_are_orders := F_are_orders.binds (ps := ["thing"]) fun _ _ _ _ _ _ us hl => match us, hl with | [_], _ => rfl
  have F_check_orders := fun_mk (st := s_check_orders) l_check_orders c_check_orders k_check_orders
  have b_check_orders := F_check_orders.binds (ps := ["orders"]) fun _ _ _ _ _ _ us hl => match us, hl with | [_], _ => rfl
  have F_News___init__ := fun_mk (st := s_News___init__) l_News___init__ c_News___init__ k_News___init__
  have b_News___init__ := F_News___init__.binds (ps := ["self", "orders"]) fun _ _ _ _ _ _ us hl => match us, hl with | [_, _], _ => rfl
  have F_Phones___init__ := fun_mk (st := s_Phones___init__) l_Phones___init__ c_Phones___init__ k_Phones___init__
  have b_Phones___init__ := F_Phones___init__.binds (ps := ["self", "orders"]) fun _ _ _ _ _ _ us hl => match us, hl with | [_, _], _ => rfl
  have F_Phones_knowing := fun_mk (st := s_Phones_knowing) l_Phones_knowing c_Phones_knowing k_Phones_knowing
  have b_Phones_knowing := F_Phones_knowing.binds (ps := ["self"]) fun _ _ _ _ _ _ us hl => match us, hl with | [_], _ => rfl
  have F_Phones_gone := fun_mk (st := s_Phones_gone) l_Phones_gone c_Phones_gone k_Phones_gone
  have b_Phones_gone := F_Phones_gone.binds (ps := ["self"]) fun _ _ _ _ _ _ us hl => match us, hl with | [_], _ => rfl
  have F_Phones_row := fun_mk (st := s_Phones_row) l_Phones_row c_Phones_row k_Phones_row
  have b_Phones_row := F_Phones_row.binds (ps := ["self", "person"]) fun _ _ _ _ _ _ us hl => match us, hl with | [_, _], _ => rfl
  have F_News_callers := fun_mk (st := s_News_callers) l_News_callers c_News_callers k_News_callers
  have b_News_callers := F_News_callers.binds (ps := ["self"]) fun _ _ _ _ _ _ us hl => match us, hl with | [_], _ => rfl
  have F_Phones_is_done := fun_mk (st := s_Phones_is_done) l_Phones_is_done c_Phones_is_done k_Phones_is_done
  have b_Phones_is_done := F_Phones_is_done.binds (ps := ["self"]) fun _ _ _ _ _ _ us hl => match us, hl with | [_], _ => rfl
  have F__law_told := fun_mk (st := s__law_told) l__law_told c__law_told k__law_told
  have b__law_told := F__law_told.binds (ps := ["_law_phones", "_law_rows", "_law_people", "_law_gone"]) fun _ _ _ _ _ _ us hl => match us, hl with | [_, _, _, _], _ => rfl
  have F__law_turn := fun_mk (st := s__law_turn) l__law_turn c__law_turn k__law_turn
  have b__law_turn := F__law_turn.binds (ps := ["_law_orders_here", "_law_rows", "_law_absent"]) fun _ _ _ _ _ _ us hl => match us, hl with | [_, _, _], _ => rfl
  have F_check_absent := fun_mk (st := s_check_absent) l_check_absent c_check_absent k_check_absent
  have b_check_absent := F_check_absent.binds (ps := ["people", "absent"]) fun _ _ _ _ _ _ us hl => match us, hl with | [_, _], _ => rfl
  have F_News_next_of := fun_mk (st := s_News_next_of) l_News_next_of c_News_next_of k_News_next_of
  have b_News_next_of := F_News_next_of.binds (ps := ["self", "caller"]) fun _ _ _ _ _ _ us hl => match us, hl with | [_, _], _ => rfl
  have F_News_call := fun_mk (st := s_News_call) l_News_call c_News_call k_News_call
  have b_News_call := F_News_call.binds (ps := ["self", "caller", "answered"]) fun _ _ _ _ _ _ us hl => match us, hl with | [_, _, _], _ => rfl
  have F_News_pass_turn := fun_mk (st := s_News_pass_turn) l_News_pass_turn c_News_pass_turn k_News_pass_turn
  have b_News_pass_turn := F_News_pass_turn.binds (ps := ["self", "absent", "silent"]) fun _ _ _ _ _ _ us hl => match us, hl with | [_, _, _], _ => rfl
  have F_Phones_pass_round := fun_mk (st := s_Phones_pass_round) l_Phones_pass_round c_Phones_pass_round k_Phones_pass_round
  have b_Phones_pass_round := F_Phones_pass_round.binds (ps := ["self", "absent"]) fun _ _ _ _ _ _ us hl => match us, hl with | [_, _], _ => rfl
  have F__law_two_right := fun_mk (st := s__law_two_right) l__law_two_right c__law_two_right k__law_two_right
  have b__law_two_right := F__law_two_right.binds (ps := []) fun _ _ _ _ _ _ us hl => match us, hl with | [], _ => rfl
  have F_law := fun_mk (st := s_law) l_law c_law k_law
  refine ⟨PySem.W.fnOf "law" "law" (defArgs s_law) (defBody s_law) (defScope s_law) .none kV_law dc_law pm_law an_law cd_law ct_law, fun s v => .of_eq rfl, fun base _ _ => ?_⟩
  have o__law_number := ok__law_number (P := l.prog) (w := w) (base := base) (F := F__law_number) T
  have c__law_number : Dfn l.prog w K mg base "_law_number" 1 ["_law_cell", "_law_at", "_law_whole"] sp__law_number := ⟨_, _, PySem.W.mg_of X G a__law_number, k__law_number, b__law_number, o__law_number⟩
  have o__law_ups := ok__law_ups (P := l.prog) (w := w) (base := base) (F := F__law_ups) T c__law_number
  have c__law_ups : Dfn l.prog w K mg base "_law_ups" 2 ["_law_script", "_law_by", "_law_most"] (sp__law_ups K) := ⟨_, _, PySem.W.mg_of X G a__law_ups, k__law_ups, b__law_ups, o__law_ups⟩
  have o__law_orders := ok__law_orders (P := l.prog) (w := w) (base := base) (F := F__law_orders) T c__law_ups c__law_number
  have c__law_orders : Dfn l.prog w K mg base "_law_orders" 3 ["_law_script", "_law_by", "_law_most"] (sp__law_orders K) := ⟨_, _, PySem.W.mg_of X G a__law_orders, k__law_orders, b__law_orders, o__law_orders⟩
  have o_is_whole := ok_is_whole (P := l.prog) (w := w) (base := base) (F := F_is_whole) T
  have c_is_whole : Dfn l.prog w K mg base "is_whole" 1 ["thing"] sp_is_whole := ⟨_, _, PySem.W.mg_of X G a_is_whole, k_is_whole, b_is_whole, o_is_whole⟩
  have o_is_between := ok_is_between (P := l.prog) (w := w) (base := base) (F := F_is_between) T c_is_whole
  have c_is_between : Dfn l.prog w K mg base "is_between" 2 ["thing", "least", "most"] sp_is_between := ⟨_, _, PySem.W.mg_of X G a_is_between, k_is_between, b_is_between, o_is_between⟩
  have o_come_to := ok_come_to (P := l.prog) (w := w) (base := base) (F := F_come_to) T
  have c_come_to : Dfn l.prog w K mg base "come_to" 1 ["orders"] sp_come_to := ⟨_, _, PySem.W.mg_of X G a_come_to, k_come_to, b_come_to, o_come_to⟩
  have o_are_orders := ok_are_orders (P := l.prog) (w := w) (base := base) (F := F_are_orders) T M_MOST_PEOPLE c_is_between c_come_to
  have c_are_orders : Dfn l.prog w K mg base "are_orders" 3 ["thing"] sp_are_orders := ⟨_, _, PySem.W.mg_of X G a_are_orders, k_are_orders, b_are_orders, o_are_orders⟩
  have o_check_orders := ok_check_orders (P := l.prog) (w := w) (base := base) (F := F_check_orders) T c_are_orders
  have c_check_orders : Dfn l.prog w K mg base "check_orders" 4 ["orders"] sp_check_orders := ⟨_, _, PySem.W.mg_of X G a_check_orders, k_check_orders, b_check_orders, o_check_orders⟩
  have o_News___init__ := ok_News___init__ (P := l.prog) (w := w) (base := base) (F := F_News___init__) (C_News := C_News) T T_News
  have c_News : Ctr l.prog w K mg base "News" C_News 1 ["self", "orders"] (sp_News___init__ C_News) := ⟨M_News, _, _, ⟨mk_News, a_News___init__, i_News___init__, kc_News⟩, b_News___init__, o_News___init__⟩
  have o_Phones___init__ := ok_Phones___init__ (P := l.prog) (w := w) (base := base) (F := F_Phones___init__) (C_News := C_News) (C_Phones := C_Phones) T T_Phones c_check_orders c_News
  have c_Phones : Ctr l.prog w K mg base "Phones" C_Phones 5 ["self", "orders"] (sp_Phones___init__ C_Phones C_News) := ⟨M_Phones, _, _, ⟨mk_Phones, a_Phones___init__, i_Phones___init__, kc_Phones⟩, b_Phones___init__, o_Phones___init__⟩
  have o_Phones_knowing := ok_Phones_knowing (P := l.prog) (w := w) (base := base) (F := F_Phones_knowing) (C_Phones := C_Phones) (C_News := C_News) T T_Phones T_News
  have c_Phones_knowing : Mth l.prog w K mg base C_Phones "knowing" 1 ["self"] (sp_Phones_knowing C_Phones C_News) := ⟨cl_Phones, _, _, ⟨a_Phones_knowing, i_Phones_knowing, k_Phones_knowing⟩, b_Phones_knowing, o_Phones_knowing⟩
  have o_Phones_gone := ok_Phones_gone (P := l.prog) (w := w) (base := base) (F := F_Phones_gone) (C_Phones := C_Phones) (C_News := C_News) T T_Phones
  have c_Phones_gone : Mth l.prog w K mg base C_Phones "gone" 1 ["self"] (sp_Phones_gone C_Phones C_News) := ⟨cl_Phones, _, _, ⟨a_Phones_gone, i_Phones_gone, k_Phones_gone⟩, b_Phones_gone, o_Phones_gone⟩
  have o_Phones_row := ok_Phones_row (P := l.prog) (w := w) (base := base) (F := F_Phones_row) (C_Phones := C_Phones) (C_News := C_News) T T_Phones T_News c_is_between
  have c_Phones_row : Mth l.prog w K mg base C_Phones "row" 3 ["self", "person"] (sp_Phones_row C_Phones C_News) := ⟨cl_Phones, _, _, ⟨a_Phones_row, i_Phones_row, k_Phones_row⟩, b_Phones_row, o_Phones_row⟩
  have o_News_callers := ok_News_callers (P := l.prog) (w := w) (base := base) (F := F_News_callers) (C_News := C_News) T T_News
  have c_News_callers : Mth l.prog w K mg base C_News "callers" 1 ["self"] (sp_News_callers C_News) := ⟨cl_News, _, _, ⟨a_News_callers, i_News_callers, k_News_callers⟩, b_News_callers, o_News_callers⟩
  have o_Phones_is_done := ok_Phones_is_done (P := l.prog) (w := w) (base := base) (F := F_Phones_is_done) (C_News := C_News) (C_Phones := C_Phones) T T_Phones c_News_callers
  have c_Phones_is_done : Mth l.prog w K mg base C_Phones "is_done" 2 ["self"] (sp_Phones_is_done C_Phones C_News) := ⟨cl_Phones, _, _, ⟨a_Phones_is_done, i_Phones_is_done, k_Phones_is_done⟩, b_Phones_is_done, o_Phones_is_done⟩
  have o__law_told := ok__law_told (P := l.prog) (w := w) (base := base) (F := F__law_told) (C_Phones := C_Phones) (C_News := C_News) T c_Phones_knowing c_Phones_gone c_Phones_row c_Phones_is_done
  have c__law_told : Dfn l.prog w K mg base "_law_told" 4 ["_law_phones", "_law_rows", "_law_people", "_law_gone"] (sp__law_toldP C_Phones C_News) := ⟨_, _, PySem.W.mg_of X G a__law_told, k__law_told, b__law_told, o__law_told⟩
  have o__law_turn := ok__law_turn (P := l.prog) (w := w) (base := base) (F := F__law_turn) T
  have c__law_turn : Dfn l.prog w K mg base "_law_turn" 1 ["_law_orders_here", "_law_rows", "_law_absent"] sp__law_turn := ⟨_, _, PySem.W.mg_of X G a__law_turn, k__law_turn, b__law_turn, o__law_turn⟩
  have o_check_absent := ok_check_absent (P := l.prog) (w := w) (base := base) (F := F_check_absent) T c_is_between
  have c_check_absent : Dfn l.prog w K mg base "check_absent" 3 ["people", "absent"] sp_check_absent := ⟨_, _, PySem.W.mg_of X G a_check_absent, k_check_absent, b_check_absent, o_check_absent⟩
  have o_News_next_of := ok_News_next_of (P := l.prog) (w := w) (base := base) (F := F_News_next_of) (C_News := C_News) T T_News
  have c_News_next_of : Mth l.prog w K mg base C_News "next_of" 1 ["self", "caller"] (sp_News_next_of C_News) := ⟨cl_News, _, _, ⟨a_News_next_of, i_News_next_of, k_News_next_of⟩, b_News_next_of, o_News_next_of⟩
  have o_News_call := ok_News_call (P := l.prog) (w := w) (base := base) (F := F_News_call) (C_News := C_News) T T_News
  have c_News_call : Mth l.prog w K mg base C_News "call" 1 ["self", "caller", "answered"] (sp_News_call C_News) := ⟨cl_News, _, _, ⟨a_News_call, i_News_call, k_News_call⟩, b_News_call, o_News_call⟩
  have o_News_pass_turn := ok_News_pass_turn (P := l.prog) (w := w) (base := base) (F := F_News_pass_turn) (C_News := C_News) T T_News c_News_callers c_News_next_of c_News_call
  have c_News_pass_turn : Mth l.prog w K mg base C_News "pass_turn" 2 ["self", "absent", "silent"] (sp_News_pass_turn C_News) := ⟨cl_News, _, _, ⟨a_News_pass_turn, i_News_pass_turn, k_News_pass_turn⟩, b_News_pass_turn, o_News_pass_turn⟩
  have o_Phones_pass_round := ok_Phones_pass_round (P := l.prog) (w := w) (base := base) (F := F_Phones_pass_round) (C_News := C_News) (C_Phones := C_Phones) T T_Phones c_check_absent c_News_pass_turn
  have c_Phones_pass_round : Mth l.prog w K mg base C_Phones "pass_round" 4 ["self", "absent"] (sp_Phones_pass_round C_Phones C_News) := ⟨cl_Phones, _, _, ⟨a_Phones_pass_round, i_Phones_pass_round, k_Phones_pass_round⟩, b_Phones_pass_round, o_Phones_pass_round⟩
  have o__law_two_right := ok__law_two_right (P := l.prog) (w := w) (base := base) (F := F__law_two_right) (C_Phones := C_Phones) (C_News := C_News) T c_Phones c_Phones_pass_round c_Phones_is_done c_Phones_row c_Phones_gone c_Phones_knowing
  have c__law_two_right : Dfn l.prog w K mg base "_law_two_right" 7 [] sp__law_two_right := ⟨_, _, PySem.W.mg_of X G a__law_two_right, k__law_two_right, b__law_two_right, o__law_two_right⟩
  exact ok_law (F := F_law) (C_Phones := C_Phones) (C_News := C_News) T c__law_orders c_Phones c__law_told c__law_number c__law_turn c__law_two_right c_Phones_pass_round
theorem walk {l : PySem.W.OpenLaw} {q : Program} {loose : List Str} {XP : (Str → Option Value) → Heap → Prop} {YP : World → Heap → Prop} {d : DefRec} {K : Params → PySem.W.Frag} (hn : l.most = some 63) (hdf : d.params.defaults = [])
    (hY : ∀ (w : World) (h : Heap), YP w h → (K w.params).In h)
    (F : ∀ (w : World) (mg : Str → Option Value) (fa : Addr) (h : Heap), (K w.params).In h → h.Ns mainGlobals mg → mg d.name = some (.ref fa) →
      ∃ fd : FuncData, (∀ (s : Shared) (u : Value), BindsTo s fd ⟨[u], []⟩ [("_law_script", u)]) ∧ ∀ base : Heap, (K w.params).In base → base.Ns mainGlobals mg → FnOk l.prog w (K w.params) mg base CX0 8 fa fd ["_law_script"] (sp_law (K w.params))) :
    PySem.W.WalkO q loose XP YP l.row.toRowW d [] (fun f vs => PySem.call f vs) :=
  L2.walk_of (n := 63) (k := 8) (x := "_law_script") (CX := fun _ => CX0) (sp := fun w => sp_law (K w.params)) hn (by decide) hdf ⟨rfl, by decide, by decide⟩ hY F (fun _ _ a ns hl _ hS => ⟨a, ns, rfl, hS, hl, fun _ => rfl⟩) fun _ _ _ _ _ z => z
end Cc
open PySem PySem.W PyProof.Rows
set_option maxRecDepth 100000 in
set_option maxHeartbeats 0 in
theorem PySem.Challenge.cw_callchain_k10_whole_phones_holds : PySem.Challenge.rw_callchain_k10_whole_phones.Holds := by
  w_on; o_law; k_head; (case hw => w_witness2)
  k_fill
  refine Cc.walk (l := PySem.Challenge.rw_callchain_k10_whole_phones) rfl rfl (fun w h Y => PySem.W.kIn_of Y) ?F
  case F =>
    intro w mg fa h KX G hmg
    refine' Cc.all_mk KX G hmg ?aC_News ?pg_News ?hd_News ?po_News ?sa_News ?mk_News ?kc_News ?n_News_orders ?n_News_rows ?aC_Phones ?pg_Phones ?hd_Phones ?po_Phones ?sa_Phones ?mk_Phones ?kc_Phones ?n_Phones_news ?n_Phones_people ?n_Phones_turns ?a__law_number ?l__law_number ?c__law_number ?k__law_number ?a__law_ups ?l__law_ups ?c__law_ups ?k__law_ups ?a__law_orders ?l__law_orders ?c__law_orders ?k__law_orders ?a_is_whole ?l_is_whole ?c_is_whole ?k_is_whole ?a_is_between ?l_is_between ?c_is_between ?k_is_between ?a_come_to ?l_come_to ?c_come_to ?k_come_to ?a_are_orders ?l_are_orders ?c_are_orders ?k_are_orders ?a_check_orders ?l_check_orders ?c_check_orders ?k_check_orders ?a_News___init__ ?i_News___init__ ?l_News___init__ ?c_News___init__ ?k_News___init__ ?a_Phones___init__ ?i_Phones___init__ ?l_Phones___init__ ?c_Phones___init__ ?k_Phones___init__ ?a_Phones_knowing ?i_Phones_knowing ?l_Phones_knowing ?c_Phones_knowing ?k_Phones_knowing ?a_Phones_gone ?i_Phones_gone ?l_Phones_gone ?c_Phones_gone ?k_Phones_gone ?a_Phones_row ?i_Phones_row ?l_Phones_row ?c_Phones_row ?k_Phones_row ?a_News_callers ?i_News_callers ?l_News_callers ?c_News_callers ?k_News_callers ?a_Phones_is_done ?i_Phones_is_done ?l_Phones_is_done ?c_Phones_is_done ?k_Phones_is_done ?a__law_told ?l__law_told ?c__law_told ?k__law_told ?a__law_turn ?l__law_turn ?c__law_turn ?k__law_turn ?a_check_absent ?l_check_absent ?c_check_absent ?k_check_absent ?a_News_next_of ?i_News_next_of ?l_News_next_of ?c_News_next_of ?k_News_next_of ?a_News_call ?i_News_call ?l_News_call ?c_News_call ?k_News_call ?a_News_pass_turn ?i_News_pass_turn ?l_News_pass_turn ?c_News_pass_turn ?k_News_pass_turn ?a_Phones_pass_round ?i_Phones_pass_round ?l_Phones_pass_round ?c_Phones_pass_round ?k_Phones_pass_round ?a__law_two_right ?l__law_two_right ?c__law_two_right ?k__law_two_right ?a_law ?l_law ?c_law ?k_law ?mT_MOST_PEOPLE ?z_len ?z_range ?z_enumerate ?z_sorted ?z_max ?z_min ?z_sum ?z_list ?z_all ?z_any ?z_isinstance ?z_zip ?z_abs ?z_int ?z_bool ?z_tuple ?z_set ?z_str
    (case aC_News => k_is)
    (case pg_News => k_is)
    (case hd_News => k_is)
    (case po_News => k_is)
    (case sa_News => k_is)
    (case mk_News => k_is)
    (case kc_News => k_is)
    (case n_News_orders => k_is)
    (case n_News_rows => k_is)
    (case aC_Phones => k_is)
    (case pg_Phones => k_is)
    (case hd_Phones => k_is)
    (case po_Phones => k_is)
    (case sa_Phones => k_is)
    (case mk_Phones => k_is)
    (case kc_Phones => k_is)
    (case n_Phones_news => k_is)
    (case n_Phones_people => k_is)
    (case n_Phones_turns => k_is)
    (case a__law_number => k_is)
    (case l__law_number => k_is)
    (case c__law_number => k_is)
    (case k__law_number => k_is)
    (case a__law_ups => k_is)
    (case l__law_ups => k_is)
    (case c__law_ups => k_is)
    (case k__law_ups => k_is)
    (case a__law_orders => k_is)
    (case l__law_orders => k_is)
    (case c__law_orders => k_is)
    (case k__law_orders => k_is)
    (case a_is_whole => k_is)
    (case l_is_whole => k_is)
    (case c_is_whole => k_is)
    (case k_is_whole => k_is)
    (case a_is_between => k_is)
    (case l_is_between => k_is)
    (case c_is_between => k_is)
    (case k_is_between => k_is)
    (case a_come_to => k_is)
    (case l_come_to => k_is)
    (case c_come_to => k_is)
    (case k_come_to => k_is)
    (case a_are_orders => k_is)
    (case l_are_orders => k_is)
    (case c_are_orders => k_is)
    (case k_are_orders => k_is)
    (case a_check_orders => k_is)
    (case l_check_orders => k_is)
    (case c_check_orders => k_is)
    (case k_check_orders => k_is)
    (case a_News___init__ => k_is)
    (case i_News___init__ => k_is)
    (case l_News___init__ => k_is)
    (case c_News___init__ => k_is)
    (case k_News___init__ => k_is)
    (case a_Phones___init__ => k_is)
    (case i_Phones___init__ => k_is)
    (case l_Phones___init__ => k_is)
    (case c_Phones___init__ => k_is)
    (case k_Phones___init__ => k_is)
    (case a_Phones_knowing => k_is)
    (case i_Phones_knowing => k_is)
    (case l_Phones_knowing => k_is)
    (case c_Phones_knowing => k_is)
    (case k_Phones_knowing => k_is)
    (case a_Phones_gone => k_is)
    (case i_Phones_gone => k_is)
    (case l_Phones_gone => k_is)
    (case c_Phones_gone => k_is)
    (case k_Phones_gone => k_is)
    (case a_Phones_row => k_is)
    (case i_Phones_row => k_is)
    (case l_Phones_row => k_is)
    (case c_Phones_row => k_is)
    (case k_Phones_row => k_is)
    (case a_News_callers => k_is)
    (case i_News_callers => k_is)
    (case l_News_callers => k_is)
    (case c_News_callers => k_is)
    (case k_News_callers => k_is)
    (case a_Phones_is_done => k_is)
    (case i_Phones_is_done => k_is)
    (case l_Phones_is_done => k_is)
    (case c_Phones_is_done => k_is)
    (case k_Phones_is_done => k_is)
    (case a__law_told => k_is)
    (case l__law_told => k_is)
    (case c__law_told => k_is)
    (case k__law_told => k_is)
    (case a__law_turn => k_is)
    (case l__law_turn => k_is)
    (case c__law_turn => k_is)
    (case k__law_turn => k_is)
    (case a_check_absent => k_is)
    (case l_check_absent => k_is)
    (case c_check_absent => k_is)
    (case k_check_absent => k_is)
    (case a_News_next_of => k_is)
    (case i_News_next_of => k_is)
    (case l_News_next_of => k_is)
    (case c_News_next_of => k_is)
    (case k_News_next_of => k_is)
    (case a_News_call => k_is)
    (case i_News_call => k_is)
    (case l_News_call => k_is)
    (case c_News_call => k_is)
    (case k_News_call => k_is)
    (case a_News_pass_turn => k_is)
    (case i_News_pass_turn => k_is)
    (case l_News_pass_turn => k_is)
    (case c_News_pass_turn => k_is)
    (case k_News_pass_turn => k_is)
    (case a_Phones_pass_round => k_is)
    (case i_Phones_pass_round => k_is)
    (case l_Phones_pass_round => k_is)
    (case c_Phones_pass_round => k_is)
    (case k_Phones_pass_round => k_is)
    (case a__law_two_right => k_is)
    (case l__law_two_right => k_is)
    (case c__law_two_right => k_is)
    (case k__law_two_right => k_is)
    (case a_law => k_is)
    (case l_law => k_is)
    (case c_law => k_is)
    (case k_law => k_is)
    (case mT_MOST_PEOPLE => k_is)
    (case z_len => k_is)
    (case z_range => k_is)
    (case z_enumerate => k_is)
    (case z_sorted => k_is)
    (case z_max => k_is)
    (case z_min => k_is)
    (case z_sum => k_is)
    (case z_list => k_is)
    (case z_all => k_is)
    (case z_any => k_is)
    (case z_isinstance => k_is)
    (case z_zip => k_is)
    (case z_abs => k_is)
    (case z_int => k_is)
    (case z_bool => k_is)
    (case z_tuple => k_is)
    (case z_set => k_is)
    (case z_str => k_is)
#print axioms PySem.Challenge.cw_callchain_k10_whole_phones_holds
