import PyProof.Rows.All
import Wide.All
import OpenK.AllK
import Wide.FinOn
import HandS.ForMost
import HandS.Style
import HandS.SortInts
import HandS.SortRule
import HandS.Wide
import HandS.Conv
import HandS.More
import HandS.Exc
import HandS.IsInst
import HandS.ExcOwn
import HandS.ListItems
import PySem.Challenge.RW_callchain_k02_fewest_by_hand
set_option Elab.async false
set_option maxRecDepth 100000
set_option maxHeartbeats 4000000
set_option linter.all false
/-! The base of the proofs: what stands apart (cells), calls of defs, loops over enumerate. -/
namespace Cc
open PySem L2

/-! ### cells: H holds all of H0, and the cells of L, which are new to H0 and apart -/
abbrev Cell := Addr × HO
structure Lo (H0 H : Hp) (L : List Cell) : Prop where
  same : ∀ a o, H0 a = some o → H a = some o
  get : ∀ {a o}, (a, o) ∈ L → H a = some o
  new : ∀ {a o}, (a, o) ∈ L → H0 a = none
  nd : (L.map (·.1)).Nodup

theorem Lo.nil (H : Hp) : Lo H H [] := ⟨fun _ _ h => h, fun h => (by cases h), fun h => (by cases h), List.nodup_nil⟩
theorem Lo.free {H0 H : Hp} {L : List Cell} (h : Lo H0 H L) {p : Addr} (hp : H p = none) : H0 p = none := by
  cases q : H0 p with
  | none => rfl
  | some o => rw [h.same p o q] at hp; cases hp
theorem Lo.mem_ne {H0 H : Hp} {L : List Cell} (h : Lo H0 H L) {p : Addr} (hp : H p = none) : p ∉ L.map (·.1) := by
  intro hm
  obtain ⟨⟨a, o⟩, h1, h2⟩ := List.mem_map.mp hm
  have e : a = p := h2
  subst e
  rw [h.get h1] at hp
  cases hp
/-- a new object, tracked -/
theorem Lo.al {H0 H : Hp} {L : List Cell} (h : Lo H0 H L) {p : Addr} (hp : H p = none) (o : HO) : Lo H0 (upd H p o) ((p, o) :: L) where
  same := fun a u e => by rw [upd_ne (ne_of_none (h.same a u e) hp)]; exact h.same a u e
  get := fun {a u} hm => by
    rcases List.mem_cons.mp hm with e | hm
    · cases e; exact upd_same
    · rw [upd_ne (ne_of_none (h.get hm) hp)]; exact h.get hm
  new := fun {a u} hm => by
    rcases List.mem_cons.mp hm with e | hm
    · cases e; exact h.free hp
    · exact h.new hm
  nd := by
    rw [List.map_cons, List.nodup_cons]
    exact ⟨h.mem_ne hp, h.nd⟩
/-- a new object, not cared for -/
theorem Lo.ju {H0 H : Hp} {L : List Cell} (h : Lo H0 H L) {p : Addr} (hp : H p = none) (o : HO) : Lo H0 (upd H p o) L :=
  have q := h.al hp o
  ⟨q.same, fun hm => q.get (List.mem_cons_of_mem _ hm), h.new, h.nd⟩
/-- fewer cells -/
theorem Lo.sub {H0 H : Hp} {L L' : List Cell} (h : Lo H0 H L) (hs : L'.Sublist L) : Lo H0 H L' :=
  ⟨h.same, fun hm => h.get (hs.subset hm), fun hm => h.new (hs.subset hm), (hs.map _).nodup h.nd⟩
theorem Lo.perm {H0 H : Hp} {L L' : List Cell} (h : Lo H0 H L) (hs : L.Perm L') : Lo H0 H L' :=
  ⟨h.same, fun hm => h.get (hs.mem_iff.mpr hm), fun hm => h.new (hs.mem_iff.mpr hm), ((hs.map _).nodup_iff).mp h.nd⟩
/-- a cell is written -/
theorem Lo.wr {H0 H : Hp} {A B : List Cell} {a : Addr} {o : HO} (h : Lo H0 H (A ++ (a, o) :: B)) (o' : HO) : Lo H0 (upd H a o') (A ++ (a, o') :: B) := by
  have nd := h.nd
  rw [List.map_append, List.map_cons] at nd
  have hna : a ∉ A.map (·.1) := fun hm => by
    have := (List.nodup_append.mp nd).2.2 a hm a (List.mem_cons_self)
    exact this rfl
  have hnb : a ∉ B.map (·.1) := (List.nodup_cons.mp (List.nodup_append.mp nd).2.1).1
  refine ⟨fun b u e => ?_, fun {b u} hm => ?_, fun {b u} hm => ?_, ?_⟩
  · have : H0 a = none := h.new (List.mem_append_right _ (List.mem_cons_self))
    rw [upd_ne (ne_of_none e this)]
    exact h.same b u e
  · rcases List.mem_append.mp hm with hm | hm
    · have hb : b ≠ a := fun e => hna (e ▸ List.mem_map.mpr ⟨_, hm, rfl⟩)
      rw [upd_ne hb]
      exact h.get (List.mem_append_left _ hm)
    · rcases List.mem_cons.mp hm with e | hm
      · cases e; exact upd_same
      · have hb : b ≠ a := fun e => hnb (e ▸ List.mem_map.mpr ⟨_, hm, rfl⟩)
        rw [upd_ne hb]
        exact h.get (List.mem_append_right _ (List.mem_cons_of_mem _ hm))
  · rcases List.mem_append.mp hm with hm | hm
    · exact h.new (List.mem_append_left _ hm)
    · rcases List.mem_cons.mp hm with e | hm
      · cases e; exact h.new (o := o) (List.mem_append_right _ (List.mem_cons_self))
      · exact h.new (List.mem_append_right _ (List.mem_cons_of_mem _ hm))
  · rw [List.map_append, List.map_cons]
    exact nd
theorem Lo.wr0 {H0 H : Hp} {B : List Cell} {a : Addr} {o : HO} (h : Lo H0 H ((a, o) :: B)) (o' : HO) : Lo H0 (upd H a o') ((a, o') :: B) := Lo.wr (A := []) h o'
/-- behind a call that leaves all as it was and makes F -/
theorem Lo.ca {H0 H H' : Hp} {L F : List Cell} (h : Lo H0 H L) (h' : Lo H H' F) : Lo H0 H' (F ++ L) where
  same := fun a o e => h'.same a o (h.same a o e)
  get := fun {a o} hm => by
    rcases List.mem_append.mp hm with hm | hm
    · exact h'.get hm
    · exact h'.same a o (h.get hm)
  new := fun {a o} hm => by
    rcases List.mem_append.mp hm with hm | hm
    · exact h.free (h'.new hm)
    · exact h.new hm
  nd := by
    rw [List.map_append, List.nodup_append]
    refine ⟨h'.nd, h.nd, fun a ha b hb e => ?_⟩
    subst e
    obtain ⟨⟨x, o⟩, h1, h2⟩ := List.mem_map.mp ha
    have e : x = a := h2
    subst e
    exact h.mem_ne (h'.new h1) hb
/-- behind a call that makes nothing that is asked for -/
theorem Lo.cs {H0 H H' : Hp} {L : List Cell} (h : Lo H0 H L) (h' : Same H H') : Lo H0 H' L :=
  ⟨fun a o e => h' a o (h.same a o e), fun hm => h' _ _ (h.get hm), h.new, h.nd⟩
/-- cells lent out: F is worked upon, R and H0 stay -/
theorem Lo.split {H0 H : Hp} {F R : List Cell} (h : Lo H0 H (F ++ R)) :
    ∃ H1, Lo H1 H F ∧ (∀ a o, H0 a = some o → H1 a = some o) ∧ (∀ {a o}, (a, o) ∈ R → H1 a = some o) ∧ ∀ {H' F'}, Lo H1 H' F' → Lo H0 H' (F' ++ R) := by
  have nd := h.nd
  rw [List.map_append] at nd
  obtain ⟨n1, n2, n3⟩ := List.nodup_append.mp nd
  have f1 : ∀ b, b ∈ R.map (·.1) → (fun b => if b ∈ R.map (·.1) then H b else H0 b) b = H b := fun b hb => if_pos hb
  have f2 : ∀ b, b ∉ R.map (·.1) → (fun b => if b ∈ R.map (·.1) then H b else H0 b) b = H0 b := fun b hb => if_neg hb
  generalize (fun b => if b ∈ R.map (·.1) then H b else H0 b) = H1 at f1 f2
  have up : ∀ a o, H0 a = some o → H1 a = some o := fun a o e => by
    by_cases hr : a ∈ R.map (·.1)
    · rw [f1 a hr]; exact h.same a o e
    · rw [f2 a hr]; exact e
  have rr : ∀ {a o}, (a, o) ∈ R → H1 a = some o := fun {a o} hm => by
    rw [f1 a (List.mem_map.mpr ⟨_, hm, rfl⟩)]
    exact h.get (List.mem_append_right _ hm)
  have nn : ∀ a, H1 a = none → a ∉ R.map (·.1) := fun a q hr => by
    obtain ⟨⟨x, u⟩, h1, h2⟩ := List.mem_map.mp hr
    have e : x = a := h2
    subst e
    rw [rr h1] at q
    cases q
  refine ⟨H1, ⟨fun a o e => ?_, fun {a o} hm => h.get (List.mem_append_left _ hm), fun {a o} hm => ?_, n1⟩, up, rr, fun {H' F'} g => ⟨fun a o e => g.same a o (up a o e), fun {a o} hm => ?_, fun {a o} hm => ?_, ?_⟩⟩
  · by_cases hr : a ∈ R.map (·.1)
    · rw [f1 a hr] at e; exact e
    · rw [f2 a hr] at e; exact h.same a o e
  · rw [f2, h.new (List.mem_append_left _ hm)]
    exact fun hr => n3 a (List.mem_map.mpr ⟨_, hm, rfl⟩) a hr rfl
  · rcases List.mem_append.mp hm with hm | hm
    · exact g.get hm
    · exact g.same a o (rr hm)
  · rcases List.mem_append.mp hm with hm | hm
    · have q := g.new hm
      rw [f2 a (nn a q)] at q
      exact q
    · exact h.new (List.mem_append_right _ hm)
  · rw [List.map_append, List.nodup_append]
    refine ⟨g.nd, n2, fun a ha b hb e => ?_⟩
    subst e
    obtain ⟨⟨x, u⟩, h1, h2⟩ := List.mem_map.mp ha
    have e : x = a := h2
    subst e
    exact nn x (g.new h1) hb
theorem Lo.to {H0 H : Hp} {L L' : List Cell} (h : Lo H0 H L) (e : L = L') : Lo H0 H L' := e ▸ h
theorem Lo.sm {H0 H : Hp} {L : List Cell} (h : Lo H0 H L) : Same H0 H := h.same

/-! ### lists of ints -/
def intsO (ns : List Int) : HO := .lst (ns.map V.int)
def refsO (ps : List Addr) : HO := .lst (ps.map V.ref)
/-- the rows' cells -/
def rowsC : List Addr → List (List Int) → List Cell
  | p :: ps, r :: rs => (p, intsO r) :: rowsC ps rs
  | _, _ => []
theorem rowsC_map : ∀ {ps : List Addr} {rs : List (List Int)}, ps.length = rs.length → (rowsC ps rs).map (·.1) = ps
  | [], [], _ => rfl
  | p :: ps, r :: rs, h => by
    unfold rowsC
    rw [List.map_cons, rowsC_map (Nat.succ.inj h)]
theorem rowsC_get : ∀ {ps : List Addr} {rs : List (List Int)} {i : Nat} {p : Addr} {r : List Int}, ps[i]? = some p → rs[i]? = some r → (p, intsO r) ∈ rowsC ps rs
  | p :: ps, r :: rs, 0, _, _, h1, h2 => by
    simp at h1 h2; subst h1 h2
    exact List.mem_cons_self
  | p :: ps, r :: rs, i + 1, _, _, h1, h2 => by
    simp at h1 h2
    exact List.mem_cons_of_mem _ (rowsC_get h1 h2)
theorem rowsC_split : ∀ {ps : List Addr} {rs : List (List Int)} {i : Nat} {p : Addr} {r : List Int}, ps[i]? = some p → rs[i]? = some r →
    ∃ A B, rowsC ps rs = A ++ (p, intsO r) :: B ∧ ∀ r', rowsC ps (rs.set i r') = A ++ (p, intsO r') :: B
  | p :: ps, r :: rs, 0, _, _, h1, h2 => by
    simp at h1 h2; subst h1 h2
    exact ⟨[], rowsC ps rs, rfl, fun r' => rfl⟩
  | p :: ps, r :: rs, i + 1, _, _, h1, h2 => by
    simp at h1 h2
    obtain ⟨A, B, e1, e2⟩ := rowsC_split h1 h2
    refine ⟨(p, intsO r) :: A, B, ?_, fun r' => ?_⟩
    · show (p, intsO r) :: rowsC ps rs = _
      rw [e1]; rfl
    · show (p, intsO r) :: rowsC ps (rs.set i r') = _
      rw [e2]; rfl
theorem rowsC_snoc : ∀ {ps : List Addr} {rs : List (List Int)} {p : Addr} {r : List Int}, ps.length = rs.length → rowsC (ps ++ [p]) (rs ++ [r]) = rowsC ps rs ++ [(p, intsO r)]
  | [], [], _, _, _ => rfl
  | q :: ps, s :: rs, p, r, h => by
    show (q, intsO s) :: rowsC (ps ++ [p]) (rs ++ [r]) = _
    rw [rowsC_snoc (Nat.succ.inj h)]; rfl
/-- a list of lists of ints, all its own -/
def llC (p : Addr) (ps : List Addr) (rs : List (List Int)) : List Cell := (p, refsO ps) :: rowsC ps rs
/-- a list of lists of ints, to be read -/
structure Rows (H : Hp) (p : Addr) (ps : List Addr) (rs : List (List Int)) : Prop where
  top : H p = some (refsO ps)
  len : ps.length = rs.length
  row : ∀ {i : Nat} {q : Addr} {r : List Int}, ps[i]? = some q → rs[i]? = some r → H q = some (intsO r)
theorem Rows.same {H H' : Hp} {p : Addr} {ps : List Addr} {rs : List (List Int)} (h : Rows H p ps rs) (s : Same H H') : Rows H' p ps rs :=
  ⟨s _ _ h.top, h.len, fun a b => s _ _ (h.row a b)⟩
theorem Rows.at {H : Hp} {p : Addr} {ps : List Addr} {rs : List (List Int)} (h : Rows H p ps rs) {i : Nat} {r : List Int} (e : rs[i]? = some r) : ∃ q, ps[i]? = some q ∧ H q = some (intsO r) := by
  have hi : i < rs.length := (List.getElem?_eq_some_iff.mp e).1
  have hp : i < ps.length := by rw [h.len]; exact hi
  exact ⟨ps[i], List.getElem?_eq_some_iff.mpr ⟨hp, rfl⟩, h.row (List.getElem?_eq_some_iff.mpr ⟨hp, rfl⟩) e⟩
theorem Lo.rows {H0 H : Hp} {A B : List Cell} {p : Addr} {ps : List Addr} {rs : List (List Int)} (h : Lo H0 H (A ++ (llC p ps rs ++ B))) (hl : ps.length = rs.length) : Rows H p ps rs :=
  ⟨h.get (List.mem_append_right _ (List.mem_append_left _ (List.mem_cons_self))), hl, fun e1 e2 => h.get (List.mem_append_right _ (List.mem_append_left _ (List.mem_cons_of_mem _ (rowsC_get e1 e2))))⟩

/-! ### defs as they are called -/
section
variable (P : Program) (w : World) (K : PySem.W.Frag) (mg : Str → Option Value) (base : Heap)
/-- a def of the top: it keeps its promise, up to level k -/
structure Dfn (x : Str) (k : Nat) (ps : List Str) (sp : Sp) : Prop where
  ex : ∃ (f : Addr) (fd : FuncData), mg x = some (.ref f) ∧ PySem.W.keepIn K (.ref f) = true ∧ Binds K fd ps [] ∧ FnOk P w K mg base CX0 k f fd ps sp
end
section
variable {X : Cx} {x : Str} {k j : Nat} {ps : List Str} {sp : Sp} {p pos : Pos} {e : Expr} {es : List Expr} {t : TA}
theorem pe_callD (D : Dfn X.prog X.w X.K X.mg X.base x k ps sp) (hr : Room j X.A) (hj : k ≤ j) (hg : Gl X x) (ha : PA X (e :: es) t)
    (hdb : (x == ("__debug__" : Str)) = false := by decide) (he : starEach (e :: es) X.env = (false, eval e X.env) :: starEach es X.env := by rfl) (hpl : (backTo pos (starEach es X.env)).any (·.1) = false := by rfl) :
    PE X (.Call (.Name x p) (e :: es) [] pos) (tCall sp [] E0 t) := by
  obtain ⟨f, fd, h1, h2, h3, h4⟩ := D.ex
  exact pe_call h4 (hr.mono hj) hg h1 h2 h3 .nil pass0 ha hdb he hpl
theorem pe_callD0 (D : Dfn X.prog X.w X.K X.mg X.base x k ps sp) (hr : Room j X.A) (hj : k ≤ j) (hg : Gl X x)
    (hdb : (x == ("__debug__" : Str)) = false := by decide) : PE X (.Call (.Name x p) [] [] pos) (tCall sp [] E0 tNil) := by
  obtain ⟨f, fd, h1, h2, h3, h4⟩ := D.ex
  exact pe_call0 h4 (hr.mono hj) hg h1 h2 h3 .nil pass0 hdb
end

/-! ### loops over enumerate(list) -/
section
variable {K : PySem.W.Frag} {a : Addr} {xs : List V}
theorem for_enum {g : TG} {tb : TS} {D : Ends} {σ : L2.St} {H : Hp} (Pv : Nat → L2.St → Hp → Prop) (h0 : Pv 0 σ H) (hl : ∀ i σ H, i ≤ xs.length → Pv i σ H → SqL K H a xs)
    (hs : ∀ i x σ H T, xs[i]? = some x → Pv i σ H → H T = none → g (.ref T) σ (upd H T (.tup [.int (i : Nat), x])) fun σ2 H2 => tb { D with nx := Pv (i + 1), ct := Pv (i + 1), bk := D.nx } σ2 H2) (hd : ∀ σ H, Pv xs.length σ H → D.nx σ H) :
    ∃ W : Nat → Nat → L2.St → Hp → Prop, (∃ m, W 0 m σ H) ∧ ∀ i m σ H, W i m σ H →
      ((Ite K a).stop i H ∧ D.nx σ H) ∨ ((Ite K a).go i H ∧ ∃ N : L2.St → Hp → Prop, (∀ σ' H', N σ' H' → ∃ m', m' < m ∧ W (i + 1) m' σ' H') ∧ ∀ x H', (Ite K a).yld i H x H' → g x σ H' fun σ2 H2 => tb { D with nx := N, ct := N, bk := D.nx } σ2 H2) := by
  refine ⟨fun i m σ H => m = xs.length - i ∧ i ≤ xs.length ∧ Pv i σ H, ⟨xs.length, by simp, Nat.zero_le _, h0⟩, ?_⟩
  rintro i m σ H ⟨rfl, hi, p⟩
  have q := hl i σ H hi p
  by_cases hlt : i < xs.length
  · refine .inr ⟨⟨xs, xs[i], q, by simp [hlt]⟩, Pv (i + 1), fun σ' H' p' => ⟨xs.length - (i + 1), by omega, rfl, hlt, p'⟩, fun x H' y => ?_⟩
    obtain ⟨T, y, e1, e2, e3, y3⟩ := y
    subst e1 e3
    exact hs i y σ _ T (y3 xs q) p e2
  · have e : i = xs.length := by omega
    subst e
    exact .inl ⟨⟨xs, q, Nat.le_refl _⟩, hd σ H p⟩
theorem lc_enum {g : TG} {tt : TT} {te : TE} {vs : List Nat} {σ : L2.St} {H1 : Hp} {D : Addr} {Qd : Hp → Prop} (Pv : Nat → Hp → Prop) (h0 : Pv 0 (upd H1 D (.lst []))) (hl : ∀ i H, i ≤ xs.length → Pv i H → SqL K H a xs)
    (hs : ∀ i x H T, xs[i]? = some x → Pv i H → H T = none → g (.ref T) (wipe σ vs) (upd H T (.tup [.int (i : Nat), x])) fun σ2 H2 => wipe σ2 vs = wipe σ vs ∧ tt σ2 H2 fun b H3 =>
      if b = true then te σ2 H3 fun y H4 => ∃ acc, H4 D = some (.lst acc) ∧ acc.length < sizeLine ∧ Pv (i + 1) (upd H4 D (.lst (acc ++ [y]))) else Pv (i + 1) H3) (hd : ∀ H, Pv xs.length H → Qd H) :
    ∃ W : Nat → Nat → Hp → Prop, (∃ m, W 0 m (upd H1 D (.lst []))) ∧ ∀ i m H, W i m H →
      ((Ite K a).stop i H ∧ Qd H) ∨ ((Ite K a).go i H ∧ ∃ Nx : Hp → Prop, (∀ H', Nx H' → ∃ m', m' < m ∧ W (i + 1) m' H') ∧ ∀ x H', (Ite K a).yld i H x H' → g x (wipe σ vs) H' fun σ2 H2 => wipe σ2 vs = wipe σ vs ∧ tt σ2 H2 fun b H3 =>
        if b = true then te σ2 H3 fun y H4 => ∃ acc, H4 D = some (.lst acc) ∧ acc.length < sizeLine ∧ Nx (upd H4 D (.lst (acc ++ [y]))) else Nx H3) := by
  refine ⟨fun i m H => m = xs.length - i ∧ i ≤ xs.length ∧ Pv i H, ⟨xs.length, by simp, Nat.zero_le _, h0⟩, ?_⟩
  rintro i m H ⟨rfl, hi, p⟩
  have q := hl i H hi p
  by_cases hlt : i < xs.length
  · refine .inr ⟨⟨xs, xs[i], q, by simp [hlt]⟩, Pv (i + 1), fun H' p' => ⟨xs.length - (i + 1), by omega, rfl, hlt, p'⟩, fun x H' y => ?_⟩
    obtain ⟨T, y, e1, e2, e3, y3⟩ := y
    subst e1 e3
    exact hs i y _ T (y3 xs q) p e2
  · have e : i = xs.length := by omega
    subst e
    exact .inl ⟨⟨xs, q, Nat.le_refl _⟩, hd H p⟩
end

/-! ### what the top leaves of the built-in names -/
structure Blt (mg : Str → Option Value) : Prop where
  len : mg "len" = none
  range : mg "range" = none
  enumerate : mg "enumerate" = none
  sorted : mg "sorted" = none
  max : mg "max" = none
  min : mg "min" = none
  sum : mg "sum" = none
  list : mg "list" = none
  all : mg "all" = none
  any : mg "any" = none
  isinstance : mg "isinstance" = none
  zip : mg "zip" = none
  abs : mg "abs" = none
  int : mg "int" = none
  bool : mg "bool" = none
  tuple : mg "tuple" = none
  set : mg "set" = none
  str : mg "str" = none

/-! ### places of the text -/
def xRet : Stmt → Expr
  | .Return (some e) _ => e
  | _ => .Constant .none 0 ⟨0, 0, 0, 0⟩
def xExpr : Stmt → Expr
  | .Expr e _ => e
  | _ => .Constant .none 0 ⟨0, 0, 0, 0⟩
def xVal : Stmt → Expr
  | .Assign _ e _ => e
  | .AugAssign _ _ e _ => e
  | _ => .Constant .none 0 ⟨0, 0, 0, 0⟩
def xTest : Stmt → Expr
  | .If e _ _ _ => e
  | .While e _ _ _ => e
  | _ => .Constant .none 0 ⟨0, 0, 0, 0⟩
def xBody : Stmt → List Stmt
  | .If _ b _ _ => b
  | .While _ b _ _ => b
  | .For _ _ b _ _ => b
  | _ => []
def xElse : Stmt → List Stmt
  | .If _ _ b _ => b
  | _ => []
def xIter : Stmt → Expr
  | .For _ e _ _ _ => e
  | _ => .Constant .none 0 ⟨0, 0, 0, 0⟩
def xLcSc : Expr → Scope
  | .ListComp _ _ s _ => s
  | _ => { kind := .function, names := [], isGenerator := false, isCoroutine := false }
/-- the scope of a block within a block -/
def xRel (sc scope : Scope) : Scope := { scope with names := scope.names.map fun (n, k) => if (k == .free && sc.kind == .function && sc.names.lookup n == some .cell) then (n, .cell) else (n, k) }
def xLcElt : Expr → Expr
  | .ListComp e _ _ _ => e
  | e => e
def xLcIter : Expr → Expr
  | .ListComp _ (g :: _) _ _ => g.iter
  | e => e
def xLcIf : Expr → Expr
  | .ListComp _ (g :: _) _ _ => g.ifs.headD (.Constant .none 0 ⟨0, 0, 0, 0⟩)
  | e => e
def xArg : Expr → Nat → Expr
  | .Call _ as _ _, i => as.getD i (.Constant .none 0 ⟨0, 0, 0, 0⟩)
  | e, _ => e
def xCallO : Expr → Expr
  | .Call (.Attribute o _ _) _ _ _ => o
  | e => e
def xAttr : Expr → Expr
  | .Attribute o _ _ => o
  | e => e
def xBinL : Expr → Expr
  | .BinOp a _ _ _ => a
  | e => e
def xBinR : Expr → Expr
  | .BinOp _ _ a _ => a
  | e => e
def xUn : Expr → Expr
  | .UnaryOp _ a _ => a
  | e => e
def xCmpL : Expr → Expr
  | .Compare a _ _ _ => a
  | e => e
def xCmpR : Expr → Nat → Expr
  | .Compare _ _ as _, i => as.getD i (.Constant .none 0 ⟨0, 0, 0, 0⟩)
  | e, _ => e
def xBool : Expr → Nat → Expr
  | .BoolOp _ as _, i => as.getD i (.Constant .none 0 ⟨0, 0, 0, 0⟩)
  | e, _ => e
def xLst : Expr → Nat → Expr
  | .List as _, i => as.getD i (.Constant .none 0 ⟨0, 0, 0, 0⟩)
  | e, _ => e
def xTup : Expr → Nat → Expr
  | .Tuple as _ _, i => as.getD i (.Constant .none 0 ⟨0, 0, 0, 0⟩)
  | e, _ => e
def xSub : Expr → Expr
  | .Subscript a _ _ => a
  | e => e
def xIx : Expr → Expr
  | .Subscript _ a _ => a
  | e => e
def xIfT : Expr → Expr
  | .IfExp a _ _ _ => a
  | e => e
def xIfA : Expr → Expr
  | .IfExp _ a _ _ => a
  | e => e
def xIfB : Expr → Expr
  | .IfExp _ _ a _ => a
  | e => e

/-! ### sizes -/
theorem sz {n : Nat} (h : n ≤ 100000) : n ≤ sizeLine := Nat.le_trans h (by decide)
theorem szl {n : Nat} (h : n < 100000) : n < sizeLine := Nat.lt_of_lt_of_le h (by decide)
theorem atI_of {α : Type} {xs : List α} {i : Nat} {v : α} (h : xs[i]? = some v) : atI xs (i : Int) = some v := atI_nat h

/-! ### the readings by names -/
abbrev qAdd : R2 := rI0 fun i j => .int (i + j)
abbrev qSub : R2 := rI0 fun i j => .int (i - j)
abbrev qMul : R2 := rI CMul fun i j => .int (i * j)
abbrev qMulW : R2 := rI CMulW fun i j => .int (i * j)
abbrev qDiv : R2 := rI CDiv fun i j => .int (i / j)
abbrev qMod : R2 := rI (fun _ j => 0 < j) fun i j => .int (i % j)
abbrev qPow : R2 := rI CPow fun i j => .int (i ^ j.toNat)
abbrev qLt : R2 := rI0 fun i j => .bl (decide (i < j))
abbrev qLe : R2 := rI0 fun i j => .bl (decide (i ≤ j))
abbrev qGt : R2 := rI0 fun i j => .bl (decide (j < i))
abbrev qGe : R2 := rI0 fun i j => .bl (decide (j ≤ i))
abbrev qNeg : V → Hp → VK → Prop := rU fun i => .int (-i)
abbrev qIsN : R2 := fun x y H Q => y = .non ∧ Q (.bl (decide (x = .non))) H
abbrev qNotN : R2 := fun x y H Q => y = .non ∧ Q (.bl (!decide (x = .non))) H
abbrev RC := List V → Hp → VK → Prop
abbrev qLen (K : PySem.W.Frag) : RC := fun xs H Q => ∃ p ys, xs = [.ref p] ∧ (SqL K H p ys ∨ SqT K H p ys) ∧ Q (.int ys.length) H
abbrev qLenD : RC := fun xs H Q => ∃ a kvs, xs = [V.ref a] ∧ H a = some (.dK kvs) ∧ Q (.int kvs.length) H
abbrev qLenStr : RC := fun xs H Q => ∃ z, xs = [.str z] ∧ z.length ≤ sizeLine ∧ Q (.int z.length) H
abbrev qList (K : PySem.W.Frag) : RC := fun xs H Q => ∃ p ys, xs = [.ref p] ∧ (SqL K H p ys ∨ SqT K H p ys) ∧ ∀ l, H l = none → Q (.ref l) (upd H l (.lst ys))
abbrev qListD : RC := fun xs H Q => ∃ (a : Addr) (kvs : List (Key × V)), xs = [.ref a] ∧ Rd H a (.dK kvs) ∧ ∀ p, H p = none → Q (.ref p) (upd H p (.lst (kvs.map fun kv => kV kv.1)))
abbrev qTuple (K : PySem.W.Frag) : RC := fun xs H Q => ∃ p ys, xs = [.ref p] ∧ ((SqL K H p ys ∧ ∀ l, H l = none → Q (.ref l) (upd H l (.tup ys))) ∨ (SqT K H p ys ∧ Q (.ref p) H))
abbrev qMax2 : RC := fun xs H Q => ∃ i j, xs = [.int i, .int j] ∧ Q (.int (if j > i then j else i)) H
abbrev qMin2 : RC := fun xs H Q => ∃ i j, xs = [.int i, .int j] ∧ Q (.int (if j < i then j else i)) H
abbrev qAbs : RC := fun xs H Q => ∃ i, xs = [.int i] ∧ Q (.int (if i < 0 then -i else i)) H
abbrev qInsert : V → List V → Hp → VK → Prop := fun x vs H Q => ∃ (l : Addr) (xs : List V) (i : Int) (y : V), x = .ref l ∧ vs = [.int i, y] ∧ H l = some (.lst xs) ∧ xs.length < sizeLine ∧ 0 ≤ i ∧ i < 2 ^ 63 ∧ Q .non (upd H l (.lst (xs.take i.toNat ++ [y] ++ xs.drop i.toNat)))
/-- the ends of a def's body -/
abbrev fin (Q : VK) : Ends := { nx := fun _ H' => Q .non H', rt := Q }
/-- the slots ahead of a def's body -/
abbrev st0 (n : Nat) (vs : List V) : L2.St := vs.map some ++ List.replicate (n - vs.length) none

/-! ### comprehensions without a test -/
theorem yes_of {A B : Hp → Prop} {σ : L2.St} {H : Hp} (h : A H) : tYes σ H (fun b H3 => if b = true then A H3 else B H3) := by
  show (if true = true then A H else B H)
  rw [if_pos rfl]
  exact h
section
variable {g : TG} {te : TE} {vs : List Nat} {σ : L2.St} {H1 : Hp} {D : Addr} {Qd : Hp → Prop}
theorem lc_rangeY {lo : Int} {n : Nat} (Pv : Nat → Hp → Prop) (h0 : Pv 0 (upd H1 D (.lst [])))
    (hs : ∀ i H, i < n → Pv i H → g (.int (lo + i)) (wipe σ vs) H fun σ2 H2 => wipe σ2 vs = wipe σ vs ∧ te σ2 H2 fun y H4 => ∃ acc, H4 D = some (.lst acc) ∧ acc.length < sizeLine ∧ Pv (i + 1) (upd H4 D (.lst (acc ++ [y])))) (hd : ∀ H, Pv n H → Qd H)
    (mono : ∀ v σ H Q Q', (∀ σ2 H2, Q σ2 H2 → Q' σ2 H2) → g v σ H Q → g v σ H Q') :
    ∃ W : Nat → Nat → Hp → Prop, (∃ m, W 0 m (upd H1 D (.lst []))) ∧ ∀ i m H, W i m H →
      ((Itr lo n).stop i H ∧ Qd H) ∨ ((Itr lo n).go i H ∧ ∃ Nx : Hp → Prop, (∀ H', Nx H' → ∃ m', m' < m ∧ W (i + 1) m' H') ∧ ∀ x H', (Itr lo n).yld i H x H' → g x (wipe σ vs) H' fun σ2 H2 => wipe σ2 vs = wipe σ vs ∧ tYes σ2 H2 fun b H3 =>
        if b = true then te σ2 H3 fun y H4 => ∃ acc, H4 D = some (.lst acc) ∧ acc.length < sizeLine ∧ Nx (upd H4 D (.lst (acc ++ [y]))) else Nx H3) :=
  lc_range Pv h0 (fun i H hi p => mono _ _ _ _ _ (fun σ2 H2 ⟨e, q⟩ => ⟨e, yes_of q⟩) (hs i H hi p)) hd
theorem lc_listY {K : PySem.W.Frag} {a : Addr} {xs : List V} (Pv : Nat → Hp → Prop) (h0 : Pv 0 (upd H1 D (.lst []))) (hl : ∀ i H, i ≤ xs.length → Pv i H → SqL K H a xs)
    (hs : ∀ i x H, xs[i]? = some x → Pv i H → g x (wipe σ vs) H fun σ2 H2 => wipe σ2 vs = wipe σ vs ∧ te σ2 H2 fun y H4 => ∃ acc, H4 D = some (.lst acc) ∧ acc.length < sizeLine ∧ Pv (i + 1) (upd H4 D (.lst (acc ++ [y])))) (hd : ∀ H, Pv xs.length H → Qd H)
    (mono : ∀ v σ H Q Q', (∀ σ2 H2, Q σ2 H2 → Q' σ2 H2) → g v σ H Q → g v σ H Q') :
    ∃ W : Nat → Nat → Hp → Prop, (∃ m, W 0 m (upd H1 D (.lst []))) ∧ ∀ i m H, W i m H →
      ((Itl K a).stop i H ∧ Qd H) ∨ ((Itl K a).go i H ∧ ∃ Nx : Hp → Prop, (∀ H', Nx H' → ∃ m', m' < m ∧ W (i + 1) m' H') ∧ ∀ x H', (Itl K a).yld i H x H' → g x (wipe σ vs) H' fun σ2 H2 => wipe σ2 vs = wipe σ vs ∧ tYes σ2 H2 fun b H3 =>
        if b = true then te σ2 H3 fun y H4 => ∃ acc, H4 D = some (.lst acc) ∧ acc.length < sizeLine ∧ Nx (upd H4 D (.lst (acc ++ [y]))) else Nx H3) :=
  lc_list Pv h0 hl (fun i x H hi p => mono _ _ _ _ _ (fun σ2 H2 ⟨e, q⟩ => ⟨e, yes_of q⟩) (hs i x H hi p)) hd
theorem lc_enumY {K : PySem.W.Frag} {a : Addr} {xs : List V} (Pv : Nat → Hp → Prop) (h0 : Pv 0 (upd H1 D (.lst []))) (hl : ∀ i H, i ≤ xs.length → Pv i H → SqL K H a xs)
    (hs : ∀ i x H T, xs[i]? = some x → Pv i H → H T = none → g (.ref T) (wipe σ vs) (upd H T (.tup [.int (i : Nat), x])) fun σ2 H2 => wipe σ2 vs = wipe σ vs ∧ te σ2 H2 fun y H4 => ∃ acc, H4 D = some (.lst acc) ∧ acc.length < sizeLine ∧ Pv (i + 1) (upd H4 D (.lst (acc ++ [y])))) (hd : ∀ H, Pv xs.length H → Qd H)
    (mono : ∀ v σ H Q Q', (∀ σ2 H2, Q σ2 H2 → Q' σ2 H2) → g v σ H Q → g v σ H Q') :
    ∃ W : Nat → Nat → Hp → Prop, (∃ m, W 0 m (upd H1 D (.lst []))) ∧ ∀ i m H, W i m H →
      ((Ite K a).stop i H ∧ Qd H) ∨ ((Ite K a).go i H ∧ ∃ Nx : Hp → Prop, (∀ H', Nx H' → ∃ m', m' < m ∧ W (i + 1) m' H') ∧ ∀ x H', (Ite K a).yld i H x H' → g x (wipe σ vs) H' fun σ2 H2 => wipe σ2 vs = wipe σ vs ∧ tYes σ2 H2 fun b H3 =>
        if b = true then te σ2 H3 fun y H4 => ∃ acc, H4 D = some (.lst acc) ∧ acc.length < sizeLine ∧ Nx (upd H4 D (.lst (acc ++ [y]))) else Nx H3) :=
  lc_enum Pv h0 hl (fun i x H T hi p hT => mono _ _ _ _ _ (fun σ2 H2 ⟨e, q⟩ => ⟨e, yes_of q⟩) (hs i x H T hi p hT)) hd
end
theorem gN_mono (j : Nat) : ∀ v σ H Q Q', (∀ σ2 H2, Q σ2 H2 → Q' σ2 H2) → gName j v σ H Q → gName j v σ H Q' := fun _ _ _ _ _ f h => f _ _ h
theorem gT2_mono (K : PySem.W.Frag) (i j : Nat) : ∀ v σ H Q Q', (∀ σ2 H2, Q σ2 H2 → Q' σ2 H2) → gTup K 2 (gCons (gName i) (gCons (gName j) gNil)) v σ H Q → gTup K 2 (gCons (gName i) (gCons (gName j) gNil)) v σ H Q' := by
  rintro v σ H Q Q' f ⟨a, xs, e1, e2, e3, v1, r1, e4, v2, r2, e5, e6, q⟩
  exact ⟨a, xs, e1, e2, e3, v1, r1, e4, v2, r2, e5, e6, f _ _ q⟩
theorem gT3_mono (K : PySem.W.Frag) (i j l : Nat) : ∀ v σ H Q Q', (∀ σ2 H2, Q σ2 H2 → Q' σ2 H2) → gTup K 3 (gCons (gName i) (gCons (gName j) (gCons (gName l) gNil))) v σ H Q → gTup K 3 (gCons (gName i) (gCons (gName j) (gCons (gName l) gNil))) v σ H Q' := by
  rintro v σ H Q Q' f ⟨a, xs, e1, e2, e3, v1, r1, e4, v2, r2, e5, v3, r3, e6, e7, q⟩
  exact ⟨a, xs, e1, e2, e3, v1, r1, e4, v2, r2, e5, v3, r3, e6, e7, f _ _ q⟩

/-! ### rows written -/
theorem Lo.rowW {H0 H : Hp} {A B : List Cell} {p : Addr} {ps : List Addr} {rs : List (List Int)} {k : Nat} {q : Addr} {r : List Int} (h : Lo H0 H (A ++ (llC p ps rs ++ B))) (hq : ps[k]? = some q) (hr : rs[k]? = some r) (r' : List Int) :
    Lo H0 (upd H q (intsO r')) (A ++ (llC p ps (rs.set k r') ++ B)) := by
  obtain ⟨C, D, e1, e2⟩ := rowsC_split hq hr
  have e3 : A ++ (llC p ps rs ++ B) = (A ++ (p, refsO ps) :: C) ++ (q, intsO r) :: (D ++ B) := by
    unfold llC; rw [e1]; simp
  have e4 : A ++ (llC p ps (rs.set k r') ++ B) = (A ++ (p, refsO ps) :: C) ++ (q, intsO r') :: (D ++ B) := by
    unfold llC; rw [e2]; simp
  rw [e4]
  exact (h.to e3).wr _
/-- a new row at the end of a list of rows -/
theorem Lo.rowN {H0 H : Hp} {B : List Cell} {p : Addr} {ps : List Addr} {rs : List (List Int)} {q : Addr} {r : List Int} (h : Lo H0 H ((q, intsO r) :: (llC p ps rs ++ B))) (hl : ps.length = rs.length) :
    Lo H0 (upd H p (refsO (ps ++ [q]))) (llC p (ps ++ [q]) (rs ++ [r]) ++ B) := by
  have L2 : Lo H0 H (((q, intsO r) :: []) ++ (p, refsO ps) :: (rowsC ps rs ++ B)) := h
  refine (L2.wr (refsO (ps ++ [q]))).perm ?_
  unfold llC
  rw [rowsC_snoc hl]
  simp only [List.cons_append, List.nil_append, List.append_assoc]
  refine (List.Perm.swap _ _ _).trans (List.Perm.cons _ ?_)
  exact (List.perm_middle (a := (q, intsO r)) (l₁ := rowsC ps rs) (l₂ := B)).symm
theorem Lo.rowN0 {H0 H : Hp} {p : Addr} {ps : List Addr} {rs : List (List Int)} {q : Addr} {r : List Int} (h : Lo H0 H ((q, intsO r) :: llC p ps rs)) (hl : ps.length = rs.length) :
    Lo H0 (upd H p (refsO (ps ++ [q]))) (llC p (ps ++ [q]) (rs ++ [r])) := by
  have := Lo.rowN (B := []) (p := p) (ps := ps) (rs := rs) (q := q) (r := r) (h.to (by rw [List.append_nil])) hl
  rwa [List.append_nil] at this
theorem Lo.rowW0 {H0 H : Hp} {p : Addr} {ps : List Addr} {rs : List (List Int)} {k : Nat} {q : Addr} {r : List Int} (h : Lo H0 H (llC p ps rs)) (hq : ps[k]? = some q) (hr : rs[k]? = some r) (r' : List Int) :
    Lo H0 (upd H q (intsO r')) (llC p ps (rs.set k r')) := by
  have := Lo.rowW (A := []) (B := []) (h.to (by rw [List.append_nil]; rfl)) hq hr r'
  rwa [List.append_nil] at this
theorem Lo.rowW1 {H0 H : Hp} {B : List Cell} {p : Addr} {ps : List Addr} {rs : List (List Int)} {k : Nat} {q : Addr} {r : List Int} (h : Lo H0 H (llC p ps rs ++ B)) (hq : ps[k]? = some q) (hr : rs[k]? = some r) (r' : List Int) :
    Lo H0 (upd H q (intsO r')) (llC p ps (rs.set k r') ++ B) := Lo.rowW (A := []) h hq hr r'
theorem map_int_snoc (r : List Int) (x : Int) : List.map V.int r ++ [V.int x] = List.map V.int (r ++ [x]) := by simp
theorem map_ref_snoc (r : List Addr) (x : Addr) : List.map V.ref r ++ [V.ref x] = List.map V.ref (r ++ [x]) := by simp
theorem atI_ref {ps : List Addr} {i : Int} {q : Addr} (h0 : 0 ≤ i) (h : ps[i.toNat]? = some q) : atI (ps.map V.ref) i = some (.ref q) := by
  have := atI_nat (xs := ps.map V.ref) (j := i.toNat) (v := V.ref q) (by rw [List.getElem?_map, h]; rfl)
  rwa [show ((i.toNat : Nat) : Int) = i by omega] at this
theorem atI_int {ps : List Int} {i : Int} {q : Int} (h0 : 0 ≤ i) (h : ps[i.toNat]? = some q) : atI (ps.map V.int) i = some (.int q) := by
  have := atI_nat (xs := ps.map V.int) (j := i.toNat) (v := V.int q) (by rw [List.getElem?_map, h]; rfl)
  rwa [show ((i.toNat : Nat) : Int) = i by omega] at this
theorem get_some {α : Type} {xs : List α} {i : Nat} (h : i < xs.length) : xs[i]? = some (xs[i]'h) := List.getElem?_eq_some_iff.mpr ⟨h, rfl⟩
theorem mapV_get {f : Int → V} {us : List Int} {i : Nat} {x : V} (h : (us.map f)[i]? = some x) : ∃ u, us[i]? = some u ∧ x = f u := by
  rw [List.getElem?_map] at h
  cases e : us[i]? with
  | none => rw [e] at h; cases h
  | some u => rw [e] at h; exact ⟨u, rfl, (Option.some.inj h).symm⟩
theorem mapA_get {f : Addr → V} {us : List Addr} {i : Nat} {x : V} (h : (us.map f)[i]? = some x) : ∃ u, us[i]? = some u ∧ x = f u := by
  rw [List.getElem?_map] at h
  cases e : us[i]? with
  | none => rw [e] at h; cases h
  | some u => rw [e] at h; exact ⟨u, rfl, (Option.some.inj h).symm⟩
theorem lt_of_get {α : Type} {xs : List α} {i : Nat} {x : α} (h : xs[i]? = some x) : i < xs.length := (List.getElem?_eq_some_iff.mp h).1

/-! ### [list(row) for row in rows] -/
theorem wipe1 (σ : L2.St) (j : Nat) : wipe σ [j] = σ.set j none := rfl
theorem wipe1_set (σ : L2.St) (j : Nat) (x : Option V) : wipe ((wipe σ [j]).set j x) [j] = wipe σ [j] := by
  rw [wipe1, wipe1, List.set_set, List.set_set]
theorem slot_set {σ : L2.St} {j : Nat} (hj : j < σ.length) (x : Option V) : (σ.set j x)[j]? = some x := by simp [hj]
theorem slot_wset {σ : L2.St} {j : Nat} (hj : j < σ.length) (x : Option V) : ((wipe σ [j]).set j x)[j]? = some x := by rw [wipe1]; simp [hj]
theorem ev_copy {K : PySem.W.Frag} {σ : L2.St} {H : Hp} {tl : TE} {j : Nat} {Q : VK} {po : Addr} {pso : List Addr} {rows : List (List Int)} (h : ∀ Q' : VK, Q' (.ref po) H → tl σ H Q') (R : Rows H po pso rows) (hz : rows.length ≤ 10000) (hj : j < σ.length)
    (k : ∀ p ps H', Lo H H' (llC p ps rows) → ps.length = rows.length → Q (.ref p) H') : tLc (iList K tl) (gName j) tYes (tCB (qList K) (tCons (tVar j) tNil)) [j] σ H Q := by
  refine h _ ⟨po, rfl, ⟨_, SqL.of R.top⟩, fun D hD => ?_⟩
  refine lc_listY (xs := pso.map V.ref) (fun i H1 => ∃ ps, ps.length = i ∧ Lo H H1 (llC D ps (rows.take i))) ⟨[], rfl, (Lo.nil H).al hD _⟩ ?_ ?_ ?_ (gN_mono _)
  · rintro i H1 hi ⟨ps, hps, L1⟩
    exact SqL.of (L1.same _ _ R.top)
  · rintro i x H1 hx ⟨ps, hps, L1⟩
    obtain ⟨q, hq, rfl⟩ := mapA_get hx
    have hi := lt_of_get hq
    have hr := get_some (xs := rows) (i := i) (by rw [← R.len]; exact hi)
    refine ⟨wipe1_set _ _ _, _, slot_wset hj _, q, _, rfl, .inl (SqL.of (L1.same _ _ (R.row hq hr))), fun l hl => ?_⟩
    have L2 := L1.al hl (intsO (rows[i]'(by rw [← R.len]; exact hi)))
    refine ⟨ps.map V.ref, L2.get (List.mem_cons_of_mem _ List.mem_cons_self), szl (by simp; have := R.len; omega), ps ++ [l], by simp [hps], ?_⟩
    rw [map_ref_snoc, List.take_add_one, hr]
    exact L2.rowN0 (by rw [hps, List.length_take_of_le (by rw [← R.len]; omega)])
  · rintro H1 ⟨ps, hps, L1⟩
    have e : (pso.map V.ref).length = rows.length := by rw [List.length_map]; exact R.len
    rw [e] at L1 hps
    rw [List.take_length] at L1
    exact k D ps H1 L1 hps

/-! ### data that are read -/
/-- a list of ints -/
def IsI (H : Hp) (v : V) (r : List Int) : Prop := ∃ p, v = .ref p ∧ H p = some (intsO r)
theorem IsI.same {H H' : Hp} {v : V} {r : List Int} (h : IsI H v r) (s : Same H H') : IsI H' v r := by
  obtain ⟨p, e, h⟩ := h
  exact ⟨p, e, s _ _ h⟩
/-- a list of lists of ints -/
def IsLL (H : Hp) (v : V) (rs : List (List Int)) : Prop := ∃ p ps, v = .ref p ∧ Rows H p ps rs
theorem IsLL.same {H H' : Hp} {v : V} {r : List (List Int)} (h : IsLL H v r) (s : Same H H') : IsLL H' v r := by
  obtain ⟨p, ps, e, h⟩ := h
  exact ⟨p, ps, e, h.same s⟩
theorem Same.new {H : Hp} {p : Addr} (hp : H p = none) (o : HO) : Same H (upd H p o) := fun b u e => by
  rw [upd_ne (ne_of_none e hp)]; exact e
theorem Same.mut {H H' : Hp} (s : Same H H') {p : Addr} (hp : H p = none) (o : HO) : Same H (upd H' p o) := fun b u e => by
  rw [upd_ne (ne_of_none e hp)]; exact s _ _ e
/-! deep data -/
theorem dp_ints {K : PySem.W.Frag} {H : Hp} : ∀ ns : List Int, DpAll K H (ns.map V.int) (ns.map PyData.int)
  | [] => .nil
  | n :: ns => .cons (.int n) (dp_ints ns)
abbrev dI (r : List Int) : PyData := .list (r.map PyData.int)
abbrev dLL (rs : List (List Int)) : PyData := .list (rs.map dI)
theorem dp_I {K : PySem.W.Frag} {H : Hp} {p : Addr} {r : List Int} (h : H p = some (intsO r)) : Dp K H (.ref p) (dI r) := .lst (SqL.of h) (dp_ints r)
theorem dp_SqI {K : PySem.W.Frag} {H : Hp} {p : Addr} {r : List Int} (h : SqL K H p (r.map V.int)) : Dp K H (.ref p) (dI r) := .lst h (dp_ints r)
theorem dp_rows {K : PySem.W.Frag} {H : Hp} : ∀ {ps : List Addr} {rs : List (List Int)}, ps.length = rs.length → (∀ {i : Nat} {q : Addr} {r : List Int}, ps[i]? = some q → rs[i]? = some r → H q = some (intsO r)) → DpAll K H (ps.map V.ref) (rs.map dI)
  | [], [], _, _ => .nil
  | p :: ps, r :: rs, h, f => .cons (dp_I (f (i := 0) rfl rfl)) (dp_rows (Nat.succ.inj h) (fun {i q s} a b => f (i := i + 1) (by simpa using a) (by simpa using b)))
theorem Rows.dp {K : PySem.W.Frag} {H : Hp} {p : Addr} {ps : List Addr} {rs : List (List Int)} (h : Rows H p ps rs) : Dp K H (.ref p) (dLL rs) := .lst (SqL.of h.top) (dp_rows h.len h.row)
/-- a value told otherwise -/
theorem Vc {Q : VK} {v v' : V} {H : Hp} (e : v = v') (h : Q v' H) : Q v H := e ▸ h
theorem Vi {Q : VK} {i j : Int} {H : Hp} (e : i = j) (h : Q (.int j) H) : Q (.int i) H := e ▸ h
theorem Vb {Q : VK} {i j : Bool} {H : Hp} (e : i = j) (h : Q (.bl j) H) : Q (.bl i) H := e ▸ h
theorem Hc {P : Hp → Prop} {H : Hp} {p : Addr} {o o' : HO} (e : o = o') (h : P (upd H p o')) : P (upd H p o) := e ▸ h
/-! ### statements, one by one: what is reckoned is told apart from what follows -/
section
variable {te ta : TE} {tt : TT} {tz tu tw : TS} {D : Ends} {σ : L2.St} {H : Hp} {v : V} {i : Nat}
/-- te gives v and leaves the heap -/
def Va (te : TE) (σ : L2.St) (H : Hp) (v : V) : Prop := ∀ Q : VK, Q v H → te σ H Q
/-- te gives some v and heap of which R holds -/
def Vr (te : TE) (σ : L2.St) (H : Hp) (R : V → Hp → Prop) : Prop := ∀ Q : VK, (∀ v H', R v H' → Q v H') → te σ H Q
/-- a test that gives b and leaves the heap; that may add -/
def Ta (tt : TT) (σ : L2.St) (H : Hp) (b : Bool) : Prop := ∀ Q : Bool → Hp → Prop, Q b H → tt σ H Q
def Tr (tt : TT) (σ : L2.St) (H : Hp) (b : Bool) : Prop := ∀ Q : Bool → Hp → Prop, (∀ H', Same H H' → Q b H') → tt σ H Q
theorem q_set (h : Va te σ H v) (k : tz D (σ.set i (some v)) H) : tSeq (tAsg te (gName i)) tz D σ H := h _ k
theorem q_setR {R : V → Hp → Prop} (h : Vr te σ H R) (k : ∀ v H', R v H' → tz D (σ.set i (some v)) H') : tSeq (tAsg te (gName i)) tz D σ H := h _ k
theorem s_set (h : Va te σ H v) (k : D.nx (σ.set i (some v)) H) : tAsg te (gName i) D σ H := h _ k
theorem s_setR {R : V → Hp → Prop} (h : Vr te σ H R) (k : ∀ v H', R v H' → D.nx (σ.set i (some v)) H') : tAsg te (gName i) D σ H := h _ k
theorem q_drp {R : V → Hp → Prop} (h : Vr te σ H R) (k : ∀ v H', R v H' → tz D σ H') : tSeq (tDrop te) tz D σ H := h _ k
theorem s_drp {R : V → Hp → Prop} (h : Vr te σ H R) (k : ∀ v H', R v H' → D.nx σ H') : tDrop te D σ H := h _ k
theorem s_rt {R : V → Hp → Prop} (h : Vr te σ H R) (k : ∀ v H', R v H' → D.rt v H') : tRet te D σ H := h _ k
theorem s_rta (h : Va te σ H v) (k : D.rt v H) : tRet te D σ H := h _ k
theorem q_if {b : Bool} (h : Tr tt σ H b) (k1 : b = true → ∀ H', Same H H' → tu { D with nx := tz D } σ H') (k2 : b = false → ∀ H', Same H H' → tw { D with nx := tz D } σ H') : tSeq (tIfS tt tu tw) tz D σ H := h _ fun H' s => by
  cases b with
  | true => show (if true = true then _ else tw { D with nx := tz D } σ H'); rw [if_pos rfl]; exact k1 rfl H' s
  | false => show (if false = true then tu { D with nx := tz D } σ H' else _); rw [if_neg Bool.false_ne_true]; exact k2 rfl H' s
theorem s_if {b : Bool} (h : Tr tt σ H b) (k1 : b = true → ∀ H', Same H H' → tu D σ H') (k2 : b = false → ∀ H', Same H H' → tw D σ H') : tIfS tt tu tw D σ H := h _ fun H' s => by
  cases b with
  | true => show (if true = true then _ else tw D σ H'); rw [if_pos rfl]; exact k1 rfl H' s
  | false => show (if false = true then tu D σ H' else _); rw [if_neg Bool.false_ne_true]; exact k2 rfl H' s
/-- an if without else whose test is False -/
theorem q_no (h : Tr tt σ H false) (k : ∀ H', Same H H' → tz D σ H') : tSeq (tIfS tt tu tNext) tz D σ H := h _ fun H' s => by
  show (if false = true then tu { D with nx := tz D } σ H' else _); rw [if_neg Bool.false_ne_true]; exact k H' s
theorem s_no (h : Tr tt σ H false) (k : ∀ H', Same H H' → D.nx σ H') : tIfS tt tu tNext D σ H := h _ fun H' s => by
  show (if false = true then tu D σ H' else _); rw [if_neg Bool.false_ne_true]; exact k H' s
theorem q_yes (h : Tr tt σ H true) (k : ∀ H', Same H H' → tu { D with nx := tz D } σ H') : tSeq (tIfS tt tu tw) tz D σ H := h _ fun H' s => by
  show (if true = true then _ else tw { D with nx := tz D } σ H'); rw [if_pos rfl]; exact k H' s
theorem Ta.r {b : Bool} (h : Ta tt σ H b) : Tr tt σ H b := fun Q q => h Q (q H (Same.refl H))
theorem Va.r (h : Va te σ H v) : Vr te σ H (fun w H' => w = v ∧ H' = H) := fun Q q => h Q (q v H ⟨rfl, rfl⟩)
theorem Tr.eq {b c : Bool} (h : Tr tt σ H b) (e : b = c) : Tr tt σ H c := e ▸ h
theorem Va.eq {w : V} (h : Va te σ H v) (e : v = w) : Va te σ H w := e ▸ h
end
/-! ### cells set in another order, some let go: by pieces, told by their counts -/
theorem Lo.pk {H0 H : Hp} {L L' : List Cell} (h : Lo H0 H L) (as : List (List Cell)) (p q : List Nat) (r : List Nat := []) (e1 : L = p.flatMap fun i => as.getD i [] := by first | (simp; done) | (simp [intsO, refsO]; done)) (e2 : L' = q.flatMap fun i => as.getD i [] := by first | (simp; done) | (simp [intsO, refsO]; done)) (hp : p.Perm (q ++ r) := by decide) : Lo H0 H L' := by
  have h2 : L.Perm ((q ++ r).flatMap fun i => as.getD i []) := by rw [e1]; exact hp.flatMap_right _
  rw [List.flatMap_append, ← e2] at h2
  exact (h.perm h2).sub (List.sublist_append_left _ _)
/-! ### classes -/
section
variable (P : Program) (w : World) (K : PySem.W.Frag) (mg : Str → Option Value) (base : Heap)
/-- a method of the class at C -/
structure Mth (C : Addr) (m : Str) (k : Nat) (ps : List Str) (sp : Sp) : Prop where
  cl : Cls K C
  ex : ∃ (f : Addr) (fd : FuncData), Meth K C m f ∧ Binds K fd ps [] ∧ FnOk P w K mg base CX0 k f fd ps sp
/-- the class C, called by its name x; its __init__ -/
structure Ctr (x : Str) (C : Addr) (k : Nat) (ps : List Str) (sp : Sp) : Prop where
  mgC : mg x = some (.ref C)
  ex : ∃ (f : Addr) (fd : FuncData), Mk K C f ∧ Binds K fd ps [] ∧ FnOk P w K mg base CX0 k f fd ps sp
end
section
variable {X : Cx} {x m : Str} {C : Addr} {k j : Nat} {ps : List Str} {sp : Sp} {p pos apos : Pos} {e o : Expr} {es : List Expr} {t : TA} {ta : TE}
theorem pe_makeD (D : Ctr X.prog X.w X.K X.mg X.base x C k ps sp) (hr : Room j X.A) (hj : k + 1 ≤ j) (hg : Gl X x) (ha : PA X (e :: es) t)
    (hdb : (x == ("__debug__" : Str)) = false := by decide) (he : starEach (e :: es) X.env = (false, eval e X.env) :: starEach es X.env := by rfl) (hpl : (backTo pos (starEach es X.env)).any (·.1) = false := by rfl) :
    PE X (.Call (.Name x p) (e :: es) [] pos) (tMake C sp [] E0 t) := by
  obtain ⟨f, fd, h1, h2, h3⟩ := D.ex
  exact pe_make h1 h3 (hr.mono hj) hg D.mgC h2 .nil pass0 ha hdb he hpl
end
section
variable {K : PySem.W.Frag} {ta tv te : TE} {f : Str} {tz : TS} {D : Ends} {σ : L2.St} {H : Hp} {R : V → Hp → Prop}
theorem q_fld (h : Vr tv σ H R) (k : ∀ y H1, R y H1 → ta σ H1 fun x H2 => ∃ a C dx fs, x = .ref a ∧ H2 a = some (.ins C dx fs) ∧ Cls K C ∧ NoAttr K C f ∧ fs.length < 1000 ∧ tz D σ (upd H2 a (.ins C dx (putF f y fs)))) : tSeq (sFld K ta tv f) tz D σ H := h _ k
theorem s_fld (h : Vr tv σ H R) (k : ∀ y H1, R y H1 → ta σ H1 fun x H2 => ∃ a C dx fs, x = .ref a ∧ H2 a = some (.ins C dx fs) ∧ Cls K C ∧ NoAttr K C f ∧ fs.length < 1000 ∧ D.nx σ (upd H2 a (.ins C dx (putF f y fs)))) : sFld K ta tv f D σ H := h _ k
theorem vr_copy {tl : TE} {j : Nat} {po : Addr} {pso : List Addr} {rows : List (List Int)} (h : Va tl σ H (.ref po)) (R : Rows H po pso rows) (hz : rows.length ≤ 10000) (hj : j < σ.length) :
    Vr (tLc (iList K tl) (gName j) tYes (tCB (qList K) (tCons (tVar j) tNil)) [j]) σ H (fun v H' => ∃ p ps, v = .ref p ∧ Lo H H' (llC p ps rows) ∧ ps.length = rows.length) :=
  fun Q q => ev_copy h R hz hj fun p ps H' L hl => q _ _ ⟨p, ps, rfl, L, hl⟩
theorem va_var {i : Nat} {v : V} (h : σ[i]? = some (some v)) : Va (tVar i) σ H v := fun Q q => ⟨v, h, q⟩
theorem va_c {v : V} : Va (tC v) σ H v := fun Q q => q
/-- list(xs) -/
theorem vr_list {tl : TE} {a : Addr} {xs : List V} (h : Va tl σ H (.ref a)) (hx : SqL K H a xs) : Vr (tCB (qList K) (tCons tl tNil)) σ H (fun v H' => ∃ l, v = .ref l ∧ H l = none ∧ H' = upd H l (.lst xs)) :=
  fun Q q => h _ ⟨a, xs, rfl, .inl hx, fun l hl => q _ _ ⟨l, rfl, hl, rfl⟩⟩
end
/-! ### slices -/
theorem cut_to (xs : List V) (n : Nat) : cutV xs none (some (n : Int)) = xs.take n := by
  unfold cutV
  rw [HT.sIx_none, HT.sIx_nat, List.drop_zero, Nat.sub_zero]
  by_cases h : n ≤ xs.length
  · rw [show min n xs.length = n by omega]
  · rw [show min n xs.length = xs.length by omega, List.take_of_length_le (Nat.le_refl _), List.take_of_length_le (by omega)]
theorem cut_from (xs : List V) (n : Nat) : cutV xs (some (n : Int)) none = xs.drop n := by
  unfold cutV
  rw [HT.sIx_none, HT.sIx_nat]
  by_cases h : n ≤ xs.length
  · rw [show min n xs.length = n by omega, List.take_of_length_le (by simp)]
  · rw [show min n xs.length = xs.length by omega, List.drop_of_length_le (Nat.le_refl _), List.drop_of_length_le (by omega)]
    simp
theorem sIx_neg1 (n d : Nat) : HT.sIx n d (some (-1)) = n - 1 := by
  unfold HT.sIx
  dsimp only
  rw [if_pos (by decide)]
  omega
theorem cut_butlast (xs : List V) : cutV xs none (some (-1)) = xs.take (xs.length - 1) := by
  unfold cutV
  rw [HT.sIx_none, List.drop_zero, Nat.sub_zero, sIx_neg1]
theorem cut_last (xs : List V) : cutV xs (some (-1)) none = xs.drop (xs.length - 1) := by
  unfold cutV
  rw [HT.sIx_none, sIx_neg1, List.take_of_length_le (by simp)]
section
variable {te ta tb : TE} {tr : TA} {tz : TS} {g : TG} {D : Ends} {σ : L2.St} {H : Hp} {R : V → Hp → Prop} {QA : List V → Hp → Prop} {Q : VK} {r : R2}
theorem c_cons (h : Vr te σ H R) (k : ∀ v H', R v H' → tr σ H' (fun xs H2 => QA (v :: xs) H2)) : tCons te tr σ H QA := h _ k
theorem c_op (h : Vr ta σ H R) (k : ∀ v H', R v H' → tb σ H' (fun y H2 => r v y H2 Q)) : tOp r ta tb σ H Q := h _ k
theorem c_cb {rc : List V → Hp → VK → Prop} (h : Vr te σ H R) (k : ∀ v H', R v H' → rc [v] H' Q) : tCB rc (tCons te tNil) σ H Q := h _ k
theorem q_asg (h : Vr te σ H R) (k : ∀ v H', R v H' → g v σ H' (tz D)) : tSeq (tAsg te g) tz D σ H := h _ k
theorem s_asg (h : Vr te σ H R) (k : ∀ v H', R v H' → g v σ H' D.nx) : tAsg te g D σ H := h _ k
end
/-- what follows a while: its word W, a measure; the test leaves the heap or adds to it -/
theorem q_whl {tt : TT} {tb tz : TS} {D : Ends} {σ : L2.St} {H : Hp} (W : Nat → L2.St → Hp → Prop) (m0 : Nat) (h0 : W m0 σ H)
    (hs : ∀ m σ H, W m σ H → tt σ H fun b H1 => if b = true then ∃ N : L2.St → Hp → Prop, (∀ σ' H', N σ' H' → ∃ m', m' < m ∧ W m' σ' H') ∧ tb { D with nx := N, ct := N, bk := tz D } σ H1 else tz D σ H1) : tSeq (tWhile tt tb) tz D σ H :=
  ⟨W, ⟨m0, h0⟩, hs⟩
theorem q_whN {tt : TT} {tb tz : TS} {D : Ends} {σ : L2.St} {H : Hp} (W : Nat → L2.St → Hp → Prop) (m0 : Nat) (h0 : W m0 σ H)
    (hs : ∀ m σ H, W m σ H → tt σ H fun b H1 => if b = true then tb { D with nx := fun σ' H' => ∃ m', m' < m ∧ W m' σ' H', ct := fun σ' H' => ∃ m', m' < m ∧ W m' σ' H', bk := tz D } σ H1 else tz D σ H1)
    (mono : ∀ σ H Q Q', (∀ b H2, Q b H2 → Q' b H2) → tt σ H Q → tt σ H Q') : tSeq (tWhile tt tb) tz D σ H :=
  ⟨W, ⟨m0, h0⟩, fun m σ H w => mono _ _ _ _ (fun b H1 q => by
    cases b with
    | true => exact ⟨_, fun _ _ h => h, q⟩
    | false => exact q) (hs m σ H w)⟩
end Cc

namespace Cc
/-! sorting, as it can be reckoned -/
def insBy {α : Type} (le : α → α → Bool) (x : α) : List α → List α
  | [] => [x]
  | y :: l => if le x y = true then x :: y :: l else y :: insBy le x l
def sortBy {α : Type} (le : α → α → Bool) : List α → List α
  | [] => []
  | x :: l => insBy le x (sortBy le l)
theorem insBy_perm {α : Type} (le : α → α → Bool) (x : α) : ∀ l : List α, (insBy le x l).Perm (x :: l)
  | [] => List.Perm.refl _
  | y :: l => by
    unfold insBy
    split
    · exact List.Perm.refl _
    · exact ((insBy_perm le x l).cons y).trans (List.Perm.swap _ _ _)
theorem sortBy_perm {α : Type} (le : α → α → Bool) : ∀ l : List α, (sortBy le l).Perm l
  | [] => List.Perm.refl _
  | x :: l => (insBy_perm le x _).trans ((sortBy_perm le l).cons x)
theorem insBy_sorted {α : Type} {le : α → α → Bool} (tot : ∀ a b, le a b = true ∨ le b a = true) (tr : ∀ a b c, le a b = true → le b c = true → le a c = true) (x : α) : ∀ {l : List α}, l.Pairwise (fun a b => le a b = true) → (insBy le x l).Pairwise (fun a b => le a b = true)
  | [], _ => by simp [insBy]
  | y :: l, h => by
    rw [List.pairwise_cons] at h
    unfold insBy
    split
    · rename_i hxy
      rw [List.pairwise_cons, List.pairwise_cons]
      refine ⟨fun a ha => ?_, h.1, h.2⟩
      rcases List.mem_cons.mp ha with rfl | ha
      · exact hxy
      · exact tr _ _ _ hxy (h.1 a ha)
    · rename_i hxy
      rw [List.pairwise_cons]
      refine ⟨fun a ha => ?_, insBy_sorted tot tr x h.2⟩
      rcases List.mem_cons.mp ((insBy_perm le x l).mem_iff.mp ha) with rfl | ha
      · rcases tot a y with q | q
        · exact absurd q hxy
        · exact q
      · exact h.1 a ha
theorem sortBy_sorted {α : Type} {le : α → α → Bool} (tot : ∀ a b, le a b = true ∨ le b a = true) (tr : ∀ a b c, le a b = true → le b c = true → le a c = true) : ∀ l : List α, (sortBy le l).Pairwise (fun a b => le a b = true)
  | [] => List.Pairwise.nil
  | x :: l => insBy_sorted tot tr x (sortBy_sorted tot tr l)
theorem sorted_uniq {α : Type} {le : α → α → Prop} (anti : ∀ a b, le a b → le b a → a = b) : ∀ {l m : List α}, l.Perm m → l.Pairwise le → m.Pairwise le → l = m
  | [], m, h, _, _ => (List.Perm.eq_nil h.symm).symm
  | x :: l, [], h, _, _ => absurd h.length_eq (by simp)
  | x :: l, y :: m, h, hl, hm => by
    have e : x = y := by
      rcases List.mem_cons.mp (h.mem_iff.mp List.mem_cons_self) with e | hx
      · exact e
      · rcases List.mem_cons.mp (h.mem_iff.mpr List.mem_cons_self) with e | hy
        · exact e.symm
        · exact anti _ _ ((List.pairwise_cons.mp hl).1 y hy) ((List.pairwise_cons.mp hm).1 x hx)
    subst e
    rw [sorted_uniq anti h.cons_inv (List.pairwise_cons.mp hl).2 (List.pairwise_cons.mp hm).2]
/-- ints -/
def leI (a b : Int) : Bool := decide (a ≤ b)
def sortI (l : List Int) : List Int := sortBy leI l
theorem sortI_perm (l : List Int) : (sortI l).Perm l := sortBy_perm _ _
theorem sortI_sorted (l : List Int) : (sortI l).Pairwise (· ≤ ·) :=
  (sortBy_sorted (le := leI) (fun a b => by simp [leI]; omega) (fun a b c => by simp [leI]; omega) l).imp (fun h => by simpa [leI] using h)
theorem sortI_eq {l m : List Int} (h : m.Perm l) (hm : m.Pairwise (· ≤ ·)) : m = sortI l :=
  sorted_uniq (fun a b h1 h2 => by omega) (h.trans (sortI_perm l).symm) hm (sortI_sorted l)
theorem sortI_of_sorted {l : List Int} (h : l.Pairwise (· ≤ ·)) : sortI l = l := (sortI_eq (List.Perm.refl _) h).symm
theorem sortI_congr {l m : List Int} (h : l.Perm m) : sortI l = sortI m := sortI_eq ((sortI_perm l).trans h) (sortI_sorted l)
theorem sortI_len (l : List Int) : (sortI l).length = l.length := (sortI_perm l).length_eq
/-- pairs -/
def leP (a b : Int × Int) : Bool := decide (a.1 < b.1) || (decide (a.1 = b.1) && decide (a.2 ≤ b.2))
def sortP (l : List (Int × Int)) : List (Int × Int) := sortBy leP l
theorem leP_iff (a b : Int × Int) : leP a b = true ↔ a.1 < b.1 ∨ (a.1 = b.1 ∧ a.2 ≤ b.2) := by simp [leP]
theorem sortP_perm (l : List (Int × Int)) : (sortP l).Perm l := sortBy_perm _ _
theorem sortP_sorted (l : List (Int × Int)) : (sortP l).Pairwise (fun a b => leP a b = true) :=
  sortBy_sorted (le := leP) (fun a b => by rw [leP_iff, leP_iff]; omega) (fun a b c => by rw [leP_iff, leP_iff, leP_iff]; omega) l
theorem sortP_eq {l m : List (Int × Int)} (h : m.Perm l) (hm : m.Pairwise (fun a b => leP a b = true)) : m = sortP l :=
  sorted_uniq (le := fun a b => leP a b = true) (fun a b h1 h2 => by
    rw [leP_iff] at h1 h2
    exact Prod.ext (by omega) (by omega)) (h.trans (sortP_perm l).symm) hm (sortP_sorted l)
theorem sortP_len (l : List (Int × Int)) : (sortP l).length = l.length := (sortP_perm l).length_eq
/-- the greatest -/
def maxL : List Int → Int
  | [] => 0
  | [x] => x
  | x :: y :: l => max x (maxL (y :: l))
theorem maxL_mem : ∀ {l : List Int}, l ≠ [] → maxL l ∈ l
  | [], h => absurd rfl h
  | [x], _ => by simp [maxL]
  | x :: y :: l, _ => by
    have := maxL_mem (l := y :: l) (by simp)
    unfold maxL
    rcases (by omega : max x (maxL (y :: l)) = maxL (y :: l) ∨ max x (maxL (y :: l)) = x) with e | e
    · rw [e]; exact List.mem_cons_of_mem _ this
    · rw [e]; exact List.mem_cons_self
theorem maxL_ge : ∀ {l : List Int} {x : Int}, x ∈ l → x ≤ maxL l
  | [y], x, h => by simp at h; simp [maxL, h]
  | y :: z :: l, x, h => by
    unfold maxL
    rcases List.mem_cons.mp h with rfl | h
    · omega
    · have := maxL_ge (l := z :: l) h
      omega
theorem maxL_eq {l : List Int} {m : Int} (h : m ∈ l) (h' : ∀ y ∈ l, y ≤ m) : m = maxL l := by
  have h1 := maxL_ge h
  have h2 := h' _ (maxL_mem (fun e => by subst e; cases h))
  omega
def minL (l : List Int) : Int := - maxL (l.map (fun x => -x))
theorem minL_eq {l : List Int} {m : Int} (h : m ∈ l) (h' : ∀ y ∈ l, m ≤ y) : m = minL l := by
  have := maxL_eq (l := l.map (fun x => -x)) (m := -m) (List.mem_map.mpr ⟨m, h, rfl⟩) (fun y hy => by
    obtain ⟨z, hz, rfl⟩ := List.mem_map.mp hy
    have := h' z hz
    omega)
  unfold minL
  omega
end Cc

namespace Cc
open PySem L2
/-! data compared -/
theorem eqvAll_map {α : Type} [DecidableEq α] {f : α → PyData} (h : ∀ a b, PyData.eqv (f a) (f b) = decide (a = b)) : ∀ xs ys : List α, PyData.eqvAll (xs.map f) (ys.map f) = decide (xs = ys)
  | [], [] => by simp [PyData.eqvAll]
  | x :: xs, [] => by simp [PyData.eqvAll]
  | [], y :: ys => by simp [PyData.eqvAll]
  | x :: xs, y :: ys => by
    simp only [List.map_cons, PyData.eqvAll, h, eqvAll_map h xs ys, List.cons.injEq]
    by_cases e1 : x = y <;> by_cases e2 : xs = ys <;> simp [e1, e2]
theorem eqv_int (a b : Int) : PyData.eqv (.int a) (.int b) = decide (a = b) := by
  simp only [PyData.eqv]
  by_cases h : a = b
  · simp [h]
  · simp [h]
theorem eqv_lst {α : Type} [DecidableEq α] {f : α → PyData} (h : ∀ a b, PyData.eqv (f a) (f b) = decide (a = b)) (xs ys : List α) : PyData.eqv (.list (xs.map f)) (.list (ys.map f)) = decide (xs = ys) := by
  simp only [PyData.eqv]
  exact eqvAll_map h xs ys
theorem eqv_I (a b : List Int) : PyData.eqv (dI a) (dI b) = decide (a = b) := eqv_lst eqv_int a b
theorem eqv_LL (a b : List (List Int)) : PyData.eqv (dLL a) (dLL b) = decide (a = b) := eqv_lst eqv_I a b
/-! shapes: of a bounded depth -/
structure Shp (d : PyData) (n : Nat) : Prop where
  lay : d.canLay0 = true
  dep : d.depth ≤ n
theorem Shp.shaped {d : PyData} {n : Nat} (h : Shp d n) (hn : n ≤ 64) : SeqAt.shaped d = true := by
  unfold SeqAt.shaped
  rw [h.lay, Bool.true_and]
  exact decide_eq_true (Nat.le_trans h.dep hn)
theorem shp_int (i : Int) : Shp (.int i) 0 := ⟨rfl, Nat.le_refl _⟩
theorem shp_bool (i : Bool) : Shp (.bool i) 0 := ⟨rfl, Nat.le_refl _⟩
theorem shpAll {ds : List PyData} {n : Nat} (h : ∀ d ∈ ds, Shp d n) : PyData.canLayAll0 ds = true ∧ PyData.depthAll ds ≤ n := by
  induction ds with
  | nil => exact ⟨rfl, Nat.zero_le _⟩
  | cons d ds ih =>
    have h1 := h d List.mem_cons_self
    have h2 := ih fun d hd => h d (List.mem_cons_of_mem _ hd)
    refine ⟨?_, ?_⟩
    · show (d.canLay0 && PyData.canLayAll0 ds) = true
      rw [h1.lay, h2.1]; rfl
    · show max d.depth (PyData.depthAll ds) ≤ n
      exact Nat.max_le.mpr ⟨h1.dep, h2.2⟩
theorem shp_list {ds : List PyData} {n : Nat} (h : ∀ d ∈ ds, Shp d n) : Shp (.list ds) (n + 1) := ⟨(shpAll h).1, Nat.succ_le_succ (shpAll h).2⟩
theorem shp_tuple {ds : List PyData} {n : Nat} (h : ∀ d ∈ ds, Shp d n) : Shp (.tuple ds) (n + 1) := ⟨(shpAll h).1, Nat.succ_le_succ (shpAll h).2⟩
theorem shp_map {α : Type} {f : α → PyData} {n : Nat} (h : ∀ a, Shp (f a) n) (xs : List α) : Shp (.list (xs.map f)) (n + 1) := shp_list fun d hd => by
  obtain ⟨a, _, rfl⟩ := List.mem_map.mp hd
  exact h a
theorem shp_I (r : List Int) : Shp (dI r) 1 := shp_map shp_int r
theorem shp_LL (r : List (List Int)) : Shp (dLL r) 2 := shp_map shp_I r
theorem shI (r : List Int) : SeqAt.shaped (dI r) = true := (shp_I r).shaped (by decide)
theorem shLL (r : List (List Int)) : SeqAt.shaped (dLL r) = true := (shp_LL r).shaped (by decide)
/-- a list of ints against [] -/
theorem eqv_I_nil (a : List Int) : PyData.eqv (dI a) (.list []) = decide (a = []) := eqv_I a []
theorem eqv_LL_nil (a : List (List Int)) : PyData.eqv (dLL a) (.list []) = decide (a = []) := eqv_LL a []
end Cc

namespace Cc
open PySem L2
/-! comprehensions: what is walked, item by item; what each item gives -/
/-- J walks n items while what H holds stands; item i comes as Y says, with new cells -/
structure Wk (J : It) (H : Hp) (n : Nat) (Y : Nat → V → List Cell → Prop) : Prop where
  go : ∀ i H', Same H H' → i < n → J.go i H'
  yld : ∀ i H' x H'', Same H H' → i < n → J.yld i H' x H'' → ∃ C, Lo H' H'' C ∧ Y i x C
  stop : ∀ H', Same H H' → J.stop n H'
theorem Wk.same {J : It} {H H1 : Hp} {n : Nat} {Y : Nat → V → List Cell → Prop} (w : Wk J H n Y) (s : Same H H1) : Wk J H1 n Y :=
  ⟨fun i H' e => w.go i H' (s.trans e), fun i H' x H'' e => w.yld i H' x H'' (s.trans e), fun H' e => w.stop H' (s.trans e)⟩
theorem wk_list {K : PySem.W.Frag} {a : Addr} {xs : List V} {H : Hp} (h : SqL K H a xs) : Wk (Itl K a) H xs.length (fun i x C => xs[i]? = some x ∧ C = []) :=
  ⟨fun i H' s hi => ⟨xs, xs[i], s.seq h, by simp [hi]⟩, fun i H' x H'' s hi y => by
    obtain ⟨e, y⟩ := y
    subst e
    exact ⟨[], Lo.nil _, y xs (s.seq h), rfl⟩, fun H' s => ⟨xs, s.seq h, Nat.le_refl _⟩⟩
theorem wk_range {lo : Int} {n : Nat} {H : Hp} : Wk (Itr lo n) H n (fun i x C => x = .int (lo + i) ∧ C = []) :=
  ⟨fun i H' s hi => hi, fun i H' x H'' s hi y => by
    obtain ⟨e, y⟩ := y
    subst e
    exact ⟨[], Lo.nil _, y, rfl⟩, fun H' s => Nat.le_refl _⟩
theorem wk_enum {K : PySem.W.Frag} {a : Addr} {xs : List V} {H : Hp} (h : SqL K H a xs) : Wk (Ite K a) H xs.length (fun i x C => ∃ T y, x = .ref T ∧ xs[i]? = some y ∧ C = [(T, .tup [.int (i : Nat), y])]) :=
  ⟨fun i H' s hi => ⟨xs, xs[i], s.seq h, by simp [hi]⟩, fun i H' x H'' s hi y => by
    obtain ⟨T, z, e1, e2, e3, y3⟩ := y
    subst e1 e3
    exact ⟨_, (Lo.nil _).al e2 _, T, z, rfl, y3 xs (s.seq h), rfl⟩, fun H' s => ⟨xs, s.seq h, Nat.le_refl _⟩⟩
theorem wk_zip {K : PySem.W.Frag} {a b : Addr} {xs ys : List V} {H : Hp} (h : SqL K H a xs) (h' : SqL K H b ys) : Wk (Itz K a b) H (min xs.length ys.length) (fun i x C => ∃ T y z, x = .ref T ∧ xs[i]? = some y ∧ ys[i]? = some z ∧ C = [(T, .tup [y, z])]) :=
  ⟨fun i H' s hi => ⟨xs, ys, xs[i]'(by omega), ys[i]'(by omega), s.seq h, s.seq h', get_some _, get_some _⟩, fun i H' x H'' s hi y => by
    obtain ⟨T, z, u, e1, e2, e3, y3, y4⟩ := y
    subst e1 e3
    exact ⟨_, (Lo.nil _).al e2 _, T, z, u, rfl, y3 xs (s.seq h), y4 ys (s.seq h'), rfl⟩, fun H' s => ⟨xs, ys, s.seq h, s.seq h', by omega⟩⟩
theorem wk_tup {K : PySem.W.Frag} {a : Addr} {xs : List V} {H : Hp} (h : ∀ H', Same H H' → SqT K H' a xs) : Wk (Itt K a) H xs.length (fun i x C => xs[i]? = some x ∧ C = []) :=
  ⟨fun i H' s hi => ⟨xs, xs[i], h H' s, by simp [hi]⟩, fun i H' x H'' s hi y => by
    obtain ⟨e, y⟩ := y
    subst e
    exact ⟨[], Lo.nil _, y xs (h _ s), rfl⟩, fun H' s => ⟨xs, h _ s, Nat.le_refl _⟩⟩
/-- lists grow at the end: what each place is -/
theorem get_snoc {α : Type} {xs : List α} {x y : α} {i : Nat} (h : (xs ++ [x])[i]? = some y) : xs[i]? = some y ∨ (i = xs.length ∧ y = x) := by
  by_cases hi : i < xs.length
  · left; rwa [List.getElem?_append_left hi] at h
  · right
    have h2 := lt_of_get h
    rw [List.length_append] at h2
    have : i = xs.length := by simp at h2; omega
    subst this
    simp at h
    exact ⟨rfl, h.symm⟩
theorem lcC {J : It} {g : TG} {tt : TT} {te : TE} {vs : List Nat} {σ : L2.St} {H : Hp} {D : Addr} {Qd : Hp → Prop} {n : Nat} {Y : Nat → V → List Cell → Prop} (R : Nat → Option V → List Cell → Prop) (w : Wk J H n Y) (hn : n ≤ 50000) (hD : H D = none)
    (he : ∀ i x C H1, Same H H1 → Y i x C → (∀ {a o}, (a, o) ∈ C → H1 a = some o) → i < n → ∀ Nx : Option V → Hp → Prop, (∀ z C' H2, Lo H1 H2 C' → R i z C' → Nx z H2) →
      g x (wipe σ vs) H1 fun σ2 H2 => wipe σ2 vs = wipe σ vs ∧ tt σ2 H2 fun b H3 => if b = true then te σ2 H3 fun y H4 => Nx (some y) H4 else Nx none H3)
    (k : ∀ (zs : List (Option V)) (Cs : List (List Cell)) H2, Lo H H2 ((D, .lst (zs.filterMap id)) :: Cs.flatten) → zs.length = n → Cs.length = n → (∀ i z C, zs[i]? = some z → Cs[i]? = some C → R i z C) → Qd H2)
    (mono : ∀ v σ H Q Q', (∀ σ2 H2, Q σ2 H2 → Q' σ2 H2) → g v σ H Q → g v σ H Q') (monot : ∀ σ H Q Q', (∀ b H2, Q b H2 → Q' b H2) → tt σ H Q → tt σ H Q') :
    ∃ W : Nat → Nat → Hp → Prop, (∃ m, W 0 m (upd H D (.lst []))) ∧ ∀ i m H, W i m H →
      (J.stop i H ∧ Qd H) ∨ (J.go i H ∧ ∃ Nx : Hp → Prop, (∀ H', Nx H' → ∃ m', m' < m ∧ W (i + 1) m' H') ∧ ∀ x H', J.yld i H x H' → g x (wipe σ vs) H' fun σ2 H2 => wipe σ2 vs = wipe σ vs ∧ tt σ2 H2 fun b H3 =>
        if b = true then te σ2 H3 fun y H4 => ∃ acc, H4 D = some (.lst acc) ∧ acc.length < sizeLine ∧ Nx (upd H4 D (.lst (acc ++ [y]))) else Nx H3) := by
  let Pv : Nat → Hp → Prop := fun i H' => ∃ (zs : List (Option V)) (Cs : List (List Cell)), Lo H H' ((D, .lst (zs.filterMap id)) :: Cs.flatten) ∧ zs.length = i ∧ Cs.length = i ∧ ∀ j z C, zs[j]? = some z → Cs[j]? = some C → R j z C
  refine ⟨fun i m H' => m = n - i ∧ i ≤ n ∧ Pv i H', ⟨n, by simp, Nat.zero_le _, [], [], (Lo.nil H).al hD _, rfl, rfl, fun j z C e => by simp at e⟩, ?_⟩
  rintro i m H' ⟨rfl, hi, zs, Cs, L, h1, h2, h3⟩
  by_cases hlt : i < n
  · refine .inr ⟨w.go i H' L.sm hlt, Pv (i + 1), fun H'' p' => ⟨n - (i + 1), by omega, rfl, hlt, p'⟩, fun x H'' y => ?_⟩
    obtain ⟨C, LC, hY⟩ := w.yld i H' x H'' L.sm hlt y
    have L2 : Lo H H'' ((D, .lst (zs.filterMap id)) :: Cs.flatten) := L.cs LC.sm
    refine mono _ _ _ _ _ (fun σ2 H2 ⟨e, q⟩ => ⟨e, monot _ _ _ _ (fun b H3 q => q) q⟩) (he i x C H'' L2.sm hY LC.get hlt (fun z H4 => match z with
      | some y => ∃ acc, H4 D = some (.lst acc) ∧ acc.length < sizeLine ∧ Pv (i + 1) (upd H4 D (.lst (acc ++ [y])))
      | none => Pv (i + 1) H4) (fun z C' H4 LC' hR => ?_))
    have L3 := (L2.ca LC').perm List.perm_middle
    have key : ∀ j z' C, (zs ++ [z])[j]? = some z' → (Cs ++ [C'])[j]? = some C → R j z' C := fun j z' C e1 e2 => by
      rcases get_snoc e1 with e1 | ⟨e1, rfl⟩
      · rcases get_snoc e2 with e2 | ⟨e2, rfl⟩
        · exact h3 j z' C e1 e2
        · have := lt_of_get e1; omega
      · rcases get_snoc e2 with e2 | ⟨e2, rfl⟩
        · have := lt_of_get e2; omega
        · have ej : j = i := by omega
          rw [ej]; exact hR
    have len : (zs.filterMap id).length ≤ zs.length := List.length_filterMap_le _ _
    cases z with
    | some y =>
      refine ⟨_, L3.get List.mem_cons_self, szl (by omega), zs ++ [some y], Cs ++ [C'], ?_, by simp [h1], by simp [h2], key⟩
      have L4 := L3.wr0 (.lst (zs.filterMap id ++ [y]))
      rw [List.filterMap_append, List.flatten_append]
      refine L4.perm ?_
      simp only [List.filterMap_cons, id, List.filterMap_nil, List.flatten_cons, List.flatten_nil, List.append_nil]
      exact List.Perm.cons _ List.perm_append_comm
    | none =>
      refine ⟨zs ++ [none], Cs ++ [C'], ?_, by simp [h1], by simp [h2], key⟩
      rw [List.filterMap_append, List.flatten_append]
      refine L3.perm ?_
      simp only [List.filterMap_cons, id, List.filterMap_nil, List.flatten_cons, List.flatten_nil, List.append_nil]
      exact List.Perm.cons _ List.perm_append_comm
  · have e : i = n := by omega
    subst e
    exact .inl ⟨w.stop H' L.sm, k zs Cs H' L h1 h2 h3⟩
/-- without a test -/
theorem lcY {J : It} {g : TG} {te : TE} {vs : List Nat} {σ : L2.St} {H : Hp} {D : Addr} {Qd : Hp → Prop} {n : Nat} {Y : Nat → V → List Cell → Prop} (R : Nat → V → List Cell → Prop) (w : Wk J H n Y) (hn : n ≤ 50000) (hD : H D = none)
    (he : ∀ i x C H1, Same H H1 → Y i x C → (∀ {a o}, (a, o) ∈ C → H1 a = some o) → i < n → ∀ Q : VK, (∀ y C' H2, Lo H1 H2 C' → R i y C' → Q y H2) →
      g x (wipe σ vs) H1 fun σ2 H2 => wipe σ2 vs = wipe σ vs ∧ te σ2 H2 Q)
    (k : ∀ (ys : List V) (Cs : List (List Cell)) H2, Lo H H2 ((D, .lst ys) :: Cs.flatten) → ys.length = n → Cs.length = n → (∀ i y C, ys[i]? = some y → Cs[i]? = some C → R i y C) → Qd H2)
    (mono : ∀ v σ H Q Q', (∀ σ2 H2, Q σ2 H2 → Q' σ2 H2) → g v σ H Q → g v σ H Q') :
    ∃ W : Nat → Nat → Hp → Prop, (∃ m, W 0 m (upd H D (.lst []))) ∧ ∀ i m H, W i m H →
      (J.stop i H ∧ Qd H) ∨ (J.go i H ∧ ∃ Nx : Hp → Prop, (∀ H', Nx H' → ∃ m', m' < m ∧ W (i + 1) m' H') ∧ ∀ x H', J.yld i H x H' → g x (wipe σ vs) H' fun σ2 H2 => wipe σ2 vs = wipe σ vs ∧ tYes σ2 H2 fun b H3 =>
        if b = true then te σ2 H3 fun y H4 => ∃ acc, H4 D = some (.lst acc) ∧ acc.length < sizeLine ∧ Nx (upd H4 D (.lst (acc ++ [y]))) else Nx H3) := by
  refine lcC (fun i z C => ∃ y, z = some y ∧ R i y C) w hn hD (fun i x C H1 s hY hC hi Nx q => ?_) (fun zs Cs H2 L h1 h2 h3 => ?_) mono (fun σ H Q Q' f h => f _ _ h)
  · refine mono _ _ _ _ _ (fun σ2 H2 ⟨e, q⟩ => ⟨e, yes_of q⟩) (he i x C H1 s hY hC hi _ fun y C' H2 L hR => q (some y) C' H2 L ⟨y, rfl, hR⟩)
  · have hz : ∀ i, i < zs.length → ∃ y, zs[i]? = some (some y) := fun i hi => by
      have e1 := get_some (xs := zs) (i := i) hi
      have e2 := get_some (xs := Cs) (i := i) (by omega)
      obtain ⟨y, e3, _⟩ := h3 i _ _ e1 e2
      exact ⟨y, by rw [e1, e3]⟩
    have e : ∀ (l : List (Option V)), (∀ i, i < l.length → ∃ y, l[i]? = some (some y)) → l = (l.filterMap id).map some := fun l => by
      induction l with
      | nil => intro _; rfl
      | cons a l ih =>
        intro h
        obtain ⟨y, hy⟩ := h 0 (by simp)
        simp at hy
        subst hy
        simp only [List.filterMap_cons, id, List.map_cons]
        rw [← ih fun i hi => by
          obtain ⟨y, hy⟩ := h (i + 1) (by simp; omega)
          exact ⟨y, by simpa using hy⟩]
    have ez := e zs hz
    generalize hys : zs.filterMap id = ys at L ez
    refine k ys Cs H2 L (by rw [← h1, ez]; simp) h2 fun i y C e1 e2 => ?_
    obtain ⟨y', e3, e4⟩ := h3 i (some y) C (by rw [ez]; simp [e1]) e2
    cases e3
    exact e4
/-- no cells at all -/
theorem flat_nil {Cs : List (List Cell)} (h : ∀ (i : Nat) (C : List Cell), Cs[i]? = some C → C = []) : Cs.flatten = [] := by
  induction Cs with
  | nil => rfl
  | cons C Cs ih =>
    have := h 0 C rfl
    subst this
    exact ih fun i C e => h (i + 1) C (by simpa using e)
/-- a list of scalars, as told by ys -/
theorem lcV {J : It} {g : TG} {te : TE} {vs : List Nat} {σ : L2.St} {H : Hp} {D : Addr} {Qd : Hp → Prop} {n : Nat} {Y : Nat → V → List Cell → Prop} (ys : List V) (hys : ys.length = n) (w : Wk J H n Y) (hn : n ≤ 50000) (hD : H D = none)
    (he : ∀ i x C y H1, Same H H1 → Y i x C → (∀ {a o}, (a, o) ∈ C → H1 a = some o) → ys[i]? = some y → ∀ Q : VK, (∀ H2, Same H1 H2 → Q y H2) →
      g x (wipe σ vs) H1 fun σ2 H2 => wipe σ2 vs = wipe σ vs ∧ te σ2 H2 Q)
    (k : ∀ H2, Lo H H2 [(D, .lst ys)] → Qd H2)
    (mono : ∀ v σ H Q Q', (∀ σ2 H2, Q σ2 H2 → Q' σ2 H2) → g v σ H Q → g v σ H Q') :
    ∃ W : Nat → Nat → Hp → Prop, (∃ m, W 0 m (upd H D (.lst []))) ∧ ∀ i m H, W i m H →
      (J.stop i H ∧ Qd H) ∨ (J.go i H ∧ ∃ Nx : Hp → Prop, (∀ H', Nx H' → ∃ m', m' < m ∧ W (i + 1) m' H') ∧ ∀ x H', J.yld i H x H' → g x (wipe σ vs) H' fun σ2 H2 => wipe σ2 vs = wipe σ vs ∧ tYes σ2 H2 fun b H3 =>
        if b = true then te σ2 H3 fun y H4 => ∃ acc, H4 D = some (.lst acc) ∧ acc.length < sizeLine ∧ Nx (upd H4 D (.lst (acc ++ [y]))) else Nx H3) := by
  refine lcY (fun i y C => ys[i]? = some y ∧ C = []) w hn hD (fun i x C H1 s hY hC hi Q q => ?_) (fun zs Cs H2 L h1 h2 h3 => ?_) mono
  · have e := get_some (xs := ys) (i := i) (by omega)
    exact he i x C _ H1 s hY hC e Q fun H2 s2 => q _ [] H2 ((Lo.nil _).cs s2) ⟨e, rfl⟩
  · have e : zs = ys := List.ext_getElem? fun i => by
      by_cases hi : i < n
      · have e1 := get_some (xs := zs) (i := i) (by omega)
        have e2 := get_some (xs := Cs) (i := i) (by omega)
        rw [(h3 i _ _ e1 e2).1, e1]
      · rw [List.getElem?_eq_none (by omega), List.getElem?_eq_none (by omega)]
    have e2 : Cs.flatten = [] := flat_nil fun i C hC => by
      have hi := lt_of_get hC
      exact (h3 i _ C (get_some (xs := zs) (by omega)) hC).2
    rw [e, e2] at L
    exact k H2 L
/-- scalars under a test, as told by zs -/
theorem lcT {J : It} {g : TG} {tt : TT} {te : TE} {vs : List Nat} {σ : L2.St} {H : Hp} {D : Addr} {Qd : Hp → Prop} {n : Nat} {Y : Nat → V → List Cell → Prop} (zs : List (Option V)) (hzs : zs.length = n) (w : Wk J H n Y) (hn : n ≤ 50000) (hD : H D = none)
    (he : ∀ i x C z H1, Same H H1 → Y i x C → (∀ {a o}, (a, o) ∈ C → H1 a = some o) → zs[i]? = some z → ∀ Nx : Option V → Hp → Prop, (∀ H2, Same H1 H2 → Nx z H2) →
      g x (wipe σ vs) H1 fun σ2 H2 => wipe σ2 vs = wipe σ vs ∧ tt σ2 H2 fun b H3 => if b = true then te σ2 H3 fun y H4 => Nx (some y) H4 else Nx none H3)
    (k : ∀ H2, Lo H H2 [(D, .lst (zs.filterMap id))] → Qd H2)
    (mono : ∀ v σ H Q Q', (∀ σ2 H2, Q σ2 H2 → Q' σ2 H2) → g v σ H Q → g v σ H Q') (monot : ∀ σ H Q Q', (∀ b H2, Q b H2 → Q' b H2) → tt σ H Q → tt σ H Q') :
    ∃ W : Nat → Nat → Hp → Prop, (∃ m, W 0 m (upd H D (.lst []))) ∧ ∀ i m H, W i m H →
      (J.stop i H ∧ Qd H) ∨ (J.go i H ∧ ∃ Nx : Hp → Prop, (∀ H', Nx H' → ∃ m', m' < m ∧ W (i + 1) m' H') ∧ ∀ x H', J.yld i H x H' → g x (wipe σ vs) H' fun σ2 H2 => wipe σ2 vs = wipe σ vs ∧ tt σ2 H2 fun b H3 =>
        if b = true then te σ2 H3 fun y H4 => ∃ acc, H4 D = some (.lst acc) ∧ acc.length < sizeLine ∧ Nx (upd H4 D (.lst (acc ++ [y]))) else Nx H3) := by
  refine lcC (fun i z C => zs[i]? = some z ∧ C = []) w hn hD (fun i x C H1 s hY hC hi Nx q => ?_) (fun zs' Cs H2 L h1 h2 h3 => ?_) mono monot
  · have e := get_some (xs := zs) (i := i) (by omega)
    exact he i x C _ H1 s hY hC e Nx fun H2 s2 => q _ [] H2 ((Lo.nil _).cs s2) ⟨e, rfl⟩
  · have e : zs' = zs := List.ext_getElem? fun i => by
      by_cases hi : i < n
      · have e1 := get_some (xs := zs') (i := i) (by omega)
        have e2 := get_some (xs := Cs) (i := i) (by omega)
        rw [(h3 i _ _ e1 e2).1, e1]
      · rw [List.getElem?_eq_none (by omega), List.getElem?_eq_none (by omega)]
    have e2 : Cs.flatten = [] := flat_nil fun i C hC => by
      have hi := lt_of_get hC
      exact (h3 i _ C (get_some (xs := zs') (by omega)) hC).2
    rw [e, e2] at L
    exact k H2 L
/-- rows made one by one -/
theorem rows_of_cells : ∀ {ys : List V} {Cs : List (List Cell)} {rows : List (List Int)}, ys.length = rows.length → Cs.length = rows.length →
    (∀ (i : Nat) (y : V) (C : List Cell), ys[i]? = some y → Cs[i]? = some C → ∃ q r, rows[i]? = some r ∧ y = .ref q ∧ C = [(q, intsO r)]) →
    ∃ ps : List Addr, ps.length = rows.length ∧ ys = ps.map V.ref ∧ Cs.flatten = rowsC ps rows
  | [], [], [], _, _, _ => ⟨[], rfl, rfl, rfl⟩
  | [], _ :: _, [], _, h, _ => by simp at h
  | [], [], _ :: _, h, _, _ => by simp at h
  | [], _ :: _, _ :: _, h, _, _ => by simp at h
  | _ :: _, [], [], h, _, _ => by simp at h
  | _ :: _, [], _ :: _, _, h, _ => by simp at h
  | _ :: _, _ :: _, [], h, _, _ => by simp at h
  | y :: ys, C :: Cs, r :: rows, h1, h2, h3 => by
    obtain ⟨q, r', e1, e2, e3⟩ := h3 0 y C rfl rfl
    simp at e1
    subst e1 e2 e3
    obtain ⟨ps, g1, g2, g3⟩ := rows_of_cells (Nat.succ.inj h1) (Nat.succ.inj h2) (fun i y C a b => by
      obtain ⟨q, r, e⟩ := h3 (i + 1) y C (by simpa using a) (by simpa using b)
      exact ⟨q, r, by simpa using e⟩)
    refine ⟨q :: ps, by simp [g1], by simp [g2], ?_⟩
    rw [List.flatten_cons, g3]
    rfl
/-- cells that are let stand, for good -/
theorem Lo.frz {H0 H : Hp} {C L : List Cell} (h : Lo H0 H (C ++ L)) : ∃ H1, Same H0 H1 ∧ Lo H1 H L ∧ ∀ {a o}, (a, o) ∈ C → H1 a = some o := by
  obtain ⟨H1, g1, g2, g3, _⟩ := (h.perm List.perm_append_comm).split
  exact ⟨H1, g2, g1, g3⟩
theorem Rows.of_mem {H : Hp} {p : Addr} {ps : List Addr} {rs : List (List Int)} (h : ∀ {a o}, (a, o) ∈ llC p ps rs → H a = some o) (hl : ps.length = rs.length) : Rows H p ps rs :=
  ⟨h List.mem_cons_self, hl, fun e1 e2 => h (List.mem_cons_of_mem _ (rowsC_get e1 e2))⟩
theorem rowsC_append : ∀ {ps : List Addr} {rs : List (List Int)} {ps' : List Addr} {rs' : List (List Int)}, ps.length = rs.length → rowsC (ps ++ ps') (rs ++ rs') = rowsC ps rs ++ rowsC ps' rs'
  | [], [], _, _, _ => rfl
  | p :: ps, r :: rs, ps', rs', h => by
    show (p, intsO r) :: rowsC (ps ++ ps') (rs ++ rs') = _
    rw [rowsC_append (Nat.succ.inj h)]
    rfl
/-- longer.extend(more): the rows of both -/
theorem Lo.ext {H0 H : Hp} {B : List Cell} {p d : Addr} {ps ps' : List Addr} {rs rs' : List (List Int)} (h : Lo H0 H (llC d ps' rs' ++ (llC p ps rs ++ B))) (hl : ps.length = rs.length) :
    Lo H0 (upd H p (refsO (ps ++ ps'))) (llC p (ps ++ ps') (rs ++ rs') ++ B) := by
  have L2 : Lo H0 H ((p, refsO ps) :: (rowsC ps rs ++ (rowsC ps' rs' ++ B))) := h.pk [[(d, refsO ps')], rowsC ps' rs', [(p, refsO ps)], rowsC ps rs, B] [0, 1, 2, 3, 4] [2, 3, 1, 4] [0] (by simp [llC]) (by simp)
  refine (L2.wr0 (refsO (ps ++ ps'))).to ?_
  unfold llC
  rw [rowsC_append hl]
  simp
end Cc

namespace Cc
open PySem L2
/-! lists of pairs of ints, to be read -/
structure Prs (H : Hp) (ys : List V) (prs : List (Int × Int)) : Prop where
  len : ys.length = prs.length
  row : ∀ {i : Nat} {y : V} {pr : Int × Int}, ys[i]? = some y → prs[i]? = some pr → ∃ t, y = .ref t ∧ H t = some (.tup [.int pr.1, .int pr.2])
theorem Prs.same {H H' : Hp} {ys : List V} {prs : List (Int × Int)} (h : Prs H ys prs) (s : Same H H') : Prs H' ys prs :=
  ⟨h.len, fun a b => by obtain ⟨t, e, q⟩ := h.row a b; exact ⟨t, e, s _ _ q⟩⟩
/-- the pair at a value -/
def prAt (H : Hp) : V → Int × Int
  | .ref t => match H t with
    | some (.tup [.int i, .int j]) => (i, j)
    | _ => (0, 0)
  | _ => (0, 0)
theorem prAt_eq {H : Hp} {t : Addr} {i j : Int} (h : H t = some (.tup [.int i, .int j])) : prAt H (.ref t) = (i, j) := by
  show (match H t with | some (.tup [.int i, .int j]) => (i, j) | _ => (0, 0)) = (i, j)
  rw [h]
theorem Prs.map {H : Hp} {ys : List V} {prs : List (Int × Int)} (h : Prs H ys prs) : ys.map (prAt H) = prs := by
  refine List.ext_getElem? fun i => ?_
  rw [List.getElem?_map]
  by_cases hi : i < ys.length
  · have e1 := get_some (xs := ys) hi
    have e2 := get_some (xs := prs) (i := i) (by rw [← h.len]; exact hi)
    obtain ⟨t, e, q⟩ := h.row e1 e2
    rw [e1, e2, e]
    show some (prAt H (.ref t)) = _
    rw [prAt_eq q]
  · rw [List.getElem?_eq_none (by omega), List.getElem?_eq_none (by rw [← h.len]; omega)]
    rfl
theorem Prs.mem {H : Hp} {ys : List V} {prs : List (Int × Int)} (h : Prs H ys prs) {y : V} (hy : y ∈ ys) : ∃ t, y = .ref t ∧ H t = some (.tup [.int (prAt H y).1, .int (prAt H y).2]) := by
  obtain ⟨i, hi, rfl⟩ := List.mem_iff_getElem.mp hy
  obtain ⟨t, e, q⟩ := h.row (get_some hi) (get_some (xs := prs) (i := i) (by rw [← h.len]; exact hi))
  refine ⟨t, e, ?_⟩
  rw [e, prAt_eq q]
  exact q
theorem Prs.of {H : Hp} {ys : List V} (h : ∀ y ∈ ys, ∃ t, y = .ref t ∧ H t = some (.tup [.int (prAt H y).1, .int (prAt H y).2])) : Prs H ys (ys.map (prAt H)) :=
  ⟨by simp, fun {i y pr} e1 e2 => by
    rw [List.getElem?_map, e1] at e2
    cases e2
    exact h y (List.mem_of_getElem? e1)⟩
/-- sorted(pairs) -/
theorem sorted_prs {K : PySem.W.Frag} {H : Hp} {Q : VK} {a : Addr} {ys : List V} {prs : List (Int × Int)} (h : Prs H ys prs) (ha : SqL K H a ys) (k : ∀ zs p, Prs H zs (sortP prs) → H p = none → Q (.ref p) (upd H p (.lst zs))) : rSortedPO K [.ref a] H Q := by
  refine ⟨a, ys, prAt H, rfl, ha, fun x hx => h.mem hx, fun zs p h1 h2 hp => k zs p ?_ hp⟩
  have e : zs.map (prAt H) = sortP prs := by
    refine sortP_eq ?_ ?_
    · rw [← h.map]
      exact h2.perm.map _
    · rw [List.pairwise_map]
      refine h1.imp fun {x y} q => ?_
      rw [leP_iff]
      have q : SrtO.lexB (prAt H y) (prAt H x) = false := q
      rw [SrtO.lexB_no] at q
      omega
  rw [← e]
  exact Prs.of fun y hy => h.mem (h2.perm.mem_iff.mp hy)
/-- the cells of new pairs -/
theorem prs_of_cells {H0 H : Hp} {D : Addr} {ys : List V} {Cs : List (List Cell)} {prs : List (Int × Int)} (L : Lo H0 H ((D, .lst ys) :: Cs.flatten)) (h1 : ys.length = prs.length) (h2 : Cs.length = prs.length)
    (h3 : ∀ (i : Nat) (y : V) (C : List Cell), ys[i]? = some y → Cs[i]? = some C → ∃ t pr, prs[i]? = some pr ∧ y = .ref t ∧ C = [(t, .tup [.int pr.1, .int pr.2])]) : Prs H ys prs :=
  ⟨h1, fun {i y pr} e1 e2 => by
    have hi := lt_of_get e2
    have e3 := get_some (xs := Cs) (i := i) (by omega)
    obtain ⟨t, pr', e4, e5, e6⟩ := h3 i y _ e1 e3
    rw [e2] at e4
    cases e4
    refine ⟨t, e5, L.get (List.mem_cons_of_mem _ (List.mem_flatten.mpr ⟨_, List.mem_of_getElem? e3, ?_⟩))⟩
    rw [e6]
    exact List.mem_cons_self⟩
/-- a row of rows replaced by a new list -/
theorem Lo.rowR {H0 H : Hp} {B : List Cell} {p : Addr} {ps : List Addr} {rs : List (List Int)} {k : Nat} {q : Addr} {r : List Int} (h : Lo H0 H ((q, intsO r) :: (llC p ps rs ++ B))) (hl : ps.length = rs.length) (hk : k < ps.length) :
    Lo H0 (upd H p (refsO (ps.set k q))) (llC p (ps.set k q) (rs.set k r) ++ B) := by
  have L2 : Lo H0 H (((q, intsO r) :: []) ++ (p, refsO ps) :: (rowsC ps rs ++ B)) := h
  have L3 := L2.wr (refsO (ps.set k q))
  have key : ∀ (ps : List Addr) (rs : List (List Int)) (k : Nat), ps.length = rs.length → k < ps.length → ∃ A D c, rowsC ps rs = A ++ c :: D ∧ rowsC (ps.set k q) (rs.set k r) = A ++ (q, intsO r) :: D := by
    intro ps
    induction ps with
    | nil => intro rs k _ h; simp at h
    | cons p ps ih =>
      intro rs k h1 h2
      cases rs with
      | nil => simp at h1
      | cons s rs =>
        cases k with
        | zero => exact ⟨[], rowsC ps rs, (p, intsO s), rfl, rfl⟩
        | succ k =>
          obtain ⟨A, D, c, e1, e2⟩ := ih rs k (by simpa using h1) (by simpa using h2)
          exact ⟨(p, intsO s) :: A, D, c, by show _ :: _ = _; rw [e1]; rfl, by show _ :: _ = _; rw [e2]; rfl⟩
  obtain ⟨A, D, c, e1, e2⟩ := key ps rs k hl hk
  unfold llC
  rw [e2]
  rw [e1] at L3
  refine (L3.sub (L' := (q, intsO r) :: (p, refsO (ps.set k q)) :: (A ++ (D ++ B))) ?_).perm ?_
  · simp only [List.cons_append, List.nil_append, List.append_assoc]
    exact List.Sublist.cons₂ _ (List.Sublist.cons₂ _ (List.Sublist.append (List.Sublist.refl _) (List.sublist_cons_self _ _)))
  · simp only [List.cons_append, List.append_assoc]
    exact (List.Perm.swap _ _ _).trans (List.Perm.cons _ List.perm_middle.symm)
end Cc

namespace Cc
open PySem PySem.Spec PyProof.Rows L2
/-! list(d.values()) -/
def tListVals (te : TE) : TE := fun σ H Q => te σ H fun x H1 => ∃ (d : Addr) (kvs : List (Key × V)), x = .ref d ∧ H1 d = some (.dK kvs) ∧ ∀ p, H1 p = none → Q (.ref p) (upd H1 p (.lst (kvs.map (·.2))))
theorem vals_at {vs : List Value} : ∀ {kvs : List (Key × V)} {ws : List (Key × Value)}, KV kvs ws → vs.length = ws.length → (∀ (j : Nat) (v : Value), vs[j]? = some v → ∃ k, ws[j]? = some (k, v)) → Vals (kvs.map (·.2)) vs := by
  induction vs with
  | nil =>
    intro kvs ws r hl hv
    have e : ws = [] := List.length_eq_zero_iff.mp hl.symm
    subst e
    have e2 : kvs = [] := List.length_eq_zero_iff.mp (KV.length r)
    subst e2
    exact .nil
  | cons v vs ih =>
    intro kvs ws r hl hv
    cases ws with
    | nil => cases hl
    | cons w ws =>
      unfold KV at r
      cases r with
      | cons r1 r2 =>
        obtain ⟨k, e⟩ := hv 0 v rfl
        have e : w = (k, v) := Option.some.inj e
        subst e
        exact .cons r1.2 (ih r2 (Nat.succ.inj hl) fun j u hu => hv (j + 1) u hu)
section
variable {X : Cx} {e : Expr} {te : TE} {p apos cpos pos : Pos}
theorem pe_listVals (hc : X.calm = true) (he : PE X e te) (hg : Gl X "list") (hm : X.mg "list" = none) (hv : bootBuiltins "list" = some (.type "list")) (hbase : attributeBase e "values" X.env (eval e X.env) = eval e X.env := by rfl) (hline : (apos.endLine == cpos.line) = true := by rfl)
    (hs : starEach [.Call (.Attribute e "values" apos) [] [] cpos] X.env = (false, eval (.Call (.Attribute e "values" apos) [] [] cpos) X.env) :: starEach [] X.env := by rfl) :
    PE X (.Call (.Name "list" p) [.Call (.Attribute e "values" apos) [] [] cpos] [] pos) (tListVals te) := by
  refine ⟨fun pins s σ H Q I hq => ?_⟩
  refine wpAny_Call_Name_kw (ld_blt I hg hm hv ?_)
  refine PyProof.Rows.callWith_type1 ?_ hs rfl
  rw [hs]
  show wpAny _ _ (spliced ((false, eval (.Call (.Attribute e "values" apos) [] [] cpos) X.env) :: backTo pos (starEach [] X.env))) _ _ s
  refine Calls.spliced_cons ?_
  refine wpAny_Call_method (T := "dict") (id := "dict.values") hbase rfl hline F.plainAttrs_dict F.slot_dict_values F.type_dict_values (thn (he.run pins s σ H _ I hq) fun u s1 ⟨x, H1, I1, rx, d, kvs, ex, hd, q⟩ => ?_)
  subst ex
  obtain rfl : u = Value.ref d := rx
  obtain ⟨hz, hs0, vs, kv, hdo⟩ := I1.hok d _ hd
  obtain ⟨ep, hat⟩ := hdo.dictAt
  have lk : kvs.length = vs.length := Paired.length kv
  have I2 : Inv X pins σ H1 { s1 with heap := s1.heap.push { cls := .type "dict_values", data := .fields #[.ref d] } } := I1.kept (t' := s1.toks) fun b ob q => Heap.get?_push_of_some _ q
  refine ⟨hdo.typeIs, hdo.mapOf.noDict, ?_⟩
  show wpAny _ _ (callWith cpos (.builtin "dict.values") [.ref d] [] []) _ X.xe s1
  refine method_meetsIn F.slot_dict_values F.entry_dict_values rfl (PySem.evalArgs_none ⟨rfl, hdo.typeIs, F.args_dict_values_1 _, _, meets_dict_values (mixKind X.prog X.w) d hs0, ⟨⟨vs, hdo⟩, ?_⟩⟩)
  refine Calls.spliced_nil ?_
  refine PySem.W.kdl_call (PySem.W.kdl_values (knd := mixKind X.prog X.w) (kvs := vs) (ep := ep)) (I1.ok.hd hc) ⟨⟨_, Heap.get?_push_size _ rfl, rfl, rfl⟩, hat.push _⟩ (by omega) fun h' tk acc c hk hD hacc => ?_
  have hvv : Vals (kvs.map (·.2)) acc.toList := vals_at kv (by rw [Array.length_toList]; exact hacc.1) fun j v e => hacc.2 j v (by rw [← Array.getElem?_toList]; exact e)
  refine ⟨.ref (s1.heap.push { cls := .type "dict_values", data := .fields #[.ref d] }).objs.size, upd H1 _ (.lst (kvs.map (·.2))), I2.laid (t' := tk) hk (Nat.le_refl _)
    (show ObjOk X.prog X.w _ _ _ (.lst (kvs.map (·.2))) from ⟨by rw [List.length_map]; exact hz, acc.toList, c, hvv, by rw [Array.toArray_toList]; exact hD⟩), rfl, q _ (I2.hok.fresh (Nat.le_refl _))⟩
end
/-- if ..: return .. -/
theorem q_ret {tt : TT} {tu tz : TS} {D : Ends} {σ : L2.St} {H : Hp} {b : Bool} (h : Tr tt σ H b) (k1 : b = true → ∀ H', Same H H' → tu { D with nx := tz D } σ H') (k2 : b = false → ∀ H', Same H H' → tz D σ H') : tSeq (tIfS tt tu tNext) tz D σ H := q_if h k1 k2
theorem s_ret {tt : TT} {tu : TS} {D : Ends} {σ : L2.St} {H : Hp} {b : Bool} (h : Tr tt σ H b) (k1 : b = true → ∀ H', Same H H' → tu D σ H') (k2 : b = false → ∀ H', Same H H' → D.nx σ H') : tIfS tt tu tNext D σ H := s_if h k1 k2
/-- two names at once -/
theorem q_par {ta tb : TE} {i j : Nat} {tz : TS} {D : Ends} {σ : L2.St} {H : Hp} {R : V → Hp → Prop} {R2 : V → V → Hp → Prop} (h : Vr ta σ H R) (h2 : ∀ v H', R v H' → Vr tb σ H' (R2 v)) (k : ∀ v w H', R2 v w H' → tz D ((σ.set i (some v)).set j (some w)) H') :
    tSeq (tPar i j (tCons ta (tCons tb tNil))) tz D σ H := h _ fun v H' r => h2 v H' r _ fun w H'' r2 => ⟨v, w, rfl, k v w H'' r2⟩
section
variable {K : PySem.W.Frag} {tl te to : TE} {g : TG} {tb tz : TS} {D : Ends} {σ : L2.St} {H : Hp} {R : V → Hp → Prop}
/-- what a for asks -/
def ForOk (J : It) (g : TG) (tb : TS) (D : Ends) (σ : L2.St) (H : Hp) : Prop := ∃ W : Nat → Nat → L2.St → Hp → Prop, (∃ m, W 0 m σ H) ∧ ∀ i m σ H, W i m σ H →
  (J.stop i H ∧ D.nx σ H) ∨ (J.go i H ∧ ∃ N : L2.St → Hp → Prop, (∀ σ' H', N σ' H' → ∃ m', m' < m ∧ W (i + 1) m' σ' H') ∧ ∀ x H', J.yld i H x H' → g x σ H' fun σ2 H2 => tb { D with nx := N, ct := N, bk := D.nx } σ2 H2)
theorem q_forT (h : Vr tl σ H R) (k : ∀ v H', R v H' → ∃ a, v = .ref a ∧ (∃ xs, SqT K H' a xs) ∧ ForOk (Itt K a) g tb { D with nx := tz D } σ H') : tSeq (tFor (iTup K tl) g tb) tz D σ H := h _ k
theorem q_forL (h : Vr tl σ H R) (k : ∀ v H', R v H' → ∃ a, v = .ref a ∧ (∃ xs, SqL K H' a xs) ∧ ForOk (Itl K a) g tb { D with nx := tz D } σ H') : tSeq (tFor (iList K tl) g tb) tz D σ H := h _ k
theorem s_forL (h : Vr tl σ H R) (k : ∀ v H', R v H' → ∃ a, v = .ref a ∧ (∃ xs, SqL K H' a xs) ∧ ForOk (Itl K a) g tb D σ H') : tFor (iList K tl) g tb D σ H := h _ k
/-- o.m(e), the answer dropped -/
theorem s_bm {T : String} {r : V → List V → Hp → VK → Prop} {x : V} (ho : Va to σ H x) (ht : tyV K T x H) (h : Vr te σ H R) (k : ∀ v H', R v H' → r x [v] H' (fun _ H2 => D.nx σ H2)) : tDrop (tBM K T r to (tCons te tNil)) D σ H := ho _ ⟨ht, h _ k⟩
end
end Cc

namespace Cc
open PySem L2
/-! own classes' instances, asked by isinstance -/
structure KIns (K : PySem.W.Frag) (C : Addr) : Prop where
  cl : Cls K C
  ha : PySem.W.findIn K (.ref C) "__class__" = some (some (.builtin "object.__class__"))
  hn : PySem.W.specialIn K (.builtin "object.__class__") "__get__" = some (some (.builtin "getset_descriptor.__get__"))
  htk : PySem.W.takesIn K (.builtin "object.__class__") = some true
  hm : PySem.W.mroIn K C (.type "object") = some true
/-- of its class alone, of the answers' classes -/
structure KAns (K : PySem.W.Frag) (C CA CF CR CW CO : Addr) (f r w o : Bool) : Prop where
  ins : KIns K C
  ka : PySem.W.kitOne K (.ref C) (.ref CA) = some true
  kf : PySem.W.kitOne K (.ref C) (.ref CF) = some f
  kr : PySem.W.kitOne K (.ref C) (.ref CR) = some r
  kw : PySem.W.kitOne K (.ref C) (.ref CW) = some w
  ko : PySem.W.kitOne K (.ref C) (.ref CO) = some o
theorem va_isi {K : PySem.W.Frag} {σ : L2.St} {H : Hp} {i : Nat} {x C D dx : Addr} {fs : List (Str × V)} {b : Bool} (h : σ[i]? = some (some (.ref x))) (hx : H x = some (.ins C dx fs)) (k : KIns K C) (e : PySem.W.kitOne K (.ref C) (.ref D) = some b) :
    Va (tCB (rIsi K) (tCons (tVar i) (tCons (tC (.ref D)) tNil))) σ H (.bl b) := fun Q q => ⟨_, h, .ref x, .ref D, _, _, b, rfl, .own D, .base (.ins hx k.cl k.ha k.hn k.htk k.hm), e, q⟩
/-- three truths laid as a list -/
theorem dp_bls {K : PySem.W.Frag} {H : Hp} : ∀ bs : List Bool, DpAll K H (bs.map V.bl) (bs.map PyData.bool)
  | [] => .nil
  | b :: bs => .cons (.bl b) (dp_bls bs)
theorem eqv_bool (a b : Bool) : PyData.eqv (.bool a) (.bool b) = decide (a = b) := by
  cases a <;> cases b <;> decide +kernel
theorem eqv_B (a b : List Bool) : PyData.eqv (.list (a.map PyData.bool)) (.list (b.map PyData.bool)) = decide (a = b) := eqv_lst eqv_bool a b
theorem shB (r : List Bool) : SeqAt.shaped (.list (r.map PyData.bool)) = true := (shp_map shp_bool r).shaped (by decide)
theorem ixN_last {n : Nat} (h : 0 < n) : ixN n (-1) = some (n - 1) := by
  unfold ixN
  rw [if_neg (by decide), if_pos (by omega)]
  congr 1
  omega
theorem atI_neg1 {α : Type} {xs : List α} {v : α} (h : xs[xs.length - 1]? = some v) : atI xs (-1) = some v := by
  unfold atI
  rw [ixN_last (by have := lt_of_get h; omega)]
  exact h
def sp_law (K : PySem.W.Frag) : Sp := fun vs H Q _ => ∃ (a : Addr) (ns : List Int), vs = [.ref a] ∧ SqL K H a (ns.map V.int) ∧ ns.length ≤ 63 ∧ ∀ H', Q (.bl true) H'
end Cc

namespace Cc
open PySem L2
/-! called_by -/
def calStep (rs : List (List Int)) (i : Nat) (u : Int) : List (List Int) := rs.set u.toNat (rs.getD u.toNat [] ++ [(i : Int) + 1])
def calGo : Nat → List Int → List (List Int) → List (List Int)
  | _, [], rs => rs
  | i, u :: us, rs => calGo (i + 1) us (calStep rs i u)
def calledM (us : List Int) : List (List Int) := calGo 0 us (List.replicate (us.length + 1) [])
def UpsOk (us : List Int) : Prop := ∀ (i : Nat) (u : Int), us[i]? = some u → 0 ≤ u ∧ u ≤ i
def sp_called_by : Sp := fun vs H Q _ => ∃ (a : Addr) (us : List Int), vs = [.ref a] ∧ H a = some (intsO us) ∧ us.length ≤ 1000 ∧ UpsOk us ∧
  ∀ p ps H', Lo H H' (llC p ps (calledM us)) → ps.length = us.length + 1 → Q (.ref p) H'
theorem calStep_len (rs : List (List Int)) (i : Nat) (u : Int) : (calStep rs i u).length = rs.length := by unfold calStep; simp
theorem calGo_snoc : ∀ (us : List Int) (i : Nat) (u : Int) (rs : List (List Int)), calGo i (us ++ [u]) rs = calStep (calGo i us rs) (i + us.length) u
  | [], i, u, rs => rfl
  | v :: us, i, u, rs => by
    show calGo (i + 1) (us ++ [u]) (calStep rs i v) = _
    rw [calGo_snoc us (i + 1) u]
    show _ = calStep (calGo (i + 1) us (calStep rs i v)) (i + (us.length + 1)) u
    rw [show i + 1 + us.length = i + (us.length + 1) by omega]
theorem calGo_len : ∀ (us : List Int) (i : Nat) (rs : List (List Int)), (calGo i us rs).length = rs.length
  | [], _, _ => rfl
  | v :: us, i, rs => by
    show (calGo (i + 1) us (calStep rs i v)).length = _
    rw [calGo_len us, calStep_len]
theorem calledM_len (us : List Int) : (calledM us).length = us.length + 1 := by
  unfold calledM
  rw [calGo_len, List.length_replicate]
def t_called_by (K : PySem.W.Frag) : TS :=
  (tSeq (tAsg (tLc (iRng1 (tCons (tOp qAdd (tCB (qLen K) (tCons (tVar 0) tNil)) (tC (.int 1))) tNil)) (gName 1) tYes (tLst tNil) [1]) (gName 2))
    (tSeq (tFor (iEnum K (tCons (tVar 0) tNil)) (gTup K 2 (gCons (gName 3) (gCons (gName 4) gNil)))
    (tDrop (tBM K "list" rAppend (tOp (rIxL K) (tVar 2) (tVar 4)) (tCons (tOp qAdd (tVar 3) (tC (.int 1))) tNil))))
    (tRet (tVar 2))))
theorem calGo_row : ∀ (us : List Int) (i : Nat) (rs : List (List Int)) (n : Nat), (∀ r ∈ rs, r.length ≤ n) → ∀ r ∈ calGo i us rs, r.length ≤ n + us.length
  | [], _, rs, n, h, r, hr => h r hr
  | u :: us, i, rs, n, h, r, hr => by
    have := calGo_row us (i + 1) (calStep rs i u) (n + 1) (fun r hr => by
      unfold calStep at hr
      rcases List.mem_or_eq_of_mem_set hr with hr | hr
      · have := h r hr; omega
      · subst hr
        rw [List.length_append]
        have : (rs.getD u.toNat []).length ≤ n := by
          rw [List.getD_eq_getElem?_getD]
          cases e : rs[u.toNat]? with
          | none => simp
          | some x => exact h x (List.mem_of_getElem? e)
        simp only [List.length_cons, List.length_nil]; omega) r hr
    rw [List.length_cons]; omega
theorem v_called_by {K : PySem.W.Frag} {vs : List V} {H : Hp} {Q : VK} {E : XK} (h : sp_called_by vs H Q E) : t_called_by K (fin Q) (st0 5 vs) H := by
  obtain ⟨a, us, rfl, ha, hl, hu, k⟩ := h
  unfold t_called_by
  refine ⟨_, rfl, a, _, rfl, .inl (SqL.of ha), _, _, rfl, rfl, _, rfl, by simp; omega, by simp; omega, fun D hD => ?_⟩
  have e1 : (((us.map V.int).length : Int) + 1).toNat = us.length + 1 := by simp
  refine lc_rangeY (fun i H1 => ∃ ps, ps.length = i ∧ Lo H H1 (llC D ps (List.replicate i []))) ⟨[], rfl, (Lo.nil H).al hD _⟩ ?_ ?_ (gN_mono _)
  · rintro i H1 hi ⟨ps, hps, L1⟩
    rw [e1] at hi
    refine ⟨rfl, by show 0 ≤ sizeLine; decide, fun q hq => ?_⟩
    have L2 := L1.al hq (intsO [])
    refine ⟨ps.map .ref, L2.get (List.mem_cons_of_mem _ (List.mem_cons_self)), szl (by simp; omega), ps ++ [q], by simp [hps], ?_⟩
    rw [map_ref_snoc, List.replicate_succ']
    exact L2.rowN0 (by simp [hps])
  · rintro H1 ⟨ps, hps, L1⟩
    rw [e1] at L1 hps
    refine ⟨_, rfl, a, _, rfl, SqL.of (L1.same _ _ ha), ?_⟩
    refine for_enum (xs := us.map V.int) (fun i σ H2 => ∃ x y, σ = [some (.ref a), none, some (.ref D), x, y] ∧ Lo H H2 (llC D ps (calGo 0 (us.take i) (List.replicate (us.length + 1) [])))) ?_ ?_ ?_ ?_
    · exact ⟨none, none, rfl, L1⟩
    · rintro i σ H2 hi ⟨x, y, rfl, L2⟩
      exact SqL.of (L2.same _ _ ha)
    · rintro i x σ H2 T hx ⟨y, z, rfl, L2⟩ hT
      obtain ⟨u, eu, rfl⟩ := mapV_get hx
      have hi := lt_of_get eu
      obtain ⟨hu0, hu1⟩ := hu i u eu
      have L3 := L2.ju hT (.tup [.int i, .int u])
      have len : (calGo 0 (us.take i) (List.replicate (us.length + 1) [])).length = us.length + 1 := by rw [calGo_len, List.length_replicate]
      have rl := calGo_row (us.take i) 0 (List.replicate (us.length + 1) []) 0 (by simp)
      generalize hrs : calGo 0 (us.take i) (List.replicate (us.length + 1) []) = rs at L3 len rl
      have hps1 := get_some (xs := ps) (i := u.toNat) (by omega)
      have hrs1 := get_some (xs := rs) (i := u.toNat) (by omega)
      have hq := L3.get (List.mem_cons_of_mem _ (rowsC_get hps1 hrs1))
      refine ⟨T, _, rfl, SqT.of upd_same, rfl, _, _, rfl, _, _, rfl, rfl, ?_⟩
      refine ⟨_, rfl, _, rfl, D, _, u, _, rfl, rfl, SqL.of (L3.get (List.mem_cons_self)), atI_ref hu0 hps1, .inl ⟨rfl, _, SqL.of hq⟩, _, rfl, _, _, rfl, rfl, _, _, _, rfl, rfl, hq, ?_, ?_⟩
      · have := rl _ (List.mem_of_getElem? hrs1)
        simp at this ⊢
        exact szl (by omega)
      · refine ⟨_, _, rfl, ?_⟩
        rw [map_int_snoc]
        have L5 := L3.rowW0 hps1 hrs1 (rs[u.toNat]'(by omega) ++ [(i : Int) + 1])
        refine L5.to ?_
        rw [List.take_add_one, eu]
        show _ = llC D ps (calGo 0 (us.take i ++ [u]) _)
        rw [calGo_snoc, hrs, List.length_take_of_le (by omega)]
        unfold calStep
        simp [hrs1]
    · rintro σ H2 ⟨x, y, rfl, L2⟩
      refine ⟨_, rfl, k D ps H2 ?_ hps⟩
      simp at L2
      exact L2
end Cc

namespace Cc
open PySem L2
/-! _law_number -/
def numMix (c a w : Int) : Int := ((c + 977 * a) * 48271 + w) % 2147483647
def numMore (c a w : Int) : Int := numMix c a w * (numMix c a w + 31 * a + 7) * (numMix c a w + c + 5)
def numberM (c a w : Int) : Int :=
  if decide ((10 : Int) ^ (18 : Int).toNat ≤ c) = true then c % (10 : Int) ^ (60 : Int).toNat
  else if decide (c ≤ 0 - (10 : Int) ^ (18 : Int).toNat) = true then c % (10 : Int) ^ (60 : Int).toNat
  else numMore c a w * (numMore c a w + 48271) / 1009
def sp__law_number : Sp := fun vs H Q _ => ∃ c a w : Int, vs = [.int c, .int a, .int w] ∧ 0 ≤ a ∧ a ≤ 1000000 ∧ ∀ H', Same H H' → Q (.int (numberM c a w)) H'
def t__law_number (K : PySem.W.Frag) : TS :=
  (tSeq (tIfS (tOr (tTest (tOp qGe (tVar 0) (tOp qPow (tC (.int 10)) (tC (.int 18))))) (tTest (tOp qLe (tVar 0) (tOp qSub (tC (.int 0)) (tOp qPow (tC (.int 10)) (tC (.int 18)))))))
    (tRet (tOp qMod (tVar 0) (tOp qPow (tC (.int 10)) (tC (.int 60)))))
    tNext)
    (tSeq (tAsg (tOp qMod (tOp qAdd (tOp qMul (tOp qAdd (tVar 0) (tOp qMul (tC (.int 977)) (tVar 1))) (tC (.int 48271))) (tVar 2)) (tC (.int 2147483647))) (gName 3))
    (tSeq (tAsg (tOp qMul (tOp qMul (tVar 3) (tOp qAdd (tOp qAdd (tVar 3) (tOp qMul (tC (.int 31)) (tVar 1))) (tC (.int 7)))) (tOp qAdd (tOp qAdd (tVar 3) (tVar 0)) (tC (.int 5)))) (gName 4))
    (tRet (tOp qDiv (tOp qMulW (tVar 4) (tOp qAdd (tVar 4) (tC (.int 48271)))) (tC (.int 1009)))))))
theorem p18 : (10 : Int) ^ (18 : Int).toNat = 1000000000000000000 := by decide
theorem num_bound {m a c : Int} (m0 : 0 ≤ m) (m1 : m < 2147483647) (a0 : 0 ≤ a) (a1 : a ≤ 1000000) (c0 : -1000000000000000000 < c) (c1 : c < 1000000000000000000) :
    (m * (m + 31 * a + 7) * (m + c + 5)).natAbs < 2 ^ 130 := by
  have h1 : m.natAbs < 2 ^ 31 := by omega
  have h2 : (m + 31 * a + 7).natAbs < 2 ^ 32 := by omega
  have h3 : (m + c + 5).natAbs < 2 ^ 62 := by omega
  have h4 := wide_lt h1 h2
  have h5 := wide_lt h4 h3
  exact Nat.lt_of_lt_of_le h5 (Nat.pow_le_pow_right (by decide) (by decide))
theorem v__law_number {K : PySem.W.Frag} {vs : List V} {H : Hp} {Q : VK} {E : XK} (h : sp__law_number vs H Q E) : t__law_number K (fin Q) (st0 5 vs) H := by
  obtain ⟨c, a, w, rfl, a0, a1, k⟩ := h
  have k := k H (Same.refl H)
  have pw : ∀ n : Int, 0 ≤ n → n ≤ 1000 → CPow 10 n := fun n h0 h1 => ⟨h0, by omega, by decide⟩
  unfold numberM at k
  refine ⟨_, rfl, 10, 18, rfl, rfl, pw _ (by decide) (by decide), _, _, rfl, rfl, _, rfl, ?_⟩
  refine ite2 (fun e => ?_) (fun e => ?_)
  · refine iteT ?_
    rw [if_pos e] at k
    exact ⟨_, rfl, 10, 60, rfl, rfl, pw _ (by decide) (by decide), _, _, rfl, rfl, (by decide : (0 : Int) < 10 ^ (60 : Int).toNat), k⟩
  · rw [if_neg e] at k
    refine ⟨_, rfl, 10, 18, rfl, rfl, pw _ (by decide) (by decide), _, _, rfl, rfl, _, _, rfl, rfl, _, rfl, ?_⟩
    refine ite2 (fun e2 => ?_) (fun e2 => ?_)
    · rw [if_pos e2] at k
      exact ⟨_, rfl, 10, 60, rfl, rfl, pw _ (by decide) (by decide), _, _, rfl, rfl, (by decide : (0 : Int) < 10 ^ (60 : Int).toNat), k⟩
    · rw [if_neg e2] at k
      have c1 : c < 1000000000000000000 := by rw [p18] at e; simpa using e
      have c0 : -1000000000000000000 < c := by rw [p18] at e2; simp at e2; omega
      have m0 : 0 ≤ numMix c a w := Int.emod_nonneg _ (by decide)
      have m1 : numMix c a w < 2147483647 := Int.emod_lt_of_pos _ (by decide)
      have hb : (numMore c a w).natAbs < 2 ^ 130 := num_bound m0 m1 a0 a1 c0 c1
      refine ⟨_, rfl, _, rfl, _, _, rfl, rfl, .inl ⟨by decide, by decide⟩, _, _, rfl, rfl, _, _, rfl, rfl, .inr ⟨by decide, by decide⟩, _, rfl, _, _, rfl, rfl, _, _, rfl, rfl, (by decide : (0 : Int) < 2147483647), ?_⟩
      have e3 : ((c + 977 * a) * 48271 + w) % 2147483647 = numMix c a w := rfl
      refine ⟨_, rfl, _, rfl, _, rfl, _, _, rfl, rfl, .inl ⟨by decide, by decide⟩, _, _, rfl, rfl, _, _, rfl, rfl, _, _, rfl, rfl, .inl ?_, _, rfl, _, rfl, _, _, rfl, rfl, _, _, rfl, rfl, _, _, rfl, rfl, .inr ?_, ?_⟩
      · show -(2 ^ 64) < numMix c a w ∧ numMix c a w < 2 ^ 64
        omega
      · show -(2 ^ 64) < numMix c a w + c + 5 ∧ numMix c a w + c + 5 < 2 ^ 64
        omega
      · refine ⟨_, rfl, _, rfl, _, _, rfl, rfl, _, _, rfl, rfl, ?_, _, _, rfl, rfl, ⟨by decide, by decide⟩, k⟩
        show CMulW (numMore c a w) (numMore c a w + 48271)
        exact wide_mul hb (Nat.lt_of_lt_of_le (show (numMore c a w + 48271).natAbs < 2 ^ 131 by
          have : (2 : Nat) ^ 131 = 2 ^ 130 + 2 ^ 130 := by decide
          have : (48271 : Nat) < 2 ^ 130 := by decide
          omega) (Nat.le_refl _)) (by decide) (by decide) (by decide)
end Cc

namespace Cc
open PySem L2
/-! _law_ups -/
def cellsM (ns : List Int) : List Int := if ns = [] then [5] else ns.take 63
def wholeM (ns : List Int) (b : Int) : Int := (cellsM ns).sum + b
def upsN (ns : List Int) (b : Int) (i : Nat) : Int :=
  numberM ((cellsM ns).getD (((i : Int) + b) % ((cellsM ns).length : Int)).toNat 0 + i) ((i : Int) + b) (wholeM ns b) / 3
def upsPick (x : Int) (i : Nat) (kind : Int) : Int :=
  [x % ((i : Int) + 1), (i : Int), 0, x % (if 3 < (i : Int) + 1 then 3 else (i : Int) + 1), (i : Int) / 2].getD kind.toNat 0
def upsMany (ns : List Int) (b most : Int) : Int := numberM (wholeM ns b) (b + 1) 3 / 9 % most
def upsKind (ns : List Int) (b : Int) : Int := numberM (wholeM ns b) (b + 1) 3 / 360 % 5
def upsM (ns : List Int) (b most : Int) : List Int := (List.range (upsMany ns b most).toNat).map fun i => upsPick (upsN ns b i) i (upsKind ns b)
theorem cellsM_ne (ns : List Int) : 0 < (cellsM ns).length := by
  unfold cellsM
  split
  · decide
  · rename_i h
    cases ns with
    | nil => exact absurd rfl h
    | cons a l => simp
theorem cellsM_le (ns : List Int) : (cellsM ns).length ≤ 63 := by
  unfold cellsM
  split
  · decide
  · simp; omega
theorem upsPick_ok (x : Int) (i : Nat) {kind : Int} (h0 : 0 ≤ kind) (h1 : kind < 5) : 0 ≤ upsPick x i kind ∧ upsPick x i kind ≤ i := by
  have hk : kind = 0 ∨ kind = 1 ∨ kind = 2 ∨ kind = 3 ∨ kind = 4 := by omega
  have m1 := Int.emod_nonneg x (show ((i : Int) + 1) ≠ 0 by omega)
  have m2 := Int.emod_lt_of_pos x (show 0 < (i : Int) + 1 by omega)
  rcases hk with rfl | rfl | rfl | rfl | rfl
  · show 0 ≤ x % ((i : Int) + 1) ∧ x % ((i : Int) + 1) ≤ i
    omega
  · show 0 ≤ (i : Int) ∧ (i : Int) ≤ i
    omega
  · show 0 ≤ (0 : Int) ∧ (0 : Int) ≤ i
    omega
  · show 0 ≤ x % (if 3 < (i : Int) + 1 then 3 else (i : Int) + 1) ∧ x % (if 3 < (i : Int) + 1 then 3 else (i : Int) + 1) ≤ i
    split <;> omega
  · show 0 ≤ (i : Int) / 2 ∧ (i : Int) / 2 ≤ i
    omega
theorem upsKind_ok (ns : List Int) (b : Int) : 0 ≤ upsKind ns b ∧ upsKind ns b < 5 := ⟨Int.emod_nonneg _ (by decide), Int.emod_lt_of_pos _ (by decide)⟩
theorem upsMany_ok (ns : List Int) (b : Int) {most : Int} (h : 0 < most) : 0 ≤ upsMany ns b most ∧ upsMany ns b most < most := ⟨Int.emod_nonneg _ (by omega), Int.emod_lt_of_pos _ h⟩
theorem upsM_ok (ns : List Int) (b most : Int) : UpsOk (upsM ns b most) := fun i u e => by
  unfold upsM at e
  rw [List.getElem?_map] at e
  cases q : (List.range (upsMany ns b most).toNat)[i]? with
  | none => rw [q] at e; cases e
  | some j =>
    rw [q] at e
    have hj : j = i := by
      rw [List.getElem?_range (by have := lt_of_get q; simpa using this)] at q
      exact (Option.some.inj q).symm
    subst hj
    have e : upsPick (upsN ns b j) j (upsKind ns b) = u := Option.some.inj e
    subst e
    exact upsPick_ok _ _ (upsKind_ok ns b).1 (upsKind_ok ns b).2
theorem upsM_len (ns : List Int) (b : Int) {most : Int} (h : 0 < most) : ((upsM ns b most).length : Int) < most := by
  have := upsMany_ok ns b h
  unfold upsM
  simp
  omega
def sp__law_ups (K : PySem.W.Frag) : Sp := fun vs H Q _ => ∃ (a : Addr) (ns : List Int) (b most : Int), vs = [.ref a, .int b, .int most] ∧ SqL K H a (ns.map V.int) ∧ 0 ≤ b ∧ b ≤ 1000 ∧ 0 < most ∧ most ≤ 1000 ∧
  ∀ p H', Lo H H' [(p, intsO (upsM ns b most))] → Q (.ref p) H'
def t__law_ups (K : PySem.W.Frag) : TS :=
(tSeq (tAsg (tIf (tTest (tOp (rNeD K) (tVar 0) (tLst tNil))) (L2.tSl (rSlL K) (tVar 0) tNoPart (tPart (tC (.int 63)))) (tLst (tCons (tC (.int 5)) tNil))) (gName 3))
    (tSeq (tPar 4 5 (tCons (tOp qAdd (tCB (rSum K) (tCons (tVar 3) tNil)) (tVar 1)) (tCons (tLst tNil) tNil)))
    (tSeq (tPar 6 7 (tCons (tOp qMod (tOp qDiv (tCall sp__law_number [] E0 (tCons (tVar 4) (tCons (tOp qAdd (tVar 1) (tC (.int 1))) (tCons (tC (.int 3)) tNil)))) (tC (.int 9))) (tVar 2)) (tCons (tOp qMod (tOp qDiv (tCall sp__law_number [] E0 (tCons (tVar 4) (tCons (tOp qAdd (tVar 1) (tC (.int 1))) (tCons (tC (.int 3)) tNil)))) (tC (.int 360))) (tC (.int 5))) tNil)))
    (tSeq (tFor (iRng1 (tCons (tVar 6) tNil)) (gName 8)
    (tSeq (tAsg (tOp qDiv (tCall sp__law_number [] E0 (tCons (tOp qAdd (tOp (rIxL K) (tVar 3) (tOp qMod (tOp qAdd (tVar 8) (tVar 1)) (tCB (qLen K) (tCons (tVar 3) tNil)))) (tVar 8)) (tCons (tOp qAdd (tVar 8) (tVar 1)) (tCons (tVar 4) tNil)))) (tC (.int 3))) (gName 9))
      (tDrop (tBM K "list" rAppend (tVar 5) (tCons (tOp (rIxT K) (tTup (tCons (tOp qMod (tVar 9) (tOp qAdd (tVar 8) (tC (.int 1)))) (tCons (tVar 8) (tCons (tC (.int 0)) (tCons (tOp qMod (tVar 9) (tCB qMin2 (tCons (tOp qAdd (tVar 8) (tC (.int 1))) (tCons (tC (.int 3)) tNil)))) (tCons (tOp qDiv (tVar 8) (tC (.int 2))) tNil)))))) (tVar 7)) tNil)))))
    (tRet (tVar 5))))))
theorem cut63 (ns : List Int) : cutV (ns.map V.int) none (some 63) = (ns.take 63).map V.int := by
  rw [show (63 : Int) = ((63 : Nat) : Int) from rfl, cut_to, List.map_take]
/-- the cells: script[:63] if script != [] else [5] -/
theorem vr_cells {K : PySem.W.Frag} {σ : L2.St} {H : Hp} {a : Addr} {ns : List Int} (hσ : σ[0]? = some (some (.ref a))) (ha : SqL K H a (ns.map V.int)) :
    Vr (tIf (tTest (tOp (rNeD K) (tVar 0) (tLst tNil))) (L2.tSl (rSlL K) (tVar 0) tNoPart (tPart (tC (.int 63)))) (tLst (tCons (tC (.int 5)) tNil))) σ H (fun v H' => ∃ c, v = .ref c ∧ Lo H H' [(c, intsO (cellsM ns))]) := by
  intro Q q
  refine ⟨_, hσ, by show 0 ≤ sizeLine; decide, fun z hz => ?_⟩
  have s1 := Same.new hz (.lst [])
  refine ⟨_, _, dp_SqI (s1.seq ha), .lst (SqL.of upd_same) .nil, shI ns, shI [], _, rfl, ?_⟩
  rw [eqv_I_nil]
  by_cases hn : ns = []
  · rw [decide_eq_true hn]
    refine iteF ?_
    refine ⟨by show 1 ≤ sizeLine; decide, fun c hc => q _ _ ⟨c, rfl, ?_⟩⟩
    have := ((Lo.nil H).cs s1).al hc (intsO (cellsM ns))
    unfold cellsM at this ⊢
    rw [if_pos hn] at this ⊢
    exact this
  · rw [decide_eq_false hn]
    refine iteT ?_
    refine ⟨_, hσ, _, rfl, a, _, rfl, s1.seq ha, fun c hc => q _ _ ⟨c, rfl, ?_⟩⟩
    have := ((Lo.nil H).cs s1).al hc (intsO (cellsM ns))
    unfold cellsM at this ⊢
    rw [if_neg hn] at this ⊢
    rw [cut63]
    exact this
theorem v__law_ups {K : PySem.W.Frag} {vs : List V} {H : Hp} {Q : VK} {E : XK} (h : sp__law_ups K vs H Q E) : t__law_ups K (fin Q) (st0 10 vs) H := by
  obtain ⟨a, ns, b, most, rfl, ha, b0, b1, m0, m1, k⟩ := h
  refine q_setR (vr_cells rfl ha) ?_
  rintro _ H1 ⟨c, rfl, L1⟩
  -- whole, found
  refine ⟨_, rfl, c, cellsM ns, rfl, SqL.of (L1.get List.mem_cons_self), _, rfl, _, _, rfl, rfl, by show 0 ≤ sizeLine; decide, fun p hp => ?_⟩
  have L2 := L1.al hp (intsO [])
  refine ⟨_, _, rfl, ?_⟩
  -- many, kind
  refine ⟨_, rfl, _, rfl, _, _, rfl, rfl, _, _, _, rfl, by omega, by omega, fun H3 s3 => ?_⟩
  refine ⟨_, _, rfl, rfl, ⟨by decide, by decide⟩, _, rfl, _, _, rfl, rfl, m0, ?_⟩
  refine ⟨_, rfl, _, rfl, _, _, rfl, rfl, _, _, _, rfl, by omega, by omega, fun H4 s4 => ?_⟩
  refine ⟨_, _, rfl, rfl, ⟨by decide, by decide⟩, _, _, rfl, rfl, (by decide : (0 : Int) < 5), _, _, rfl, ?_⟩
  have L4 := (L2.cs s3).cs s4
  have hm := upsMany_ok ns b m0
  have hk := upsKind_ok ns b
  refine ⟨_, rfl, (upsMany ns b most), rfl, by omega, by omega, ?_⟩
  refine for_range (fun i σ H5 => ∃ x8 x9, σ = [some (.ref a), some (.int b), some (.int most), some (.ref c), some (.int (wholeM ns b)), some (.ref p), some (.int (upsMany ns b most)), some (.int (upsKind ns b)), x8, x9] ∧
    Lo H H5 [(p, intsO ((List.range i).map fun i => upsPick (upsN ns b i) i (upsKind ns b))), (c, intsO (cellsM ns))]) ?_ ?_ ?_
  · exact ⟨none, none, rfl, L4⟩
  · rintro i σ H5 hi ⟨x8, x9, rfl, L5⟩
    have hc5 := L5.get (List.mem_cons_of_mem _ List.mem_cons_self)
    have cn := cellsM_ne ns
    have cl := cellsM_le ns
    have i0 : ((0 : Int) + (i : Int)) = (i : Int) := by omega
    have md0 := Int.emod_nonneg ((i : Int) + b) (show ((cellsM ns).length : Int) ≠ 0 by omega)
    have md1 := Int.emod_lt_of_pos ((i : Int) + b) (show 0 < ((cellsM ns).length : Int) by omega)
    have hg := get_some (xs := cellsM ns) (i := (((i : Int) + b) % ((cellsM ns).length : Int)).toNat) (by omega)
    show tSeq _ _ _ [some (.ref a), some (.int b), some (.int most), some (.ref c), some (.int (wholeM ns b)), some (.ref p), some (.int (upsMany ns b most)), some (.int (upsKind ns b)), some (.int ((0 : Int) + (i : Int))), x9] H5
    rw [i0]
    refine q_setR (R := fun v H' => v = .int (upsN ns b i) ∧ Same H5 H') (fun Q' q' => ?_) ?_
    · refine ⟨_, rfl, _, rfl, _, rfl, _, _, rfl, rfl, _, rfl, c, _, rfl, .inl (SqL.of hc5), _, _, rfl, rfl, ?_, c, _, _, .int ((cellsM ns).getD (((i : Int) + b) % ((cellsM ns).length : Int)).toNat 0), rfl, rfl, SqL.of hc5, ?_, _, rfl, _, _, rfl, rfl, _, rfl, _, rfl, _, _, rfl, rfl, _, rfl, _, _, _, rfl, by omega, by omega, fun H6 s6 => ⟨_, _, rfl, rfl, ⟨by decide, by decide⟩, q' _ _ ⟨rfl, s6⟩⟩⟩
      · show (0 : Int) < ((List.map V.int (cellsM ns)).length : Nat)
        simp; omega
      · rw [List.length_map]
        refine atI_int md0 ?_
        rw [hg]
        simp [List.getD, hg]
    rintro _ H6 ⟨rfl, s6⟩
    have L6 := L5.cs s6
    have hp6 := L6.get List.mem_cons_self
    refine ⟨_, rfl, .inl ⟨rfl, _, SqL.of hp6⟩, ?_⟩
    refine ⟨_, rfl, _, rfl, _, _, rfl, rfl, _, _, rfl, rfl, (by omega : (0 : Int) < (i : Int) + 1), _, rfl, _, rfl, _, rfl, _, _, rfl, rfl, _, _, rfl, _, _, rfl, rfl, ?_, _, rfl, _, _, rfl, rfl, ⟨by decide, by decide⟩, by show 5 ≤ sizeLine; decide, fun t ht => ?_⟩
    · show (0 : Int) < if 3 < (i : Int) + 1 then 3 else (i : Int) + 1
      split <;> omega
    have L7 := L6.ju ht (.tup [.int (upsN ns b i % ((i : Int) + 1)), .int i, .int 0, .int (upsN ns b i % (if 3 < (i : Int) + 1 then 3 else (i : Int) + 1)), .int ((i : Int) / 2)])
    refine ⟨_, rfl, t, _, _, .int (upsPick (upsN ns b i) i (upsKind ns b)), rfl, rfl, SqT.of upd_same, ?_, p, _, _, rfl, rfl, L7.get List.mem_cons_self, ?_, ?_⟩
    · have hk5 : upsKind ns b = 0 ∨ upsKind ns b = 1 ∨ upsKind ns b = 2 ∨ upsKind ns b = 3 ∨ upsKind ns b = 4 := by omega
      rcases hk5 with e | e | e | e | e <;> rw [e] <;> rfl
    · simp
      exact szl (by omega)
    · refine ⟨_, _, rfl, ?_⟩
      have e : ((List.range i).map fun i => upsPick (upsN ns b i) i (upsKind ns b)) ++ [upsPick (upsN ns b i) i (upsKind ns b)] = (List.range (i + 1)).map fun i => upsPick (upsN ns b i) i (upsKind ns b) := by
        rw [List.range_succ, List.map_append]; rfl
      rw [map_int_snoc, e]
      exact L7.wr0 _
  · rintro σ H5 ⟨x8, x9, rfl, L5⟩
    refine ⟨_, rfl, k p H5 ?_⟩
    exact L5.sub (List.Sublist.cons₂ _ (List.nil_sublist _))
end Cc

namespace Cc
open PySem L2
/-! is_whole, is_between, check_ups -/
/-- any thing that is looked at -/
inductive Thg (H : Hp) : V → Prop
  | int (i : Int) : Thg H (.int i)
  | bl (b : Bool) : Thg H (.bl b)
  | non : Thg H .non
  | str (x : Str) : Thg H (.str x)
  | lst {a : Addr} {xs : List V} (h : H a = some (.lst xs)) : Thg H (.ref a)
  | tup {a : Addr} {xs : List V} (h : H a = some (.tup xs)) : Thg H (.ref a)
  | dic {a : Addr} {xs : List (Key × V)} (h : H a = some (.dK xs)) : Thg H (.ref a)
def isIntV : V → Bool
  | .int _ => true
  | _ => false
def betwV (lo hi : Int) : V → Bool
  | .int i => decide (lo ≤ i) && decide (i ≤ hi)
  | _ => false
def isBlV : V → Bool
  | .bl _ => true
  | _ => false
theorem Thg.ty {K : PySem.W.Frag} {H : Hp} {v : V} (h : Thg H v) : ∃ T : String, TyX K H v (.type T) ∧ kitB T "int" = some (isIntV v || isBlV v) ∧ kitB T "bool" = some (isBlV v) := by
  cases h with
  | int i => exact ⟨"int", .base (.int i), (show kitB "int" "int" = some true by decide +kernel), (show kitB "int" "bool" = some false by decide +kernel)⟩
  | bl b => exact ⟨"bool", .base (.bl b), (show kitB "bool" "int" = some true by decide +kernel), (show kitB "bool" "bool" = some true by decide +kernel)⟩
  | non  => exact ⟨"NoneType", .base .non, (show kitB "NoneType" "int" = some false by decide +kernel), (show kitB "NoneType" "bool" = some false by decide +kernel)⟩
  | str x => exact ⟨"str", .base (.str x), (show kitB "str" "int" = some false by decide +kernel), (show kitB "str" "bool" = some false by decide +kernel)⟩
  | lst h => exact ⟨"list", .base (.lst h), (show kitB "list" "int" = some false by decide +kernel), (show kitB "list" "bool" = some false by decide +kernel)⟩
  | tup h => exact ⟨"tuple", .base (.tup h), (show kitB "tuple" "int" = some false by decide +kernel), (show kitB "tuple" "bool" = some false by decide +kernel)⟩
  | dic h => exact ⟨"dict", .base (.dK h), (show kitB "dict" "int" = some false by decide +kernel), (show kitB "dict" "bool" = some false by decide +kernel)⟩
def sp_is_whole : Sp := fun vs H Q _ => ∃ v, vs = [v] ∧ Thg H v ∧ ∀ H', Same H H' → Q (.bl (isIntV v)) H'
def t_is_whole (K : PySem.W.Frag) : TS :=
  (tRet (tAndV (tCB (rIsi K) (tCons (tVar 0) (tCons (tC (.ty "int")) tNil))) (tNotV (tCB (rIsi K) (tCons (tVar 0) (tCons (tC (.ty "bool")) tNil))))))
theorem v_is_whole {K : PySem.W.Frag} {vs : List V} {H : Hp} {Q : VK} {E : XK} (h : sp_is_whole vs H Q E) : t_is_whole K (fin Q) (st0 1 vs) H := by
  obtain ⟨v, rfl, hv, k⟩ := h
  obtain ⟨T, h1, h2, h3⟩ := hv.ty (K := K)
  have k := k H (Same.refl H)
  refine ⟨_, rfl, v, .ty "int", _, _, _, rfl, .ty _, h1, kit_ty h2, _, rfl, ?_⟩
  refine ite2 (fun e => ?_) (fun e => ?_)
  · refine ⟨_, rfl, v, .ty "bool", _, _, _, rfl, .ty _, h1, kit_ty h3, _, rfl, ?_⟩
    cases hv <;> first | exact k | (simp [isIntV, isBlV] at e)
  · cases hv <;> first | exact k | (simp [isIntV, isBlV] at e)
def sp_is_between : Sp := fun vs H Q _ => ∃ v lo hi, vs = [v, .int lo, .int hi] ∧ Thg H v ∧ ∀ H', Same H H' → Q (.bl (betwV lo hi v)) H'
def t_is_between (K : PySem.W.Frag) : TS :=
  (tRet (tAndV (tCall sp_is_whole [] E0 (tCons (tVar 0) tNil)) (tChain qLe qLe (tVar 1) (tVar 0) (tVar 2))))
theorem v_is_between {K : PySem.W.Frag} {vs : List V} {H : Hp} {Q : VK} {E : XK} (h : sp_is_between vs H Q E) : t_is_between K (fin Q) (st0 3 vs) H := by
  obtain ⟨v, lo, hi, rfl, hv, k⟩ := h
  refine ⟨_, rfl, v, rfl, hv, fun H1 s1 => ⟨_, rfl, ?_⟩⟩
  have k := k H1 s1
  refine ite2 (fun e => ?_) (fun e => ?_)
  · cases v with
    | int i =>
      refine ⟨_, rfl, _, rfl, lo, i, rfl, rfl, _, rfl, ?_⟩
      refine ite2 (fun e => ?_) (fun e => ?_)
      · refine ⟨_, rfl, i, hi, rfl, rfl, ?_⟩
        have : betwV lo hi (.int i) = decide (i ≤ hi) := by simp [betwV] at e ⊢; omega
        rw [this] at k
        exact k
      · have : betwV lo hi (.int i) = false := by simp [betwV] at e ⊢; omega
        rw [this] at k
        exact k
    | _ => simp [isIntV] at e
  · cases v with
    | int i => simp [isIntV] at e
    | _ => exact k
/-- ups that are such -/
def sp_check_ups : Sp := fun vs H Q _ => ∃ a us, vs = [.ref a] ∧ H a = some (intsO us) ∧ us.length < 40 ∧ UpsOk us ∧ ∀ H', Same H H' → Q .non H'
def t_check_ups (K : PySem.W.Frag) : TS :=
  (tSeq (tIfS (tOr (tNot (tB (tCB (rIsi K) (tCons (tVar 0) (tCons (tC (.ty "list")) tNil))))) (tTest (tOp qGe (tCB (qLen K) (tCons (tVar 0) tNil)) (tC (.int 40)))))
    tNever
    tNext)
    (tIfS (tNot (tB (tCB (rAll K) (tCons (tLc (iEnum K (tCons (tVar 0) tNil)) (gTup K 2 (gCons (gName 1) (gCons (gName 2) gNil))) tYes (tCall sp_is_between [] E0 (tCons (tVar 2) (tCons (tC (.int 0)) (tCons (tVar 1) tNil)))) [1, 2]) tNil))))
    tNever
    tNext))
theorem v_check_ups {K : PySem.W.Frag} {vs : List V} {H : Hp} {Q : VK} {E : XK} (h : sp_check_ups vs H Q E) : t_check_ups K (fin Q) (st0 3 vs) H := by
  obtain ⟨a, us, rfl, ha, hl, hu, k⟩ := h
  refine ⟨_, rfl, .ref a, .ty "list", .type "list", _, true, rfl, .ty _, .base (.lst ha), kit_ty (by decide +kernel), _, rfl, ?_⟩
  refine iteF ?_
  refine ⟨_, rfl, a, _, rfl, .inl (SqL.of ha), _, _, rfl, rfl, _, rfl, ?_⟩
  have e : decide ((40 : Int) ≤ ((us.map V.int).length : Nat)) = false := by simp; omega
  rw [e]
  refine iteF ?_
  refine ⟨_, rfl, a, _, rfl, SqL.of ha, fun D hD => ?_⟩
  refine lc_enumY (xs := us.map V.int) (fun i H1 => Lo H H1 [(D, .lst ((List.replicate i true).map V.bl))]) ((Lo.nil H).al hD _) ?_ ?_ ?_ (gT2_mono _ _ _)
  · exact fun i H1 _ L1 => SqL.of (L1.same _ _ ha)
  · intro i x H1 T hx L1 hT
    obtain ⟨u, eu, rfl⟩ := mapV_get hx
    have L2 := L1.ju hT (.tup [.int i, .int u])
    refine ⟨T, _, rfl, SqT.of upd_same, rfl, _, _, rfl, _, _, rfl, rfl, rfl, ?_⟩
    refine ⟨_, rfl, _, rfl, _, _, _, rfl, .int u, fun H2 s2 => ?_⟩
    have L3 := L2.cs s2
    refine ⟨_, L3.get List.mem_cons_self, szl (by simp; have := lt_of_get eu; omega), ?_⟩
    obtain ⟨h0, h1⟩ := hu i u eu
    have e : betwV 0 (i : Nat) (.int u) = true := by simp [betwV]; omega
    rw [e, List.replicate_succ', List.map_append]
    exact L3.wr0 _
  · intro H1 L1
    refine ⟨D, _, rfl, SqL.of (L1.get List.mem_cons_self), ?_⟩
    have e : (List.replicate (us.map V.int).length true).all id = true := by simp
    rw [e]
    refine ⟨_, rfl, ?_⟩
    refine iteF ?_
    exact k H1 L1.sm
end Cc

namespace Cc
open PySem L2
/-! best_orders -/
def turnM (needs row : List Int) : List (Int × Int) := sortP (row.map fun one => (-(needs.getD one.toNat 0), one))
def needL (turn : List (Int × Int)) : List Int := 0 :: turn.mapIdx fun i p => (i : Int) + 1 - p.1
def bestStep (rn : List (List Int) × List Int) (p : Nat) : List (List Int) × List Int :=
  (rn.1.set p ((turnM rn.2 (rn.1.getD p [])).map (·.2)), rn.2.set p (maxL (needL (turnM rn.2 (rn.1.getD p [])))))
def bestGo (us : List Int) : Nat → List (List Int) × List Int
  | 0 => (calledM us, List.replicate (us.length + 1) 0)
  | i + 1 => bestStep (bestGo us i) (us.length - i)
def bestM (us : List Int) : List (List Int) × List Int := bestGo us (us.length + 1)
theorem bestGo_len (us : List Int) : ∀ i, (bestGo us i).1.length = us.length + 1 ∧ (bestGo us i).2.length = us.length + 1
  | 0 => ⟨calledM_len us, by simp [bestGo]⟩
  | i + 1 => by
    have h := bestGo_len us i
    simp only [bestGo, bestStep, List.length_set]
    exact h
/-- the rows' items are people -/
def RowsIn (n : Nat) (rs : List (List Int)) : Prop := ∀ r ∈ rs, ∀ x ∈ r, 0 ≤ x ∧ x < n
theorem calGo_in : ∀ (us : List Int) (i : Nat) (rs : List (List Int)) (n : Nat), i + us.length < n → RowsIn n rs → RowsIn n (calGo i us rs)
  | [], _, rs, n, _, h => h
  | u :: us, i, rs, n, hi, h => by
    refine calGo_in us (i + 1) _ n (by simp at hi; omega) (fun r hr x hx => ?_)
    unfold calStep at hr
    rcases List.mem_or_eq_of_mem_set hr with hr | hr
    · exact h r hr x hx
    · subst hr
      rcases List.mem_append.mp hx with hx | hx
      · rw [List.getD_eq_getElem?_getD] at hx
        cases e : rs[u.toNat]? with
        | none => rw [e] at hx; cases hx
        | some y => rw [e] at hx; exact h y (List.mem_of_getElem? e) x hx
      · simp at hx hi; subst hx; omega
theorem calledM_in (us : List Int) : RowsIn (us.length + 1) (calledM us) := calGo_in us 0 _ _ (by omega) (by
  intro r hr x hx
  rw [List.mem_replicate] at hr
  rw [hr.2] at hx
  cases hx)
theorem calledM_row (us : List Int) : ∀ r ∈ calledM us, r.length ≤ us.length := fun r hr => by
  have := calGo_row us 0 (List.replicate (us.length + 1) []) 0 (by simp) r hr
  omega
theorem turnM_perm (needs row : List Int) : ((turnM needs row).map (·.2)).Perm row := by
  have := (sortP_perm (row.map fun one => (-(needs.getD one.toNat 0), one))).map (·.2)
  rw [List.map_map] at this
  have e : ((fun x : Int × Int => x.2) ∘ fun one : Int => (-(needs.getD one.toNat 0), one)) = id := rfl
  rw [e, List.map_id] at this
  exact this
theorem getD_mem {rs : List (List Int)} {p : Nat} {P : List Int → Prop} (h : ∀ r ∈ rs, P r) (h0 : P []) : P (rs.getD p []) := by
  rw [List.getD_eq_getElem?_getD]
  cases e : rs[p]? with
  | none => exact h0
  | some x => exact h x (List.mem_of_getElem? e)
theorem bestGo_rows (us : List Int) : ∀ i, RowsIn (us.length + 1) (bestGo us i).1 ∧ ∀ r ∈ (bestGo us i).1, r.length ≤ us.length
  | 0 => ⟨calledM_in us, calledM_row us⟩
  | i + 1 => by
    obtain ⟨h1, h2⟩ := bestGo_rows us i
    refine ⟨fun r hr => ?_, fun r hr => ?_⟩
    · rcases List.mem_or_eq_of_mem_set hr with hr | hr
      · exact h1 r hr
      · subst hr
        intro x hx
        exact getD_mem (P := fun r => ∀ x ∈ r, 0 ≤ x ∧ x < ((us.length + 1 : Nat) : Int)) h1 (by simp) x ((turnM_perm _ _).mem_iff.mp hx)
    · rcases List.mem_or_eq_of_mem_set hr with hr | hr
      · exact h2 r hr
      · subst hr
        rw [(turnM_perm _ _).length_eq]
        exact getD_mem h2 (by simp)
def t_best_orders (K : PySem.W.Frag) : TS :=
  (tSeq (tAsg (tTup (tCons (tCall sp_called_by [] E0 (tCons (tVar 0) tNil)) (tCons (tOp rRep (tLst (tCons (tC (.int 0)) tNil)) (tOp qAdd (tCB (qLen K) (tCons (tVar 0) tNil)) (tC (.int 1)))) tNil))) (gTup K 2 (gCons (gName 1) (gCons (gName 2) gNil))))
    (tSeq (tFor (iRng1 (tCons (tCB (qLen K) (tCons (tVar 1) tNil)) tNil)) (gName 3)
    (tSeq (tAsg (tOp qSub (tOp qSub (tCB (qLen K) (tCons (tVar 1) tNil)) (tC (.int 1))) (tVar 3)) (gName 4))
      (tSeq (tAsg (tCB (rSortedPO K) (tCons (tLc (iList K (tOp (rIxL K) (tVar 1) (tVar 4))) (gName 5) tYes (tTup (tCons (tUn qNeg (tOp (rIxL K) (tVar 2) (tVar 5))) (tCons (tVar 5) tNil))) [5]) tNil)) (gName 6))
      (tSeq (tAsg (tLc (iList K (tVar 6)) (gTup K 2 (gCons (gName 7) (gCons (gName 5) gNil))) tYes (tVar 5) [7, 5]) (gSub (tVar 1) (tVar 4) rSetL))
      (tAsg (tCB (rMax K) (tCons (tOp rCat (tLst (tCons (tC (.int 0)) tNil)) (tLc (iEnum K (tCons (tVar 6) tNil)) (gTup K 2 (gCons (gName 8) (gCons (gTup K 2 (gCons (gName 7) (gCons (gName 5) gNil))) gNil))) tYes (tOp qSub (tOp qAdd (tVar 8) (tC (.int 1))) (tVar 7)) [8, 7, 5])) tNil)) (gSub (tVar 2) (tVar 4) rSetL))))))
    (tRet (tTup (tCons (tVar 1) (tCons (tVar 2) tNil))))))
def sp_best_orders : Sp := fun vs H Q _ => ∃ (a : Addr) (us : List Int), vs = [.ref a] ∧ H a = some (intsO us) ∧ us.length ≤ 1000 ∧ UpsOk us ∧
  ∀ t p ps q H', Lo H H' ((t, .tup [.ref p, .ref q]) :: (llC p ps (bestM us).1 ++ [(q, intsO (bestM us).2)])) → ps.length = us.length + 1 → Q (.ref t) H'
theorem v_best_orders {K : PySem.W.Frag} {vs : List V} {H : Hp} {Q : VK} {E : XK} (h : sp_best_orders vs H Q E) : t_best_orders K (fin Q) (st0 9 vs) H := by
  obtain ⟨a, us, rfl, ha, hl, hu, k⟩ := h
  refine ⟨_, rfl, a, us, rfl, ha, hl, hu, fun p ps H1 L1 hps => ?_⟩
  refine ⟨by show 1 ≤ sizeLine; decide, fun z hz => ?_⟩
  have L2 := L1.al hz (.lst [.int 0])
  refine ⟨_, rfl, a, _, rfl, .inl (SqL.of (L2.same _ _ ha)), _, _, rfl, rfl, z, _, _, rfl, rfl, L2.get List.mem_cons_self, by omega, by simp; omega, by simp; exact sz (by omega), fun q hq => ?_⟩
  have L3 := (L2.al hq (intsO (List.replicate (us.length + 1) 0))).sub (List.Sublist.cons₂ _ (List.sublist_cons_self _ _))
  have e1 : (List.replicate (((us.map V.int).length : Int) + 1).toNat [V.int 0]).flatten = (List.replicate (us.length + 1) 0).map V.int := by
    rw [show (((us.map V.int).length : Int) + 1).toNat = us.length + 1 by simp]
    simp
  rw [e1]
  refine ⟨by show 2 ≤ sizeLine; decide, fun t0 ht0 => ?_⟩
  have L4 := L3.ju ht0 (.tup [.ref p, .ref q])
  refine ⟨t0, _, rfl, SqT.of upd_same, rfl, _, _, rfl, _, _, rfl, rfl, ?_⟩
  have hp4 := L4.get (List.mem_cons_of_mem _ List.mem_cons_self)
  refine ⟨_, rfl, p, _, rfl, .inl (SqL.of hp4), _, rfl, by omega, by simp; omega, ?_⟩
  have e2 : (((ps.map V.ref).length : Nat) : Int).toNat = us.length + 1 := by simp [hps]
  refine for_range (fun i σ H5 => ∃ ps x3 x4 x6, σ = [some (.ref a), some (.ref p), some (.ref q), x3, x4, none, x6, none, none] ∧ ps.length = us.length + 1 ∧ Lo H H5 (llC p ps (bestGo us i).1 ++ [(q, intsO (bestGo us i).2)])) ?_ ?_ ?_
  · exact ⟨ps, none, none, none, rfl, hps, L4.perm (List.perm_append_comm (l₁ := [_]) (l₂ := llC p ps (calledM us)))⟩
  · rintro i σ H5 hi ⟨ps, x3, x4, x6, rfl, hps, L5⟩
    rw [e2] at hi
    obtain ⟨g1, g2⟩ := bestGo_len us i
    obtain ⟨g3, g4⟩ := bestGo_rows us i
    rw [show bestGo us (i + 1) = bestStep (bestGo us i) (us.length - i) from rfl]
    generalize bestGo us i = rn at L5 g1 g2 g3 g4 ⊢
    obtain ⟨rows, needs⟩ := rn
    dsimp only at L5 g1 g2 g3 g4
    have hp5 := L5.get (List.mem_append_left _ List.mem_cons_self)
    have hq5 := L5.get (List.mem_append_right _ List.mem_cons_self)
    have e3 : (((ps.map V.ref).length : Nat) : Int) - 1 - (0 + (i : Int)) = ((us.length - i : Nat) : Int) := by simp; omega
    generalize hj : us.length - i = j at e3 ⊢
    refine q_set (v := .int (j : Nat)) (fun Q' q' => ⟨_, rfl, p, _, rfl, .inl (SqL.of hp5), _, _, rfl, rfl, _, rfl, _, _, rfl, rfl, Vi e3 q'⟩) ?_
    have hj2 : j < us.length + 1 := by omega
    have hpj := get_some (xs := ps) (i := j) (by omega)
    have hrj := get_some (xs := rows) (i := j) (by omega)
    generalize ps[j]'(by omega) = pj at hpj
    generalize rows[j]'(by omega) = row at hrj
    have hrow := L5.get (List.mem_append_left _ (List.mem_cons_of_mem _ (rowsC_get hpj hrj)))
    have gj : rows.getD j [] = row := by simp [hrj]
    have rin : ∀ x ∈ row, 0 ≤ x ∧ x < ((us.length + 1 : Nat) : Int) := g3 row (List.mem_of_getElem? hrj)
    have rlen : row.length ≤ us.length := g4 row (List.mem_of_getElem? hrj)
    -- turn = sorted([(-needs[one], one) for one in rows[person]])
    refine q_setR (R := fun v H' => ∃ z zs, v = .ref z ∧ Lo H H' ((z, .lst zs) :: (llC p ps rows ++ [(q, intsO needs)])) ∧ Prs H' zs (turnM needs row)) (fun Q' q' => ?_) ?_
    · refine ⟨_, rfl, _, rfl, p, _, _, _, rfl, rfl, SqL.of hp5, atI_ref (by omega) (by rw [Int.toNat_natCast]; exact hpj), pj, rfl, ⟨_, SqL.of hrow⟩, fun D hD => ?_⟩
      refine lcY (fun k y C => ∃ t pr, (row.map fun one => (-(needs.getD one.toNat 0), one))[k]? = some pr ∧ y = .ref t ∧ C = [(t, .tup [.int pr.1, .int pr.2])]) (wk_list (SqL.of hrow)) (by simp; omega) hD ?_ ?_ (gN_mono _)
      · rintro k x C H6 s6 ⟨hx, rfl⟩ _ hk Q' kq
        obtain ⟨one, ho, rfl⟩ := mapV_get hx
        obtain ⟨o0, o1⟩ := rin one (List.mem_of_getElem? ho)
        have hn := get_some (xs := needs) (i := one.toNat) (by omega)
        refine ⟨rfl, _, rfl, _, rfl, q, _, one, _, rfl, rfl, SqL.of (s6 _ _ hq5), atI_int o0 hn, _, rfl, _, rfl, by show 2 ≤ sizeLine; decide, fun t ht => ?_⟩
        refine kq _ _ _ ((Lo.nil _).al ht _) ⟨t, (-(needs[one.toNat]'(by omega)), one), ?_, rfl, rfl⟩
        rw [List.getElem?_map, ho]
        simp [hn]
      · intro ys Cs H6 L6 h1 h2 h3
        have P6 := prs_of_cells L6 (prs := row.map fun one => (-(needs.getD one.toNat 0), one)) (by simpa using h1) (by simpa using h2) h3
        refine sorted_prs P6 (SqL.of (L6.get List.mem_cons_self)) fun zs z hzs hz => ?_
        exact q' _ _ ⟨z, zs, rfl, (L5.cs L6.sm).al hz (.lst zs), hzs.same (Same.new hz (.lst zs))⟩
    rintro _ H7 ⟨z, zs, rfl, L7, P7⟩
    have tlen : zs.length = row.length := by rw [P7.len]; simp [turnM, sortP_len]
    have hz7 := L7.get List.mem_cons_self
    have hp7 := L7.get (List.mem_cons_of_mem _ (List.mem_append_left _ List.mem_cons_self))
    -- rows[person] = [one for need, one in turn]
    refine (show tSeq (tAsg _ _) _ _ _ _ from ?_)
    refine ⟨_, rfl, z, rfl, ⟨_, SqL.of hz7⟩, fun D hD => ?_⟩
    refine lcV (((turnM needs row).map (·.2)).map V.int) (by simp; rw [← P7.len]) (wk_list (SqL.of hz7)) (by omega) hD ?_ ?_ (gT2_mono _ _ _)
    · rintro k x C y H8 s8 ⟨hx, rfl⟩ _ hy Q' kq
      obtain ⟨pr, hpr, rfl⟩ : ∃ pr, (turnM needs row)[k]? = some pr ∧ y = .int pr.2 := by
        rw [List.getElem?_map, List.getElem?_map] at hy
        cases e : (turnM needs row)[k]? with
        | none => rw [e] at hy; cases hy
        | some pr => rw [e] at hy; exact ⟨pr, rfl, (Option.some.inj hy).symm⟩
      obtain ⟨t, rfl, ht⟩ := P7.row hx hpr
      exact ⟨t, _, rfl, SqT.of (s8 _ _ ht), rfl, _, _, rfl, _, _, rfl, rfl, rfl, _, rfl, kq H8 (Same.refl _)⟩
    · intro H8 L8
      have L9 := L7.ca L8
      have hp9 := L9.get (List.mem_append_right _ (List.mem_cons_of_mem _ (List.mem_append_left _ List.mem_cons_self)))
      refine ⟨_, rfl, _, rfl, p, _, _, j, rfl, rfl, hp9, ?_, ?_⟩
      · unfold ixN
        rw [if_pos (by omega), if_pos (by simp; omega)]
        simp
      have L10 : Lo H H8 ((D, intsO ((turnM needs row).map (·.2))) :: (llC p ps rows ++ [(q, intsO needs), (z, .lst zs)])) :=
        L9.pk [[(D, intsO ((turnM needs row).map (·.2)))], [(z, .lst zs)], llC p ps rows, [(q, intsO needs)]] [0, 1, 2, 3] [0, 2, 3, 1]
      have L11 := L10.rowR (by omega) (k := j) (by omega)
      have e4 : (ps.map V.ref).set j (.ref D) = (ps.set j D).map V.ref := by rw [List.map_set]
      rw [e4, show HO.lst ((ps.set j D).map V.ref) = refsO (ps.set j D) from rfl]
      have P11 : Prs _ zs (turnM needs row) := (P7.same L8.sm)
      have hP : ∀ {i : Nat} {y : V} {pr : Int × Int}, zs[i]? = some y → (turnM needs row)[i]? = some pr → ∃ t, y = .ref t ∧ upd H8 p (refsO (ps.set j D)) t = some (.tup [.int pr.1, .int pr.2]) := fun {i y pr} e1 e2 => by
        obtain ⟨t, e, ht⟩ := P11.row e1 e2
        exact ⟨t, e, by rw [upd_ne (ne_of ht hp9 (by intro z; cases z))]; exact ht⟩
      have P12 : Prs (upd H8 p (refsO (ps.set j D))) zs (turnM needs row) := ⟨P11.len, hP⟩
      have hz12 := L11.get (List.mem_append_right _ (List.mem_cons_of_mem _ List.mem_cons_self))
      have hq12 := L11.get (List.mem_append_right _ List.mem_cons_self)
      generalize upd H8 p (refsO (ps.set j D)) = H12 at L11 P12 hz12 hq12 ⊢
      -- needs[person] = max([0] + [at + 1 - need for at, (need, one) in enumerate(turn)])
      refine ⟨by show 1 ≤ sizeLine; decide, fun y hy => ?_⟩
      have L13 := L11.al hy (.lst [.int 0])
      have hz13 := L13.get (List.mem_cons_of_mem _ (List.mem_append_right _ (List.mem_cons_of_mem _ List.mem_cons_self)))
      have P13 := P12.same (Same.new hy (.lst [.int 0]))
      refine ⟨_, rfl, z, _, rfl, SqL.of hz13, fun D2 hD2 => ?_⟩
      refine lcV (((turnM needs row).mapIdx fun i p => (i : Int) + 1 - p.1).map V.int) (by simp; rw [← P7.len]) (wk_enum (SqL.of hz13)) (by omega) hD2 ?_ ?_ ?_
      · rintro k x C y H14 s14 ⟨T, w, rfl, hw, rfl⟩ hC hy Q' kq
        obtain ⟨pr, hpr, rfl⟩ : ∃ pr, (turnM needs row)[k]? = some pr ∧ y = .int ((k : Int) + 1 - pr.1) := by
          rw [List.getElem?_map, List.getElem?_mapIdx] at hy
          cases e : (turnM needs row)[k]? with
          | none => rw [e] at hy; cases hy
          | some pr => rw [e] at hy; exact ⟨pr, rfl, (Option.some.inj hy).symm⟩
        obtain ⟨t, rfl, ht⟩ := P13.row hw hpr
        refine ⟨T, _, rfl, SqT.of (hC List.mem_cons_self), rfl, _, _, rfl, _, _, rfl, ⟨t, _, rfl, SqT.of (s14 _ _ ht), rfl, _, _, rfl, _, _, rfl, rfl, rfl, rfl, ?_⟩⟩
        exact ⟨_, rfl, _, _, rfl, rfl, _, rfl, _, _, rfl, rfl, kq H14 (Same.refl _)⟩
      · intro H14 L14
        have L15 := L13.ca L14
        have hy15 := L15.get (List.mem_append_right _ List.mem_cons_self)
        refine ⟨y, D2, _, _, rfl, rfl, hy15, L14.get List.mem_cons_self, by simp; exact sz (by rw [← P7.len]; omega), fun m hm => ?_⟩
        have L16 := L15.al hm (.lst ([V.int 0] ++ ((turnM needs row).mapIdx fun i p => (i : Int) + 1 - p.1).map V.int))
        refine ⟨m, needL (turnM needs row), rfl, SqL.of (L16.get List.mem_cons_self), by simp [needL], fun mx h1 h2 => ?_⟩
        have emx : mx = maxL (needL (turnM needs row)) := maxL_eq h1 h2
        subst emx
        have hq16 := L16.get (List.mem_cons_of_mem _ (List.mem_append_right _ (List.mem_cons_of_mem _ (List.mem_append_right _ List.mem_cons_self))))
        refine ⟨_, rfl, _, rfl, q, _, _, j, rfl, rfl, hq16, ?_, ?_⟩
        · unfold ixN
          rw [if_pos (by omega), if_pos (by simp; omega)]
          simp
        refine ⟨ps.set j D, _, _, _, rfl, by simp [hps], ?_⟩
        have L17 := L16.pk (L' := (q, intsO needs) :: llC p (ps.set j D) (rows.set j ((turnM needs row).map (·.2))))
          [[(m, .lst ([V.int 0] ++ ((turnM needs row).mapIdx fun i p => (i : Int) + 1 - p.1).map V.int))], [(D2, .lst (((turnM needs row).mapIdx fun i p => (i : Int) + 1 - p.1).map V.int))], [(y, .lst [.int 0])], llC p (ps.set j D) (rows.set j ((turnM needs row).map (·.2))), [(q, intsO needs)], [(z, .lst zs)]] [0, 1, 2, 3, 4, 5] [4, 3] [0, 1, 2, 5]
        have L18 := L17.wr0 (intsO (needs.set j (maxL (needL (turnM needs row)))))
        have e5 : (needs.map V.int).set j (.int (maxL (needL (turnM needs row)))) = (needs.set j (maxL (needL (turnM needs row)))).map V.int := by rw [List.map_set]
        rw [e5]
        unfold bestStep
        dsimp only
        rw [gj]
        exact L18.perm (List.perm_append_comm (l₁ := [_]))
      · rintro v σ H Q Q' f ⟨a, xs, e1, e2, e3, v1, r1, e4, v2, r2, e5, ⟨a', xs', e1', e2', e3', v1', r1', e4', v2', r2', e5', e6', q'⟩⟩
        exact ⟨a, xs, e1, e2, e3, v1, r1, e4, v2, r2, e5, ⟨a', xs', e1', e2', e3', v1', r1', e4', v2', r2', e5', e6', q'.1, f _ _ q'.2⟩⟩
  · rintro σ H5 ⟨ps, x3, x4, x6, rfl, hps, L5⟩
    rw [e2] at L5
    refine ⟨_, rfl, _, rfl, by show 2 ≤ sizeLine; decide, fun t ht => ?_⟩
    exact k t p ps q _ (L5.al ht _) hps
end Cc

namespace Cc
open PySem L2
/-! Fewest -/
structure KFewest (K : PySem.W.Frag) (C : Addr) : Prop where
  cl : Cls K C
  nO : NoAttr K C "orders"
  nM : NoAttr K C "marks"
/-- the fields of a Fewest -/
def fewF (p q : Addr) : List (Str × V) := putF "marks" (.ref q) (putF "orders" (.ref p) [])
theorem fewF_orders (p q : Addr) : (fewF p q).lookup ("orders" : Str) = some (.ref p) := by
  unfold fewF
  rw [lookup_putF, if_neg (by decide +kernel), lookup_putF, if_pos rfl]
theorem fewF_marks (p q : Addr) : (fewF p q).lookup ("marks" : Str) = some (.ref q) := by
  unfold fewF
  rw [lookup_putF, if_pos rfl]
theorem fewF_no (p q : Addr) {m : Str} (h1 : ¬ m = "marks") (h2 : ¬ m = "orders") : (fewF p q).lookup m = none := by
  unfold fewF
  rw [lookup_putF, if_neg h1, lookup_putF, if_neg h2]
  rfl
/-- the cells of a Fewest -/
def fewC (C x dx p : Addr) (ps : List Addr) (rows : List (List Int)) (q : Addr) (marks : List Int) : List Cell :=
  (x, .ins C dx (fewF p q)) :: (dx, .own x) :: (llC p ps rows ++ [(q, intsO marks)])
def sp_Fewest___init__ (C : Addr) : Sp := fun vs H Q _ => ∃ (H0 : Hp) (x dx po : Addr) (pso : List Addr) (rows : List (List Int)) (pm : Addr) (marks : List Int),
  vs = [.ref x, .ref po, .ref pm] ∧ Lo H0 H [(x, .ins C dx []), (dx, .own x)] ∧ Rows H0 po pso rows ∧ H0 pm = some (intsO marks) ∧ rows.length ≤ 10000 ∧
  ∀ p ps q H', Lo H0 H' (fewC C x dx p ps rows q marks) → ps.length = rows.length → Q .non H'
def t_Fewest___init__ (K : PySem.W.Frag) : TS :=
  (tSeq (sFld K (tVar 0) (tLc (iList K (tVar 1)) (gName 3) tYes (tCB (qList K) (tCons (tVar 3) tNil)) [3]) "orders")
    (sFld K (tVar 0) (tCB (qList K) (tCons (tVar 2) tNil)) "marks"))
theorem v_Fewest___init__ {K : PySem.W.Frag} {C : Addr} (T : KFewest K C) {vs : List V} {H : Hp} {Q : VK} {E : XK} (h : sp_Fewest___init__ C vs H Q E) : t_Fewest___init__ K (fin Q) (st0 4 vs) H := by
  obtain ⟨H0, x, dx, po, pso, rows, pm, marks, rfl, L, R, hm, hl, k⟩ := h
  refine q_fld (vr_copy (va_var rfl) (R.same L.sm) hl (by show 3 < 4; decide)) ?_
  rintro _ H1 ⟨p, ps, rfl, L1, hps⟩
  have L2 := L.ca L1
  refine ⟨_, rfl, x, C, dx, _, rfl, L2.get (List.mem_append_right _ List.mem_cons_self), T.cl, T.nO, by decide, ?_⟩
  have L3 := (L2.pk (L' := (x, .ins C dx []) :: (dx, .own x) :: llC p ps rows) [llC p ps rows, [(x, .ins C dx [])], [(dx, .own x)]] [0, 1, 2] [1, 2, 0]).wr0 (.ins C dx (putF "orders" (.ref p) []))
  refine s_fld (vr_list (va_var rfl) (SqL.of (L3.same _ _ hm))) ?_
  rintro _ H4 ⟨q, rfl, hq, rfl⟩
  have L4 := L3.al hq (intsO marks)
  refine ⟨_, rfl, x, C, dx, _, rfl, L4.get (List.mem_cons_of_mem _ List.mem_cons_self), T.cl, T.nM, by show 1 < 1000; decide, ?_⟩
  have L5 := (L4.pk (L' := (x, .ins C dx (putF "orders" (.ref p) [])) :: (dx, .own x) :: (llC p ps rows ++ [(q, intsO marks)])) [[(q, intsO marks)], [(x, .ins C dx (putF "orders" (.ref p) []))], [(dx, .own x)], llC p ps rows] [0, 1, 2, 3] [1, 2, 3, 0]).wr0 (.ins C dx (fewF p q))
  exact k p ps q _ L5 hps
/-! fewest -/
def sp_fewest (C : Addr) : Sp := fun vs H Q _ => ∃ (a : Addr) (us : List Int), vs = [.ref a] ∧ H a = some (intsO us) ∧ us.length < 40 ∧ UpsOk us ∧
  ∀ x dx p ps q H', Lo H H' (fewC C x dx p ps (bestM us).1 q (bestM us).2) → ps.length = us.length + 1 → Q (.ref x) H'
theorem bestM_len (us : List Int) : (bestM us).1.length = us.length + 1 ∧ (bestM us).2.length = us.length + 1 := bestGo_len us _
def t_fewest (K : PySem.W.Frag) (C_Fewest : Addr) : TS :=
  (tSeq (tDrop (tCall sp_check_ups [] E0 (tCons (tVar 0) tNil)))
    (tSeq (tAsg (tCall sp_best_orders [] E0 (tCons (tVar 0) tNil)) (gTup K 2 (gCons (gName 1) (gCons (gName 2) gNil))))
    (tRet (tMake C_Fewest (sp_Fewest___init__ C_Fewest) [] E0 (tCons (tVar 1) (tCons (tVar 2) tNil))))))
theorem v_fewest {K : PySem.W.Frag} {C : Addr} {vs : List V} {H : Hp} {Q : VK} {E : XK} (h : sp_fewest C vs H Q E) : t_fewest K C (fin Q) (st0 3 vs) H := by
  obtain ⟨a, us, rfl, ha, hl, hu, k⟩ := h
  refine ⟨_, rfl, a, us, rfl, ha, hl, hu, fun H1 s1 => ?_⟩
  refine ⟨_, rfl, a, us, rfl, s1 _ _ ha, by omega, hu, fun t p ps q H2 L2 hps => ?_⟩
  refine ⟨t, _, rfl, SqT.of (L2.get List.mem_cons_self), rfl, _, _, rfl, _, _, rfl, rfl, ?_⟩
  refine ⟨_, rfl, _, rfl, fun x dx hx hdx hne => ?_⟩
  have L3 := ((Lo.nil H2).al hdx (.own x)).al (p := x) (by rw [upd_ne hne.symm]; exact hx) (.ins C dx [])
  obtain ⟨b1, b2⟩ := bestM_len us
  have R : Rows H2 p ps (bestM us).1 := ⟨L2.get (List.mem_cons_of_mem _ (List.mem_append_left _ List.mem_cons_self)), by omega, fun e1 e2 => L2.get (List.mem_cons_of_mem _ (List.mem_append_left _ (List.mem_cons_of_mem _ (rowsC_get e1 e2))))⟩
  refine ⟨H2, x, dx, p, ps, _, q, _, rfl, L3, R, L2.get (List.mem_cons_of_mem _ (List.mem_append_right _ List.mem_cons_self)), by omega, fun p' ps' q' H4 L4 hps' => ⟨rfl, ?_⟩⟩
  have L5 : Lo H H4 (fewC C x dx p' ps' (bestM us).1 q' (bestM us).2) := by
    have L6 := ((Lo.nil H).cs s1).ca ((Lo.nil H1).ca L2)
    exact (L6.ca L4).sub (List.sublist_append_left _ _)
  exact k x dx p' ps' q' H4 L5 (by omega)
end Cc

namespace Cc
open PySem L2
/-! _law_called -/
def lrowM (us : List Int) (p : Nat) : List Int := (us.mapIdx fun i u => if u = (p : Int) then some ((i : Int) + 1) else none).filterMap id
def lcalledM (us : List Int) : List (List Int) := (List.range (us.length + 1)).map (lrowM us)
theorem lcalledM_len (us : List Int) : (lcalledM us).length = us.length + 1 := by simp [lcalledM]
def sp__law_called : Sp := fun vs H Q _ => ∃ (a : Addr) (us : List Int), vs = [.ref a] ∧ H a = some (intsO us) ∧ us.length ≤ 1000 ∧
  ∀ p ps H', Lo H H' (llC p ps (lcalledM us)) → ps.length = us.length + 1 → Q (.ref p) H'
def t__law_called (K : PySem.W.Frag) : TS :=
  (tRet (tLc (iRng1 (tCons (tOp qAdd (tCB (qLen K) (tCons (tVar 0) tNil)) (tC (.int 1))) tNil)) (gName 1) tYes (tLc (iEnum K (tCons (tVar 0) tNil)) (gTup K 2 (gCons (gName 2) (gCons (gName 3) gNil))) (tTest (tOp rEq (tVar 3) (tVar 1))) (tOp qAdd (tVar 2) (tC (.int 1))) [2, 3]) [1]))
theorem filterMap_opt (f : Int → V) : ∀ l : List (Option Int), (l.map (Option.map f)).filterMap id = (l.filterMap id).map f
  | [] => rfl
  | none :: l => by simpa using filterMap_opt f l
  | some x :: l => by simpa using filterMap_opt f l
theorem v__law_called {K : PySem.W.Frag} {vs : List V} {H : Hp} {Q : VK} {E : XK} (h : sp__law_called vs H Q E) : t__law_called K (fin Q) (st0 4 vs) H := by
  obtain ⟨a, us, rfl, ha, hl, k⟩ := h
  have e1 : (((us.map V.int).length : Int) + 1).toNat = us.length + 1 := by simp
  refine ⟨_, rfl, a, _, rfl, .inl (SqL.of ha), _, _, rfl, rfl, _, rfl, by omega, by simp; omega, fun D hD => ?_⟩
  refine lcY (fun i y C => ∃ q r, (lcalledM us)[i]? = some r ∧ y = .ref q ∧ C = [(q, intsO r)]) wk_range (by simp; omega) hD ?_ ?_ (gN_mono _)
  · rintro i x C H1 s1 ⟨rfl, rfl⟩ _ hi Q' kq
    rw [e1] at hi
    refine ⟨rfl, _, rfl, a, _, rfl, SqL.of (s1 _ _ ha), fun D2 hD2 => ?_⟩
    refine lcT ((us.mapIdx fun j u => if u = (i : Int) then some ((j : Int) + 1) else none).map (Option.map V.int)) (by simp) (wk_enum (SqL.of (s1 _ _ ha))) (by simp; omega) hD2 ?_ ?_ (gT2_mono _ _ _) ?_
    · rintro j x C z H2 s2 ⟨T, y, rfl, hy, rfl⟩ hC hz Nx kn
      obtain ⟨u, hu, rfl⟩ := mapV_get hy
      rw [List.getElem?_map, List.getElem?_mapIdx, hu] at hz
      have hz : Option.map V.int (if u = (i : Int) then some ((j : Int) + 1) else none) = z := Option.some.inj hz
      refine ⟨T, _, rfl, SqT.of (hC List.mem_cons_self), rfl, _, _, rfl, _, _, rfl, rfl, rfl, ?_⟩
      refine ⟨_, rfl, _, rfl, rfl, _, rfl, ?_⟩
      have e0 : ((0 : Int) + (i : Int)) = (i : Int) := by omega
      by_cases hui : u = (i : Int)
      · rw [if_pos hui] at hz
        subst hz
        rw [e0, hui, decide_eq_true rfl]
        refine iteT ?_
        exact ⟨_, rfl, _, _, rfl, rfl, kn _ (Same.refl _)⟩
      · rw [if_neg hui] at hz
        subst hz
        rw [e0, decide_eq_false (fun e => hui (V.int.inj e))]
        refine iteF ?_
        exact kn _ (Same.refl _)
    · intro H2 L2
      refine kq _ _ _ L2 ⟨D2, lrowM us i, ?_, rfl, ?_⟩
      · unfold lcalledM
        rw [List.getElem?_map, List.getElem?_range hi]
        rfl
      · rw [filterMap_opt]
        rfl
    · rintro σ H Q Q' f ⟨v, e1, w, e2, e3, b, e4, q⟩
      exact ⟨v, e1, w, e2, e3, b, e4, f _ _ q⟩
  · intro ys Cs H1 L1 h1 h2 h3
    rw [e1] at h1 h2
    obtain ⟨ps, g1, g2, g3⟩ := rows_of_cells (rows := lcalledM us) (by rw [lcalledM_len]; exact h1) (by rw [lcalledM_len]; exact h2) h3
    subst g2
    rw [g3] at L1
    exact k D ps H1 L1 (by rw [g1, lcalledM_len])
end Cc

namespace Cc
open PySem L2
/-! _law_last -/
/-- each of those calls its next one, in turn -/
def popAll : List Int → List (List Int) → List Int × List (List Int)
  | [], rows => ([], rows)
  | p :: ps, rows => match rows.getD p.toNat [] with
    | [] => popAll ps rows
    | x :: r => (x :: (popAll ps (rows.set p.toNat r)).1, (popAll ps (rows.set p.toNat r)).2)
def lastGo (n : Nat) : Nat → List Int → List (List Int) → Int → Int
  | 0, _, _, rounds => rounds
  | f + 1, knows, rows, rounds => if knows.length < n then (if (popAll knows rows).1 = [] then -1 else lastGo n f (knows ++ (popAll knows rows).1) (popAll knows rows).2 (rounds + 1)) else rounds
def lastM (rows : List (List Int)) : Int := lastGo rows.length (rows.length + 1) [0] rows 0
def sp__law_last : Sp := fun vs H Q _ => ∃ (p : Addr) (ps : List Addr) (rows : List (List Int)), vs = [.ref p] ∧ Rows H p ps rows ∧ 1 ≤ rows.length ∧ rows.length ≤ 1000 ∧ RowsIn rows.length rows ∧
  ∀ H', Same H H' → Q (.int (lastM rows)) H'
def t__law_last (K : PySem.W.Frag) : TS :=
(tSeq (tAsg (tTup (tCons (tLst (tCons (tC (.int 0)) tNil)) (tCons (tLc (iList K (tVar 0)) (gName 1) tYes (tCB (qList K) (tCons (tVar 1) tNil)) [1]) (tCons (tC (.int 0)) tNil)))) (gTup K 3 (gCons (gName 2) (gCons (gName 3) (gCons (gName 4) gNil)))))
    (tSeq (tWhile (tTest (tOp qLt (tCB (qLen K) (tCons (tVar 2) tNil)) (tCB (qLen K) (tCons (tVar 0) tNil))))
    (tSeq (tAsg (tLc (iList K (tVar 2)) (gName 5) (tTest (tOp (rNeD K) (tOp (rIxL K) (tVar 3) (tVar 5)) (tLst tNil))) (tBM K "list" rPopAt (tOp (rIxL K) (tVar 3) (tVar 5)) (tCons (tC (.int 0)) tNil)) [5]) (gName 6))
      (tSeq (tIfS (tTest (tOp (rEqD K) (tVar 6) (tLst tNil)))
      (tRet (tUn qNeg (tC (.int 1))))
      tNext)
      (tPar 2 4 (tCons (tOp rCat (tVar 2) (tVar 6)) (tCons (tOp qAdd (tVar 4) (tC (.int 1))) tNil))))))
    (tRet (tVar 4))))
theorem popAll_snoc : ∀ (ps : List Int) (p : Int) (rows : List (List Int)), popAll (ps ++ [p]) rows =
    (match (popAll ps rows).2.getD p.toNat [] with
    | [] => popAll ps rows
    | x :: r => ((popAll ps rows).1 ++ [x], (popAll ps rows).2.set p.toNat r))
  | [], p, rows => by
    show popAll [p] rows = _
    unfold popAll
    cases rows.getD p.toNat [] <;> rfl
  | q :: ps, p, rows => by
    show popAll (q :: (ps ++ [p])) rows = _
    rw [popAll, popAll]
    cases e : rows.getD q.toNat [] with
    | nil => exact popAll_snoc ps p rows
    | cons x r =>
      dsimp only
      rw [popAll_snoc ps p]
      cases (popAll ps (rows.set q.toNat r)).2.getD p.toNat [] <;> rfl
theorem popAll_len : ∀ (ps : List Int) (rows : List (List Int)), (popAll ps rows).2.length = rows.length
  | [], rows => rfl
  | p :: ps, rows => by
    rw [popAll]
    cases rows.getD p.toNat [] with
    | nil => exact popAll_len ps rows
    | cons x r => dsimp only; rw [popAll_len, List.length_set]
theorem popAll_in {n : Nat} : ∀ (ps : List Int) (rows : List (List Int)), RowsIn n rows → RowsIn n (popAll ps rows).2 ∧ ∀ x ∈ (popAll ps rows).1, 0 ≤ x ∧ x < n
  | [], rows, h => ⟨h, fun x hx => by cases hx⟩
  | p :: ps, rows, h => by
    rw [popAll]
    cases e : rows.getD p.toNat [] with
    | nil => exact popAll_in ps rows h
    | cons x r =>
      have hr : ∀ y ∈ x :: r, 0 ≤ y ∧ y < (n : Int) := by
        rw [← e]
        exact getD_mem (P := fun r => ∀ x ∈ r, 0 ≤ x ∧ x < (n : Int)) h (by simp)
      have h2 : RowsIn n (rows.set p.toNat r) := fun s hs => by
        rcases List.mem_or_eq_of_mem_set hs with hs | hs
        · exact h s hs
        · subst hs; exact fun y hy => hr y (List.mem_cons_of_mem _ hy)
      obtain ⟨g1, g2⟩ := popAll_in ps _ h2
      refine ⟨g1, fun y hy => ?_⟩
      rcases List.mem_cons.mp hy with rfl | hy
      · exact hr _ List.mem_cons_self
      · exact g2 y hy
theorem popAll_row : ∀ (ps : List Int) (rows : List (List Int)), (popAll ps rows).1.length ≤ ps.length
  | [], rows => Nat.le_refl _
  | p :: ps, rows => by
    rw [popAll]
    cases rows.getD p.toNat [] with
    | nil => exact Nat.le_succ_of_le (popAll_row ps rows)
    | cons x r => simp; exact popAll_row ps _
theorem v__law_last {K : PySem.W.Frag} {vs : List V} {H : Hp} {Q : VK} {E : XK} (h : sp__law_last vs H Q E) : t__law_last K (fin Q) (st0 7 vs) H := by
  obtain ⟨po, pso, rows0, rfl, R, n1, n2, rin0, k⟩ := h
  generalize hn : rows0.length = n at n1 n2 rin0
  refine ⟨by show 1 ≤ sizeLine; decide, fun kn hkn => ?_⟩
  have L1 := (Lo.nil H).al hkn (intsO [0])
  refine c_cons (vr_copy (va_var rfl) (R.same L1.sm) (by omega) (by show 1 < 7; decide)) ?_
  rintro _ H2 ⟨pr, ps, rfl, L2, hps⟩
  have L3 := L1.ca L2
  refine ⟨by show 3 ≤ sizeLine; decide, fun t ht => ?_⟩
  have L4 := L3.ju ht (.tup [.ref kn, .ref pr, .int 0])
  refine ⟨t, _, rfl, SqT.of upd_same, rfl, _, _, rfl, _, _, rfl, _, _, rfl, rfl, ?_⟩
  refine q_whN (fun m σ H' => ∃ kn knows rows rounds x6 f, σ = [some (.ref po), none, some (.ref kn), some (.ref pr), some (.int rounds), none, x6] ∧ Lo H H' (llC pr ps rows ++ [(kn, intsO knows)]) ∧
    rows.length = n ∧ RowsIn n rows ∧ (∀ x ∈ knows, 0 ≤ x ∧ x < (n : Int)) ∧ knows.length ≤ 2 * n ∧ m = n - knows.length ∧ m < f ∧ lastM rows0 = lastGo n f knows rows rounds) (n - 1) ?_ ?_ ?_
  · refine ⟨kn, [0], rows0, 0, none, n + 1, rfl, L4, hn, rin0, fun x hx => ?_, by simp; omega, rfl, by omega, ?_⟩
    · simp at hx; subst hx; omega
    · unfold lastM; rw [hn]
  · rintro m σ H' ⟨kn, knows, rows, rounds, x6, f, rfl, L, hrl, rin, kin, kl, rfl, hf, hM⟩
    have hkn := L.get (List.mem_append_right _ List.mem_cons_self)
    refine ⟨_, rfl, kn, _, rfl, .inl (SqL.of hkn), _, rfl, po, _, rfl, .inl (SqL.of (L.same _ _ R.top)), _, _, rfl, rfl, _, rfl, ?_⟩
    have hlen : pso.length = n := by rw [R.len]; exact hn
    obtain ⟨f, rfl⟩ : ∃ g, f = g + 1 := ⟨f - 1, by omega⟩
    rw [lastGo] at hM
    refine ite2 (fun e => ?_) (fun e => ?_)
    · have e : knows.length < n := by simp [hlen] at e; exact e
      rw [if_pos e] at hM
      refine q_setR (R := fun v H'' => ∃ d, v = .ref d ∧ Lo H H'' ((d, intsO (popAll knows rows).1) :: (llC pr ps (popAll knows rows).2 ++ [(kn, intsO knows)]))) (fun Q' q' => ?_) ?_
      · refine ⟨_, rfl, kn, rfl, ⟨_, SqL.of hkn⟩, fun D hD => ?_⟩
        refine lc_list (xs := knows.map V.int) (fun i H1 => Lo H H1 ((D, intsO (popAll (knows.take i) rows).1) :: (llC pr ps (popAll (knows.take i) rows).2 ++ [(kn, intsO knows)]))) (L.al hD _) ?_ ?_ ?_
        · exact fun i H1 _ L1 => SqL.of (L1.get (List.mem_cons_of_mem _ (List.mem_append_right _ List.mem_cons_self)))
        · intro i x H1 hx L1
          obtain ⟨p, hp, rfl⟩ := mapV_get hx
          obtain ⟨p0, p1⟩ := kin p (List.mem_of_getElem? hp)
          have et : knows.take (i + 1) = knows.take i ++ [p] := by rw [List.take_add_one, hp]; rfl
          have hsn := popAll_snoc (knows.take i) p rows
          rw [← et] at hsn
          have hl1 := popAll_len (knows.take i) rows
          have hl2 := popAll_row (knows.take i) rows
          rw [hsn]
          generalize popAll (knows.take i) rows = tr at L1 hl1 hl2 ⊢
          obtain ⟨told, rows1⟩ := tr
          dsimp only at L1 hl1 hl2 ⊢
          have hq := get_some (xs := ps) (i := p.toNat) (by omega)
          have hr := get_some (xs := rows1) (i := p.toNat) (by omega)
          generalize ps[p.toNat]'(by omega) = q at hq
          generalize rows1[p.toNat]'(by omega) = row at hr
          have gr : rows1.getD p.toNat [] = row := by simp [hr]
          rw [gr]
          have hpr := L1.get (List.mem_cons_of_mem _ (List.mem_append_left _ List.mem_cons_self))
          refine ⟨rfl, _, rfl, _, rfl, pr, _, p, .ref q, rfl, rfl, SqL.of hpr, atI_ref p0 hq, by show 0 ≤ sizeLine; decide, fun z hz => ?_⟩
          have L2 := L1.ju hz (.lst [])
          have hq2 := L2.get (List.mem_cons_of_mem _ (List.mem_append_left _ (List.mem_cons_of_mem _ (rowsC_get hq hr))))
          have hpr2 := L2.get (List.mem_cons_of_mem _ (List.mem_append_left _ List.mem_cons_self))
          refine ⟨_, _, dp_I hq2, .lst (SqL.of upd_same) .nil, shI row, shI [], _, rfl, ?_⟩
          rw [eqv_I_nil]
          cases row with
          | nil =>
            rw [decide_eq_true rfl]
            refine iteF ?_
            exact L2
          | cons x r =>
            rw [decide_eq_false (by simp)]
            refine iteT ?_
            refine ⟨_, rfl, _, rfl, pr, _, p, .ref q, rfl, rfl, SqL.of hpr2, atI_ref p0 hq, .inl ⟨rfl, _, SqL.of hq2⟩, q, _, 0, 0, .int x, rfl, rfl, hq2, by decide, by decide, ?_, rfl, ?_⟩
            · unfold seqIndex?
              simp
            have L3 : Lo H _ ([(D, intsO told)] ++ (llC pr ps (rows1.set p.toNat r) ++ [(kn, intsO knows)])) := Lo.rowW (A := [(D, intsO told)]) (B := [(kn, intsO knows)]) L2 hq hr r
            refine ⟨_, L3.get List.mem_cons_self, szl (by simp at hl2 ⊢; omega), ?_⟩
            rw [map_int_snoc]
            exact L3.wr0 _
        · intro H1 L1
          rw [List.length_map, List.take_length] at L1
          exact q' _ _ ⟨D, rfl, L1⟩
      rintro _ H1 ⟨d, rfl, L1⟩
      have hd1 := L1.get List.mem_cons_self
      obtain ⟨pin1, pin2⟩ := popAll_in (n := n) knows rows rin
      have plen := popAll_len knows rows
      have prow := popAll_row knows rows
      generalize popAll knows rows = tr at L1 hd1 pin1 pin2 plen prow hM
      obtain ⟨told, rows1⟩ := tr
      dsimp only at L1 hd1 pin1 pin2 plen prow hM
      refine q_if (b := decide (told = [])) (fun Q' q' => ?_) ?_ ?_
      · refine ⟨_, rfl, by show 0 ≤ sizeLine; decide, fun z hz => ⟨_, _, dp_I (Same.new hz (.lst []) _ _ hd1), .lst (SqL.of upd_same) .nil, shI told, shI [], _, rfl, ?_⟩⟩
        rw [eqv_I_nil]
        exact q' _ (Same.new hz _)
      · intro ht H2 s2
        rw [if_pos (of_decide_eq_true ht)] at hM
        have kk := k H2 (L1.cs s2).sm
        rw [hM] at kk
        exact ⟨1, rfl, kk⟩
      · intro ht H2 s2
        have ht : ¬ told = [] := of_decide_eq_false ht
        rw [if_neg ht] at hM
        have L2 := L1.cs s2
        have tl : 0 < told.length := List.length_pos_iff.mpr ht
        refine ⟨_, rfl, _, rfl, kn, d, _, _, rfl, rfl, L2.get (List.mem_cons_of_mem _ (List.mem_append_right _ List.mem_cons_self)), L2.get List.mem_cons_self, by simp; exact sz (by omega), fun kn2 hkn2 => ?_⟩
        have L3 := L2.al hkn2 (intsO (knows ++ told))
        rw [← List.map_append]
        refine ⟨_, rfl, _, _, rfl, rfl, _, _, rfl, ?_⟩
        refine ⟨n - (knows ++ told).length, by simp; omega, kn2, knows ++ told, rows1, rounds + 1, _, f, rfl, ?_, by omega, pin1, fun x hx => ?_, by simp; omega, rfl, by simp; omega, hM⟩
        · exact L3.pk [[(kn2, intsO (knows ++ told))], [(d, intsO told)], llC pr ps rows1, [(kn, intsO knows)]] [0, 1, 2, 3] [2, 0] [1, 3]
        · rcases List.mem_append.mp hx with hx | hx
          · exact kin x hx
          · exact pin2 x hx
    · have e : ¬ knows.length < n := by simp [hlen] at e; omega
      rw [if_neg e] at hM
      refine ⟨_, rfl, ?_⟩
      rw [← hM]
      exact k H' L.sm
  · rintro σ H Q Q' f ⟨v, e1, p, ys, e2, h1, w, e3, p', ys', e4, h2, i, j, e5, e6, b, e7, q⟩
    exact ⟨v, e1, p, ys, e2, h1, w, e3, p', ys', e4, h2, i, j, e5, e6, b, e7, f _ _ q⟩
end Cc

namespace Cc
/-! ups and their trees: plain mathematics -/
theorem fmap_congr {α β : Type} {f g : α → Option β} : ∀ {l : List α}, (∀ x ∈ l, f x = g x) → l.filterMap f = l.filterMap g
  | [], _ => rfl
  | x :: l, h => by rw [List.filterMap_cons, List.filterMap_cons, h x List.mem_cons_self, fmap_congr fun y hy => h y (List.mem_cons_of_mem _ hy)]
theorem nodup_le {α : Type} [DecidableEq α] : ∀ {l m : List α}, l.Nodup → (∀ x ∈ l, x ∈ m) → l.length ≤ m.length
  | [], _, _, _ => Nat.zero_le _
  | x :: l, m, h, hs => by
    rw [List.nodup_cons] at h
    have hx := hs x List.mem_cons_self
    have := nodup_le (l := l) (m := m.erase x) h.2 fun y hy => (List.mem_erase_of_ne (show y ≠ x from fun e => h.1 (by rw [← e]; exact hy))).mpr (hs y (List.mem_cons_of_mem _ hy))
    rw [List.length_erase_of_mem hx] at this
    have : 0 < m.length := List.length_pos_of_mem hx
    simp; omega
theorem nodup_full {α : Type} [DecidableEq α] {l m : List α} (h : l.Nodup) (hs : ∀ x ∈ l, x ∈ m) (hl : m.length ≤ l.length) : ∀ x ∈ m, x ∈ l := fun x hx => by
  refine Decidable.byContradiction fun hn => ?_
  have := nodup_le (l := x :: l) (m := m) (List.nodup_cons.mpr ⟨hn, h⟩) fun y hy => by
    rcases List.mem_cons.mp hy with rfl | hy
    · exact hx
    · exact hs y hy
  simp at this; omega
/-- the people, as numbers -/
def people (n : Nat) : List Int := (List.range n).map fun k : Nat => (k : Int)
theorem people_len (n : Nat) : (people n).length = n := by simp [people]
theorem people_mem {n : Nat} {x : Int} : x ∈ people n ↔ ∃ k : Nat, k < n ∧ x = (k : Int) := by
  unfold people
  rw [List.mem_map]
  constructor
  · rintro ⟨k, hk, rfl⟩; exact ⟨k, List.mem_range.mp hk, rfl⟩
  · rintro ⟨k, hk, rfl⟩; exact ⟨k, List.mem_range.mpr hk, rfl⟩
theorem people_sorted (n : Nat) : (people n).Pairwise (· < ·) := by
  unfold people
  rw [List.pairwise_map]
  exact List.pairwise_lt_range.imp fun h => by omega
theorem people_nodup (n : Nat) : (people n).Nodup := (people_sorted n).imp fun h => by omega
theorem mapIdx_snoc {α β : Type} (f : Nat → α → β) (l : List α) (x : α) : (l ++ [x]).mapIdx f = l.mapIdx f ++ [f l.length x] := by simp
theorem lrowM_snoc (us : List Int) (u : Int) (p : Nat) : lrowM (us ++ [u]) p = lrowM us p ++ (if u = (p : Int) then [(us.length : Int) + 1] else []) := by
  unfold lrowM
  rw [mapIdx_snoc, List.filterMap_append]
  by_cases h : u = (p : Int)
  · rw [if_pos h, if_pos h]; rfl
  · rw [if_neg h, if_neg h]; rfl
theorem calGo_eq (N : Nat) : ∀ us : List Int, (∀ u ∈ us, 0 ≤ u ∧ u < (N : Int)) → calGo 0 us (List.replicate N []) = (List.range N).map (lrowM us) := by
  have key : ∀ (l us : List Int), us = l.reverse → (∀ u ∈ us, 0 ≤ u ∧ u < (N : Int)) → calGo 0 us (List.replicate N []) = (List.range N).map (lrowM us) := by
    intro l
    induction l with
    | nil =>
      intro us e _
      subst e
      show List.replicate N [] = _
      refine List.ext_getElem? fun i => ?_
      rw [List.getElem?_map]
      by_cases hi : i < N
      · rw [List.getElem?_range hi, List.getElem?_replicate, if_pos hi]; rfl
      · rw [List.getElem?_eq_none (by simp; omega), List.getElem?_eq_none (by simp; omega)]; rfl
    | cons u l ih =>
      intro us e h
      rw [List.reverse_cons] at e
      subst e
      rw [calGo_snoc, ih _ rfl fun v hv => h v (List.mem_append_left _ hv)]
      obtain ⟨h0, h1⟩ := h u (List.mem_append_right _ List.mem_cons_self)
      unfold calStep
      refine List.ext_getElem? fun i => ?_
      rw [List.getElem?_set, List.getElem?_map]
      by_cases hi : i < N
      · rw [List.getElem?_map, List.getElem?_range hi]
        by_cases hu : u.toNat = i
        · rw [if_pos hu, if_pos (by simp; omega)]
          have : u = (i : Int) := by omega
          show _ = some (lrowM (l.reverse ++ [u]) i)
          rw [lrowM_snoc, if_pos this, hu]
          congr 2
          · simp [hi]
          · simp
        · rw [if_neg hu]
          have : ¬ u = (i : Int) := by omega
          show some (lrowM l.reverse i) = some (lrowM (l.reverse ++ [u]) i)
          rw [lrowM_snoc, if_neg this, List.append_nil]
      · rw [List.getElem?_eq_none (l := List.range N) (by simp; omega), List.getElem?_eq_none (l := List.map _ _) (by simp; omega)]
        split
        · rename_i hu; rw [if_neg (by simp; omega)]
        · rfl
  exact fun us => key us.reverse us (by simp)
theorem UpsOk.lt {us : List Int} (h : UpsOk us) : ∀ u ∈ us, 0 ≤ u ∧ u < ((us.length + 1 : Nat) : Int) := fun u hu => by
  obtain ⟨i, hi, rfl⟩ := List.mem_iff_getElem.mp hu
  have := h i _ (get_some hi)
  omega
theorem calledM_eq {us : List Int} (h : UpsOk us) : calledM us = lcalledM us := calGo_eq (us.length + 1) us h.lt
theorem lrowM_mem {us : List Int} {p : Nat} {x : Int} : x ∈ lrowM us p ↔ ∃ i : Nat, us[i]? = some (p : Int) ∧ x = (i : Int) + 1 := by
  unfold lrowM
  rw [List.mem_filterMap]
  constructor
  · rintro ⟨y, hy, e⟩
    obtain ⟨i, hi, e2⟩ := List.mem_mapIdx.mp hy
    have e : y = some x := e
    rw [e] at e2
    split at e2
    · rename_i hu
      refine ⟨i, ?_, (Option.some.inj e2).symm⟩
      rw [get_some hi, hu]
    · cases e2
  · rintro ⟨i, hi, rfl⟩
    refine ⟨some ((i : Int) + 1), List.mem_mapIdx.mpr ⟨i, lt_of_get hi, ?_⟩, rfl⟩
    have : us[i]'(lt_of_get hi) = (p : Int) := by
      rw [get_some (lt_of_get hi)] at hi
      exact Option.some.inj hi
    rw [if_pos this]
theorem lrowM_sorted (us : List Int) (p : Nat) : (lrowM us p).Pairwise (· < ·) := by
  have key : ∀ (l us : List Int), us = l.reverse → (lrowM us p).Pairwise (· < ·) := by
    intro l
    induction l with
    | nil => intro us e; subst e; exact List.Pairwise.nil
    | cons u l ih =>
      intro us e
      rw [List.reverse_cons] at e
      subst e
      rw [lrowM_snoc, List.pairwise_append]
      refine ⟨ih _ rfl, by split <;> simp, fun a ha b hb => ?_⟩
      split at hb
      · simp at hb
        subst hb
        obtain ⟨i, hi, rfl⟩ := lrowM_mem.mp ha
        have := lt_of_get hi
        simp at this
        omega
      · cases hb
  exact key us.reverse us (by simp)
/-- rows are those of ups, in some turn each -/
def TreeOf (us : List Int) (rows : List (List Int)) : Prop := rows.map sortI = lcalledM us
theorem TreeOf.len {us : List Int} {rows : List (List Int)} (h : TreeOf us rows) : rows.length = us.length + 1 := by
  have := congrArg List.length h
  rwa [List.length_map, lcalledM_len] at this
theorem TreeOf.row {us : List Int} {rows : List (List Int)} (h : TreeOf us rows) {p : Nat} {r : List Int} (hr : rows[p]? = some r) : sortI r = lrowM us p := by
  have hp := lt_of_get hr
  have e : (rows.map sortI)[p]? = (lcalledM us)[p]? := by rw [h]
  rw [List.getElem?_map, hr, lcalledM, List.getElem?_map, List.getElem?_range (by rw [← h.len]; exact hp)] at e
  exact Option.some.inj e
theorem TreeOf.mem {us : List Int} {rows : List (List Int)} (h : TreeOf us rows) {p : Nat} {r : List Int} (hr : rows[p]? = some r) {x : Int} : x ∈ r ↔ ∃ i : Nat, us[i]? = some (p : Int) ∧ x = (i : Int) + 1 := by
  rw [← lrowM_mem, ← h.row hr]
  exact ((sortI_perm r).mem_iff).symm
theorem TreeOf.nodup {us : List Int} {rows : List (List Int)} (h : TreeOf us rows) {p : Nat} {r : List Int} (hr : rows[p]? = some r) : r.Nodup := by
  have : (sortI r).Nodup := by
    rw [h.row hr]
    exact (lrowM_sorted us p).imp fun h => by omega
  exact (sortI_perm r).nodup_iff.mp this
theorem TreeOf.rowsIn {us : List Int} {rows : List (List Int)} (h : TreeOf us rows) : RowsIn (us.length + 1) rows := fun r hr x hx => by
  obtain ⟨p, hp, rfl⟩ := List.mem_iff_getElem.mp hr
  obtain ⟨i, hi, rfl⟩ := (h.mem (get_some hp)).mp hx
  have := lt_of_get hi
  omega
/-- when each one is told -/
def tms (us : List Int) (rows : List (List Int)) : Nat → List Int
  | 0 => [0]
  | k + 1 => tms us rows k ++ [(tms us rows k).getD (us.getD k 0).toNat 0 + ((rows.getD (us.getD k 0).toNat []).idxOf ((k : Int) + 1) : Nat) + 1]
def tm (us : List Int) (rows : List (List Int)) (k : Nat) : Int := (tms us rows us.length).getD k 0
theorem tms_len (us : List Int) (rows : List (List Int)) : ∀ k, (tms us rows k).length = k + 1
  | 0 => rfl
  | k + 1 => by rw [tms, List.length_append, tms_len]; rfl
theorem tms_get (us : List Int) (rows : List (List Int)) {i : Nat} : ∀ {k m : Nat}, i ≤ k → k ≤ m → (tms us rows m).getD i 0 = (tms us rows k).getD i 0 := by
  intro k m hi hk
  induction m with
  | zero => have : k = 0 := by omega
            subst this; rfl
  | succ m ih =>
    by_cases e : k = m + 1
    · subst e; rfl
    · rw [tms, ← ih (by omega)]
      simp only [List.getD_eq_getElem?_getD]
      rw [List.getElem?_append_left (by rw [tms_len]; omega)]
theorem tm_zero (us : List Int) (rows : List (List Int)) : tm us rows 0 = 0 := by
  unfold tm
  rw [tms_get us rows (k := 0) (Nat.le_refl _) (Nat.zero_le _)]
  rfl
theorem tm_succ {us : List Int} (hu : UpsOk us) (rows : List (List Int)) {k p : Nat} (hk : us[k]? = some (p : Int)) : tm us rows (k + 1) = tm us rows p + ((rows.getD p []).idxOf ((k : Int) + 1) : Nat) + 1 := by
  have hl := lt_of_get hk
  have hp : p ≤ k := by have := hu k _ hk; omega
  unfold tm
  rw [tms_get us rows (k := k + 1) (Nat.le_refl _) hl, tms_get us rows (k := k) hp (by omega), tms]
  have e : us.getD k 0 = (p : Int) := by simp [hk]
  rw [e, Int.toNat_natCast]
  simp only [List.getD_eq_getElem?_getD]
  rw [List.getElem?_append_right (by rw [tms_len]; omega), tms_len]
  simp
theorem tm_nonneg {us : List Int} (hu : UpsOk us) (rows : List (List Int)) : ∀ k, k ≤ us.length → 0 ≤ tm us rows k := by
  intro k
  induction k using Nat.strongRecOn with
  | _ k ih =>
    intro hk
    cases k with
    | zero => rw [tm_zero]; decide
    | succ k =>
      have e := get_some (xs := us) (i := k) (by omega)
      obtain ⟨h0, h1⟩ := hu k _ e
      generalize us[k]'(by omega) = u at e h0 h1
      obtain ⟨p, rfl⟩ : ∃ p : Nat, u = (p : Int) := ⟨u.toNat, by omega⟩
      rw [tm_succ hu rows e]
      have := ih p (by omega) (by omega)
      omega
/-- the child that stands at place i of p's row is told i + 1 rounds behind p -/
theorem tm_child {us : List Int} (hu : UpsOk us) {rows : List (List Int)} (ht : TreeOf us rows) {p i : Nat} {r : List Int} {x : Int} (hr : rows[p]? = some r) (hx : r[i]? = some x) :
    ∃ k : Nat, x = (k : Int) + 1 ∧ us[k]? = some (p : Int) ∧ tm us rows (k + 1) = tm us rows p + i + 1 := by
  obtain ⟨k, hk, rfl⟩ := (ht.mem hr).mp (List.mem_of_getElem? hx)
  refine ⟨k, rfl, hk, ?_⟩
  rw [tm_succ hu rows hk]
  have e : rows.getD p [] = r := by simp [hr]
  have hi := lt_of_get hx
  have e2 : r.idxOf ((k : Int) + 1) = i := by
    have e3 : r[i]'hi = (k : Int) + 1 := by rw [get_some hi] at hx; exact Option.some.inj hx
    rw [← e3]
    exact (ht.nodup hr).idxOf_getElem _ _
  rw [e, e2]
/-! the walk, round by round -/
/-- what each has still to call behind t rounds -/
def rowsAt (us : List Int) (rows : List (List Int)) (t : Nat) : List (List Int) := rows.mapIdx fun p r => if tm us rows p ≤ (t : Int) then r.drop ((t : Int) - tm us rows p).toNat else r
/-- popAll over different people, each by itself -/
theorem popAll_eq : ∀ (ps : List Int) (rows : List (List Int)), ps.Nodup → (∀ p ∈ ps, 0 ≤ p) →
    (popAll ps rows).1 = ps.filterMap (fun p => (rows.getD p.toNat []).head?) ∧ ∀ i : Nat, (popAll ps rows).2[i]? = if (i : Int) ∈ ps then (rows[i]?).map List.tail else rows[i]?
  | [], rows, _, _ => ⟨rfl, fun i => by simp [popAll]⟩
  | p :: ps, rows, hn, h0 => by
    rw [List.nodup_cons] at hn
    have hp0 := h0 p List.mem_cons_self
    have h0' : ∀ q ∈ ps, 0 ≤ q := fun q hq => h0 q (List.mem_cons_of_mem _ hq)
    rw [popAll]
    cases e : rows.getD p.toNat [] with
    | nil =>
      obtain ⟨g1, g2⟩ := popAll_eq ps rows hn.2 h0'
      dsimp only
      refine ⟨?_, fun i => ?_⟩
      · rw [g1, List.filterMap_cons, e]; rfl
      · rw [g2 i]
        by_cases hi : (i : Int) ∈ ps
        · rw [if_pos hi, if_pos (List.mem_cons_of_mem _ hi)]
        · rw [if_neg hi]
          by_cases hip : (i : Int) = p
          · rw [if_pos (by rw [hip]; exact List.mem_cons_self)]
            have : p.toNat = i := by omega
            rw [this] at e
            cases e2 : rows[i]? with
            | none => rfl
            | some r =>
              have : r = [] := by simpa [List.getD, e2] using e
              subst this; rfl
          · rw [if_neg (by simp [hip, hi])]
    | cons x r =>
      obtain ⟨g1, g2⟩ := popAll_eq ps (rows.set p.toNat r) hn.2 h0'
      dsimp only
      refine ⟨?_, fun i => ?_⟩
      · rw [g1, List.filterMap_cons, e]
        show x :: _ = x :: _
        congr 1
        refine fmap_congr fun q hq => ?_
        have hne : ¬ p.toNat = q.toNat := fun e => hn.1 (by
          have := h0' q hq
          have : p = q := by omega
          rw [this]; exact hq)
        simp only [List.getD_eq_getElem?_getD]
        rw [List.getElem?_set_ne hne]
      · rw [g2 i, List.getElem?_set]
        by_cases hpi : p.toNat = i
        · have hip : (i : Int) = p := by omega
          have hni : ¬ (i : Int) ∈ ps := by rw [hip]; exact hn.1
          rw [if_neg hni, if_pos hpi, if_pos (show (i : Int) ∈ p :: ps from hip ▸ List.mem_cons_self)]
          rw [hpi] at e ⊢
          have hl : i < rows.length := by
            refine Nat.lt_of_not_le fun hle => ?_
            rw [List.getD_eq_getElem?_getD, List.getElem?_eq_none hle] at e
            cases e
          rw [if_pos hl]
          have : rows[i]? = some (x :: r) := by
            rw [get_some hl]
            rw [List.getD_eq_getElem?_getD, get_some hl] at e
            exact congrArg some e
          rw [this]; rfl
        · have hip : ¬ (i : Int) = p := by omega
          rw [if_neg hpi]
          by_cases hi : (i : Int) ∈ ps
          · rw [if_pos hi, if_pos (List.mem_cons_of_mem _ hi)]
          · rw [if_neg hi, if_neg (by simp [hip, hi])]
/-- behind t rounds just those know that are told by then -/
structure KnowAt (us : List Int) (rows : List (List Int)) (t : Nat) (knows : List Int) : Prop where
  nd : knows.Nodup
  mem : ∀ x : Int, x ∈ knows ↔ ∃ k : Nat, x = (k : Int) ∧ k ≤ us.length ∧ tm us rows k ≤ (t : Int)
section
variable {us : List Int} (hu : UpsOk us) {rows : List (List Int)} (ht : TreeOf us rows)
theorem rowsAt_get (t p : Nat) : (rowsAt us rows t)[p]? = (rows[p]?).map fun r => if tm us rows p ≤ (t : Int) then r.drop ((t : Int) - tm us rows p).toNat else r := by
  unfold rowsAt; rw [List.getElem?_mapIdx]
theorem rowsAt_zero (hu : UpsOk us) : rowsAt us rows 0 = rows := by
  refine List.ext_getElem? fun p => ?_
  rw [rowsAt_get]
  cases e : rows[p]? with
  | none => rfl
  | some r =>
    show some (if _ then _ else _) = some r
    split
    · rename_i h
      by_cases hp : p ≤ us.length
      · have := tm_nonneg hu rows p hp
        have : (((0 : Nat) : Int) - tm us rows p).toNat = 0 := by omega
        rw [this, List.drop_zero]
      · have : tm us rows p = 0 := by
          unfold tm
          rw [List.getD_eq_getElem?_getD, List.getElem?_eq_none (by rw [tms_len]; omega)]
          rfl
        rw [this]
        rfl
    · rfl
include hu ht in
/-- a round -/
theorem know_step {t : Nat} {knows : List Int} (h : KnowAt us rows t knows) :
    (popAll knows (rowsAt us rows t)).2 = rowsAt us rows (t + 1) ∧ KnowAt us rows (t + 1) (knows ++ (popAll knows (rowsAt us rows t)).1) ∧
    ((popAll knows (rowsAt us rows t)).1 = [] → ∀ k, k ≤ us.length → tm us rows k ≤ (t : Int)) := by
  have hk0 : ∀ p ∈ knows, 0 ≤ p := fun p hp => by obtain ⟨k, rfl, _⟩ := (h.mem p).mp hp; omega
  obtain ⟨g1, g2⟩ := popAll_eq knows (rowsAt us rows t) h.nd hk0
  have rl := ht.len
  -- what is told
  have told : ∀ x : Int, x ∈ (popAll knows (rowsAt us rows t)).1 ↔ ∃ k : Nat, x = (k : Int) ∧ k ≤ us.length ∧ tm us rows k = (t : Int) + 1 := by
    intro x
    rw [g1, List.mem_filterMap]
    constructor
    · rintro ⟨p, hp, e⟩
      obtain ⟨q, rfl, hq, htq⟩ := (h.mem p).mp hp
      have hr := get_some (xs := rows) (i := q) (by omega)
      generalize rows[q]'(by omega) = r at hr
      rw [Int.toNat_natCast, List.getD_eq_getElem?_getD, rowsAt_get, hr] at e
      have e : (if tm us rows q ≤ (t : Int) then r.drop ((t : Int) - tm us rows q).toNat else r).head? = some x := e
      rw [if_pos htq, List.head?_drop] at e
      obtain ⟨k, rfl, hk, e2⟩ := tm_child hu ht hr e
      refine ⟨k + 1, by simp, by have := lt_of_get hk; omega, ?_⟩
      have := tm_nonneg hu rows q hq
      omega
    · rintro ⟨k, rfl, hk, e⟩
      cases k with
      | zero => rw [tm_zero] at e; omega
      | succ k =>
        have ek := get_some (xs := us) (i := k) (by omega)
        obtain ⟨h0, h1⟩ := hu k _ ek
        generalize us[k]'(by omega) = u at ek h0 h1
        obtain ⟨p, rfl⟩ : ∃ p : Nat, u = (p : Int) := ⟨u.toNat, by omega⟩
        have hr := get_some (xs := rows) (i := p) (by omega)
        generalize rows[p]'(by omega) = r at hr
        have hx : ((k : Int) + 1) ∈ r := (ht.mem hr).mpr ⟨k, ek, rfl⟩
        obtain ⟨i, hi, ei⟩ := List.mem_iff_getElem.mp hx
        have hi2 : r[i]? = some ((k : Int) + 1) := by rw [get_some hi, ei]
        obtain ⟨k', e1, _, e3⟩ := tm_child hu ht hr hi2
        have : k' = k := by omega
        subst this
        have := tm_nonneg hu rows p (by omega)
        refine ⟨(p : Int), (h.mem _).mpr ⟨p, rfl, by omega, by omega⟩, ?_⟩
        rw [Int.toNat_natCast, List.getD_eq_getElem?_getD, rowsAt_get, hr]
        show (if tm us rows p ≤ (t : Int) then r.drop ((t : Int) - tm us rows p).toNat else r).head? = _
        rw [if_pos (by omega), List.head?_drop, show ((t : Int) - tm us rows p).toNat = i by omega, hi2]
        simp
  refine ⟨?_, ⟨?_, fun x => ?_⟩, ?_⟩
  · refine List.ext_getElem? fun i => ?_
    rw [g2 i, rowsAt_get, rowsAt_get]
    cases e : rows[i]? with
    | none => simp
    | some r =>
      have hi : i ≤ us.length := by have := lt_of_get e; omega
      by_cases hm : (i : Int) ∈ knows
      · obtain ⟨k, ek, _, e2⟩ := (h.mem _).mp hm
        have : k = i := by omega
        subst this
        rw [if_pos hm]
        simp only [Option.map_some]
        rw [if_pos e2, if_pos (by omega), List.tail_drop]
        congr 2
        omega
      · have hn : ¬ tm us rows i ≤ (t : Int) := fun q => hm ((h.mem _).mpr ⟨i, rfl, hi, q⟩)
        rw [if_neg hm]
        simp only [Option.map_some]
        rw [if_neg hn]
        by_cases e2 : tm us rows i ≤ ((t + 1 : Nat) : Int)
        · rw [if_pos e2, show (((t + 1 : Nat) : Int) - tm us rows i).toNat = 0 by omega, List.drop_zero]
        · rw [if_neg e2]
  · rw [List.nodup_append]
    refine ⟨h.nd, ?_, fun a ha b hb e => ?_⟩
    · rw [g1]
      refine (List.pairwise_filterMap).mpr (h.nd.imp_of_mem fun {p q} hp hq hne x hx y hy e => ?_)
      subst e
      obtain ⟨p', rfl, hp1, hp2⟩ := (h.mem p).mp hp
      obtain ⟨q', rfl, hq1, hq2⟩ := (h.mem q).mp hq
      have par : ∀ p' : Nat, p' ≤ us.length → tm us rows p' ≤ (t : Int) → ((rowsAt us rows t).getD (p' : Int).toNat []).head? = some x → ∃ k : Nat, x = (k : Int) + 1 ∧ us[k]? = some (p' : Int) := by
        intro p' h1 h2 h3
        have hr := get_some (xs := rows) (i := p') (by omega)
        generalize rows[p']'(by omega) = r at hr
        rw [Int.toNat_natCast, List.getD_eq_getElem?_getD, rowsAt_get, hr] at h3
        have h3 : (if tm us rows p' ≤ (t : Int) then r.drop ((t : Int) - tm us rows p').toNat else r).head? = some x := h3
        rw [if_pos h2, List.head?_drop] at h3
        obtain ⟨k, rfl, hk, _⟩ := tm_child hu ht hr h3
        exact ⟨k, rfl, hk⟩
      obtain ⟨k1, e1, f1⟩ := par p' hp1 hp2 hx
      obtain ⟨k2, e2, f2⟩ := par q' hq1 hq2 hy
      have : k1 = k2 := by omega
      subst this
      rw [f1] at f2
      exact hne (Option.some.inj f2)
    · subst e
      obtain ⟨k, rfl, _, e1⟩ := (h.mem a).mp ha
      obtain ⟨k', e2, _, e3⟩ := (told _).mp hb
      have : k = k' := by omega
      subst this
      omega
  · rw [List.mem_append, h.mem, told]
    constructor
    · rintro (⟨k, rfl, h1, h2⟩ | ⟨k, rfl, h1, h2⟩)
      · exact ⟨k, rfl, h1, by omega⟩
      · exact ⟨k, rfl, h1, by omega⟩
    · rintro ⟨k, rfl, h1, h2⟩
      by_cases e : tm us rows k ≤ (t : Int)
      · exact .inl ⟨k, rfl, h1, e⟩
      · exact .inr ⟨k, rfl, h1, by omega⟩
  · intro e0 k
    induction k using Nat.strongRecOn with
    | _ k ih =>
      intro hk
      refine Int.not_lt.mp fun hlt => ?_
      cases k with
      | zero => rw [tm_zero] at hlt; omega
      | succ k =>
        have ek := get_some (xs := us) (i := k) (by omega)
        obtain ⟨h0, h1⟩ := hu k _ ek
        generalize us[k]'(by omega) = u at ek h0 h1
        obtain ⟨p, rfl⟩ : ∃ p : Nat, u = (p : Int) := ⟨u.toNat, by omega⟩
        have hp := ih p (by omega) (by omega)
        have hr := get_some (xs := rows) (i := p) (by omega)
        generalize rows[p]'(by omega) = r at hr
        have hx : ((k : Int) + 1) ∈ r := (ht.mem hr).mpr ⟨k, ek, rfl⟩
        obtain ⟨i, hi, ei⟩ := List.mem_iff_getElem.mp hx
        have hi2 : r[i]? = some ((k : Int) + 1) := by rw [get_some hi, ei]
        obtain ⟨k', e1, _, e3⟩ := tm_child hu ht hr hi2
        have : k' = k := by omega
        subst this
        -- the one that is told just in the next round
        have hj : ((t : Int) - tm us rows p).toNat < r.length := by omega
        obtain ⟨k2, e4, e5, e6⟩ := tm_child hu ht hr (get_some hj)
        have : (((k2 + 1 : Nat) : Int)) ∈ (popAll knows (rowsAt us rows t)).1 := (told _).mpr ⟨k2 + 1, rfl, by have := lt_of_get e5; omega, by omega⟩
        rw [e0] at this
        cases this
end
/-- the last one's round -/
def maxTm (us : List Int) (rows : List (List Int)) : Int := maxL (tms us rows us.length)
theorem maxTm_ge (us : List Int) (rows : List (List Int)) {k : Nat} (hk : k ≤ us.length) : tm us rows k ≤ maxTm us rows := by
  unfold maxTm tm
  refine maxL_ge ?_
  rw [List.getD_eq_getElem?_getD, get_some (by rw [tms_len]; omega)]
  exact List.getElem_mem _
theorem maxTm_at (us : List Int) (rows : List (List Int)) : ∃ k, k ≤ us.length ∧ tm us rows k = maxTm us rows := by
  have h := maxL_mem (l := tms us rows us.length) (by intro e; have := tms_len us rows us.length; rw [e] at this; simp at this)
  obtain ⟨k, hk, e⟩ := List.mem_iff_getElem.mp h
  rw [tms_len] at hk
  refine ⟨k, by omega, ?_⟩
  unfold tm maxTm
  rw [List.getD_eq_getElem?_getD, get_some (by rw [tms_len]; omega)]
  exact e
theorem lastGo_eq {us : List Int} (hu : UpsOk us) {rows : List (List Int)} (ht : TreeOf us rows) : ∀ (f t : Nat) (knows : List Int), KnowAt us rows t knows → us.length + 1 - knows.length < f → (t : Int) ≤ maxTm us rows →
    lastGo (us.length + 1) f knows (rowsAt us rows t) (t : Int) = maxTm us rows := by
  intro f
  induction f with
  | zero => intro t knows _ h; omega
  | succ f ih =>
    intro t knows hk hf hle
    rw [lastGo]
    obtain ⟨g1, g2, g3⟩ := know_step hu ht hk
    split
    · rename_i hlt
      have hne : ¬ (popAll knows (rowsAt us rows t)).1 = [] := fun e => by
        have all := g3 e
        -- then all know
        have := nodup_le (people_nodup (us.length + 1)) fun x hx => by
          obtain ⟨k, hk1, rfl⟩ := people_mem.mp hx
          exact (hk.mem _).mpr ⟨k, rfl, by omega, all k (by omega)⟩
        rw [people_len] at this
        omega
      rw [if_neg hne, g1]
      have pos : 0 < (popAll knows (rowsAt us rows t)).1.length := List.length_pos_iff.mpr hne
      have := ih (t + 1) _ g2 (by rw [List.length_append]; omega) (by
        obtain ⟨x, hx⟩ := List.exists_mem_of_length_pos pos
        obtain ⟨k, rfl, h1, h2⟩ := (g2.mem x).mp (List.mem_append_right _ hx)
        have nk : ¬ tm us rows k ≤ (t : Int) := fun q => by
          have := (List.nodup_append.mp g2.nd).2.2 _ ((hk.mem _).mpr ⟨k, rfl, h1, q⟩) _ hx
          exact this rfl
        have := maxTm_ge us rows h1
        omega)
      rw [← this]
      congr 1
    · rename_i hge
      -- all know
      obtain ⟨k, hk1, hk2⟩ := maxTm_at us rows
      have hm : ((k : Nat) : Int) ∈ knows := nodup_full hk.nd (fun x hx => by
        obtain ⟨k, rfl, h1, _⟩ := (hk.mem x).mp hx
        exact people_mem.mpr ⟨k, by omega, rfl⟩) (m := people (us.length + 1)) (by rw [people_len]; omega) _ (people_mem.mpr ⟨k, by omega, rfl⟩)
      obtain ⟨k', e1, _, e2⟩ := (hk.mem _).mp hm
      have : k' = k := by omega
      subst this
      omega
theorem lastM_eq {us : List Int} (hu : UpsOk us) {rows : List (List Int)} (ht : TreeOf us rows) : lastM rows = maxTm us rows := by
  unfold lastM
  rw [ht.len]
  have h0 : KnowAt us rows 0 [0] := ⟨by simp, fun x => by
    constructor
    · intro hx
      simp at hx
      exact ⟨0, by simpa using hx, by omega, by rw [tm_zero]; decide⟩
    · rintro ⟨k, rfl, h1, h2⟩
      cases k with
      | zero => simp
      | succ k =>
        exfalso
        have ek := get_some (xs := us) (i := k) (by omega)
        obtain ⟨h0, h3⟩ := hu k _ ek
        generalize us[k]'(by omega) = u at ek h0 h3
        obtain ⟨p, rfl⟩ : ∃ p : Nat, u = (p : Int) := ⟨u.toNat, by omega⟩
        rw [tm_succ hu rows ek] at h2
        have := tm_nonneg hu rows p (by omega)
        omega⟩
  have := lastGo_eq hu ht (us.length + 1 + 1) 0 [0] h0 (by simp; omega) (by
    have := maxTm_ge us rows (k := 0) (by omega)
    rw [tm_zero] at this
    omega)
  rw [rowsAt_zero hu] at this
  exact this
end Cc

namespace Cc
/-! marks, and the best orders -/
def mk (marks : List Int) (x : Int) : Int := marks.getD x.toNat 0
def cntM (row marks : List Int) (x : Int) : Nat := (row.filter fun one => decide (x ≤ mk marks one)).length
def isMarkGo (row marks : List Int) (mark : Int) : List Nat → Bool
  | [] => false
  | m :: ms => if ((m : Nat) : Int) ≤ (cntM row marks (mark - m) : Nat) then decide (0 < mark) else isMarkGo row marks mark ms
def isMarkR (row marks : List Int) (mark : Int) : Bool := if mark = 0 then true else isMarkGo row marks mark ((List.range row.length).map (· + 1))
def isMarkM (rows : List (List Int)) (marks : List Int) (p : Nat) : Bool := isMarkR (rows.getD p []) marks (marks.getD p 0)
def topsM (row marks : List Int) : List Int := (sortI (row.map (mk marks))).reverse
def leastM (row marks : List Int) : List Int := 0 :: (topsM row marks).mapIdx fun i t => (i : Int) + 1 + t
def areMarkR (row marks : List Int) (mark : Int) : Bool := decide (0 ≤ mark) && decide (mark ≤ maxL (leastM row marks))
def areMarksM (rows : List (List Int)) (marks : List Int) : Bool := (List.range rows.length).all fun p => areMarkR (rows.getD p []) marks (marks.getD p 0)
theorem le_maxL {l : List Int} {x : Int} (h : l ≠ []) : x ≤ maxL l ↔ ∃ y ∈ l, x ≤ y :=
  ⟨fun q => ⟨maxL l, maxL_mem h, q⟩, fun ⟨y, hy, q⟩ => Int.le_trans q (maxL_ge hy)⟩
theorem desc_cnt : ∀ {l : List Int}, l.Pairwise (· ≥ ·) → ∀ (x : Int) (k : Nat), k < (l.filter fun v => decide (x ≤ v)).length ↔ ∃ v, l[k]? = some v ∧ x ≤ v
  | [], _, x, k => by simp
  | a :: l, h, x, k => by
    rw [List.pairwise_cons] at h
    have ih := desc_cnt h.2 x
    by_cases hx : x ≤ a
    · rw [List.filter_cons, if_pos (decide_eq_true hx), List.length_cons]
      cases k with
      | zero => exact ⟨fun _ => ⟨a, rfl, hx⟩, fun _ => Nat.succ_pos _⟩
      | succ k =>
        rw [Nat.succ_lt_succ_iff, ih k]
        simp
    · rw [List.filter_cons, if_neg (by simp; omega)]
      constructor
      · intro hk
        obtain ⟨v, hv, q⟩ := (ih k).mp hk
        have := h.1 v (List.mem_of_getElem? hv)
        omega
      · rintro ⟨v, hv, q⟩
        have hm := List.mem_of_getElem? hv
        rcases List.mem_cons.mp hm with rfl | hm
        · exact absurd q hx
        · have := h.1 v hm
          omega
theorem tops_desc (row marks : List Int) : (topsM row marks).Pairwise (· ≥ ·) := by
  unfold topsM
  rw [List.pairwise_reverse]
  exact (sortI_sorted _).imp fun h => h
theorem cnt_tops (row marks : List Int) (x : Int) : cntM row marks x = ((topsM row marks).filter fun v => decide (x ≤ v)).length := by
  have h1 : (topsM row marks).Perm (row.map (mk marks)) := (List.reverse_perm _).trans (sortI_perm _)
  rw [(h1.filter _).length_eq, List.filter_map, List.length_map]
  rfl
theorem tops_len (row marks : List Int) : (topsM row marks).length = row.length := by simp [topsM, sortI_len]
theorem isMarkGo_iff (row marks : List Int) (mark : Int) : ∀ ms : List Nat, isMarkGo row marks mark ms = true ↔ 0 < mark ∧ ∃ m ∈ ms, (m : Int) ≤ (cntM row marks (mark - m) : Nat)
  | [] => by simp [isMarkGo]
  | m :: ms => by
    rw [isMarkGo]
    by_cases h : (m : Int) ≤ (cntM row marks (mark - m) : Nat)
    · rw [if_pos h]
      simp only [decide_eq_true_eq]
      exact ⟨fun q => ⟨q, m, List.mem_cons_self, h⟩, fun q => q.1⟩
    · rw [if_neg h, isMarkGo_iff row marks mark ms]
      constructor
      · rintro ⟨q, m', hm, e⟩; exact ⟨q, m', List.mem_cons_of_mem _ hm, e⟩
      · rintro ⟨q, m', hm, e⟩
        rcases List.mem_cons.mp hm with rfl | hm
        · exact absurd e h
        · exact ⟨q, m', hm, e⟩
theorem mark_iff (row marks : List Int) (mark : Int) : isMarkR row marks mark = areMarkR row marks mark := by
  rw [Bool.eq_iff_iff]
  unfold isMarkR areMarkR
  rw [Bool.and_eq_true, decide_eq_true_eq, decide_eq_true_eq, le_maxL (by simp [leastM])]
  have hl : (∃ y ∈ leastM row marks, mark ≤ y) ↔ mark ≤ 0 ∨ ∃ (k : Nat) (v : Int), (topsM row marks)[k]? = some v ∧ mark ≤ (k : Int) + 1 + v := by
    unfold leastM
    constructor
    · rintro ⟨y, hy, q⟩
      rcases List.mem_cons.mp hy with rfl | hy
      · exact .inl q
      · obtain ⟨k, hk, rfl⟩ := List.mem_mapIdx.mp hy
        exact .inr ⟨k, _, get_some hk, q⟩
    · rintro (q | ⟨k, v, hv, q⟩)
      · exact ⟨0, List.mem_cons_self, q⟩
      · refine ⟨(k : Int) + 1 + v, List.mem_cons_of_mem _ (List.mem_mapIdx.mpr ⟨k, lt_of_get hv, ?_⟩), q⟩
        have : (topsM row marks)[k]'(lt_of_get hv) = v := by rw [get_some (lt_of_get hv)] at hv; exact Option.some.inj hv
        rw [this]
  rw [hl]
  by_cases h0 : mark = 0
  · rw [if_pos h0]
    exact ⟨fun _ => ⟨by omega, .inl (by omega)⟩, fun _ => rfl⟩
  · rw [if_neg h0, isMarkGo_iff]
    constructor
    · rintro ⟨hp, m, hm, e⟩
      obtain ⟨k, hk, rfl⟩ := List.mem_map.mp hm
      have hk := List.mem_range.mp hk
      rw [cnt_tops] at e
      obtain ⟨v, hv, q⟩ := (desc_cnt (tops_desc row marks) (mark - ((k + 1 : Nat) : Int)) k).mp (by omega)
      exact ⟨by omega, .inr ⟨k, v, hv, by omega⟩⟩
    · rintro ⟨hp, q | ⟨k, v, hv, q⟩⟩
      · omega
      · have hk := lt_of_get hv
        rw [tops_len] at hk
        refine ⟨by omega, k + 1, List.mem_map.mpr ⟨k, List.mem_range.mpr hk, rfl⟩, ?_⟩
        rw [cnt_tops]
        have := (desc_cnt (tops_desc row marks) (mark - ((k + 1 : Nat) : Int)) k).mpr ⟨v, hv, by omega⟩
        omega
/-- what a Fewest shows, by the program and by the law -/
def showsM (us : List Int) (rows : List (List Int)) (marks : List Int) : Bool :=
  decide (rows.map sortI = calledM us) && decide (marks.length = rows.length) && ((List.range marks.length).all fun p => isMarkM rows marks p) && decide (maxTm us rows = marks.getD 0 0)
def isFewM (us : List Int) (rows : List (List Int)) (marks : List Int) : Bool :=
  decide (rows.map sortI = lcalledM us) && decide (marks.length = rows.length) && areMarksM rows marks && decide (lastM rows = marks.getD 0 0)
theorem shows_eq {us : List Int} (hu : UpsOk us) (rows : List (List Int)) (marks : List Int) : showsM us rows marks = isFewM us rows marks := by
  unfold showsM isFewM
  rw [calledM_eq hu]
  by_cases h1 : rows.map sortI = lcalledM us
  · by_cases h2 : marks.length = rows.length
    · have e1 : ((List.range marks.length).all fun p => isMarkM rows marks p) = areMarksM rows marks := by
        unfold areMarksM isMarkM
        rw [h2]
        congr 1
        funext p
        exact mark_iff _ _ _
      rw [e1, lastM_eq hu h1]
    · rw [decide_eq_false h2]; simp
  · rw [decide_eq_false h1]; simp
end Cc

namespace Cc
/-! the best orders are shown by their needs -/
theorem lcalledM_get (us : List Int) {p : Nat} (hp : p ≤ us.length) : (lcalledM us)[p]? = some (lrowM us p) := by
  unfold lcalledM
  rw [List.getElem?_map, List.getElem?_range (by omega)]
  rfl
theorem turnM_congr {needs needs' row : List Int} (h : ∀ one ∈ row, needs.getD one.toNat 0 = needs'.getD one.toNat 0) : turnM needs row = turnM needs' row := by
  unfold turnM
  congr 1
  refine List.map_congr_left fun one ho => ?_
  rw [h one ho]
/-- behind i steps the last i people are done -/
theorem bestGo_done {us : List Int} (hu : UpsOk us) : ∀ i, i ≤ us.length + 1 → ∀ p, p ≤ us.length →
    (us.length < p + i → (bestGo us i).1[p]? = some ((turnM (bestGo us i).2 (lrowM us p)).map (·.2)) ∧ (bestGo us i).2[p]? = some (maxL (needL (turnM (bestGo us i).2 (lrowM us p))))) ∧
    (p + i ≤ us.length → (bestGo us i).1[p]? = some (lrowM us p))
  | 0, _, p, hp => ⟨fun h => by omega, fun _ => by
    show (calledM us)[p]? = _
    rw [calledM_eq hu, lcalledM_get us hp]⟩
  | i + 1, hi, p, hp => by
    obtain ⟨l1, l2⟩ := bestGo_len us i
    have ih := fun q hq => bestGo_done hu i (by omega) q hq
    have hq := (ih (us.length - i) (by omega)).2 (by omega)
    have e1 : (bestGo us i).1.getD (us.length - i) [] = lrowM us (us.length - i) := by simp [hq]
    rw [show bestGo us (i + 1) = bestStep (bestGo us i) (us.length - i) from rfl]
    -- the needs of those that stand behind are not touched
    have keep : ∀ q : Nat, us.length < q + (i + 1) → q ≤ us.length → turnM (bestStep (bestGo us i) (us.length - i)).2 (lrowM us q) = turnM (bestGo us i).2 (lrowM us q) := fun q h1 h2 => by
      refine turnM_congr fun one ho => ?_
      obtain ⟨k, hk, rfl⟩ := lrowM_mem.mp ho
      have := hu k _ hk
      unfold bestStep
      simp only [List.getD_eq_getElem?_getD]
      rw [List.getElem?_set_ne (by omega)]
    refine ⟨fun h => ?_, fun h => ?_⟩
    · rw [keep p h hp]
      by_cases e : p = us.length - i
      · subst e
        unfold bestStep
        rw [e1]
        exact ⟨List.getElem?_set_self (by rw [l1]; omega), List.getElem?_set_self (by rw [l2]; omega)⟩
      · obtain ⟨g1, g2⟩ := (ih p hp).1 (by omega)
        unfold bestStep
        dsimp only
        rw [List.getElem?_set_ne (by omega), List.getElem?_set_ne (by omega)]
        exact ⟨g1, g2⟩
    · unfold bestStep
      dsimp only
      rw [List.getElem?_set_ne (by omega)]
      exact (ih p hp).2 (by omega)
section
variable {us : List Int} (hu : UpsOk us)
include hu
theorem bestM_get {p : Nat} (hp : p ≤ us.length) : (bestM us).1[p]? = some ((turnM (bestM us).2 (lrowM us p)).map (·.2)) ∧ (bestM us).2[p]? = some (maxL (needL (turnM (bestM us).2 (lrowM us p)))) :=
  (bestGo_done hu (us.length + 1) (Nat.le_refl _) p hp).1 (by omega)
theorem bestM_tree : TreeOf us (bestM us).1 := by
  refine List.ext_getElem? fun p => ?_
  rw [List.getElem?_map]
  by_cases hp : p ≤ us.length
  · rw [(bestM_get hu hp).1, lcalledM_get us hp]
    show some (sortI _) = some _
    rw [sortI_congr (turnM_perm _ _), sortI_of_sorted ((lrowM_sorted us p).imp fun h => by omega)]
  · rw [List.getElem?_eq_none (by rw [(bestM_len us).1]; omega), List.getElem?_eq_none (by rw [lcalledM_len]; omega)]
    rfl
/-- a person's row and need, told by its row -/
theorem bestM_row {p : Nat} (hp : p ≤ us.length) : ∃ row, (bestM us).1[p]? = some row ∧ (row.map (mk (bestM us).2)).Pairwise (· ≥ ·) ∧
    (bestM us).2[p]? = some (maxL (0 :: row.mapIdx fun i one => (i : Int) + 1 + mk (bestM us).2 one)) := by
  obtain ⟨h1, h2⟩ := bestM_get hu hp
  refine ⟨_, h1, ?_, ?_⟩
  · rw [List.map_map, List.pairwise_map]
    refine (sortP_sorted _).imp_of_mem fun {a b} ha hb hab => ?_
    rw [leP_iff] at hab
    have ea : ∀ a ∈ turnM (bestM us).2 (lrowM us p), a.1 = -(mk (bestM us).2 a.2) := fun a ha => by
      obtain ⟨one, _, rfl⟩ := List.mem_map.mp ((sortP_perm _).mem_iff.mp ha)
      rfl
    have h3 := ea a ha
    have h4 := ea b hb
    show mk (bestM us).2 a.2 ≥ mk (bestM us).2 b.2
    omega
  · rw [h2]
    unfold needL
    congr 3
    rw [List.mapIdx_eq_iff]
    intro i
    rw [List.getElem?_mapIdx, List.getElem?_map]
    cases e : (turnM (bestM us).2 (lrowM us p))[i]? with
    | none => rfl
    | some a =>
      have : a.1 = -(mk (bestM us).2 a.2) := by
        obtain ⟨one, _, rfl⟩ := List.mem_map.mp ((sortP_perm _).mem_iff.mp (List.mem_of_getElem? e))
        rfl
      show some ((i : Int) + 1 + mk (bestM us).2 a.2) = some ((i : Int) + 1 - a.1)
      rw [this]
      congr 1
      omega
theorem bestM_marks : areMarksM (bestM us).1 (bestM us).2 = true := by
  unfold areMarksM
  rw [List.all_eq_true]
  intro p hp
  rw [List.mem_range, (bestM_len us).1] at hp
  obtain ⟨row, h1, h2, h3⟩ := bestM_row hu (p := p) (by omega)
  have e1 : (bestM us).1.getD p [] = row := by simp [h1]
  have e2 : (bestM us).2.getD p 0 = maxL (0 :: row.mapIdx fun i one => (i : Int) + 1 + mk (bestM us).2 one) := by simp [h3]
  have e3 : topsM row (bestM us).2 = row.map (mk (bestM us).2) := by
    unfold topsM
    refine (List.reverse_eq_iff).mpr ?_
    refine (sortI_eq (List.reverse_perm _) ?_).symm
    rw [List.pairwise_reverse]
    exact h2.imp fun h => h
  have e4 : leastM row (bestM us).2 = 0 :: row.mapIdx fun i one => (i : Int) + 1 + mk (bestM us).2 one := by
    unfold leastM
    rw [e3]
    congr 1
    refine List.ext_getElem? fun i => ?_
    rw [List.getElem?_mapIdx, List.getElem?_mapIdx, List.getElem?_map, Option.map_map]
    rfl
  rw [e1, e2]
  unfold areMarkR
  rw [e4, Bool.and_eq_true, decide_eq_true_eq, decide_eq_true_eq]
  exact ⟨maxL_ge List.mem_cons_self, Int.le_refl _⟩
theorem bestM_last : maxTm us (bestM us).1 = (bestM us).2.getD 0 0 := by
  have ht := bestM_tree hu
  have need : ∀ p, p ≤ us.length → ∃ row, (bestM us).1[p]? = some row ∧ mk (bestM us).2 (p : Nat) = maxL (0 :: row.mapIdx fun i one => (i : Int) + 1 + mk (bestM us).2 one) := fun p hp => by
    obtain ⟨row, h1, _, h3⟩ := bestM_row hu hp
    exact ⟨row, h1, by
      show (bestM us).2.getD (p : Int).toNat 0 = _
      rw [Int.toNat_natCast, List.getD_eq_getElem?_getD, h3]
      rfl⟩
  have nn : ∀ p : Nat, p ≤ us.length → 0 ≤ mk (bestM us).2 (p : Nat) := fun p hp => by
    obtain ⟨row, _, e⟩ := need p hp
    rw [e]
    exact maxL_ge List.mem_cons_self
  -- none is told later
  have up : ∀ k : Nat, k ≤ us.length → tm us (bestM us).1 k + mk (bestM us).2 (k : Nat) ≤ mk (bestM us).2 ((0 : Nat) : Int) := by
    intro k
    induction k using Nat.strongRecOn with
    | _ k ih =>
      intro hk
      cases k with
      | zero => rw [tm_zero]; omega
      | succ k =>
        have ek := get_some (xs := us) (i := k) (by omega)
        obtain ⟨h0, h1⟩ := hu k _ ek
        generalize us[k]'(by omega) = u at ek h0 h1
        obtain ⟨p, rfl⟩ : ∃ p : Nat, u = (p : Int) := ⟨u.toNat, by omega⟩
        have hp := ih p (by omega) (by omega)
        obtain ⟨row, hr, e⟩ := need p (by omega)
        have hx : ((k : Int) + 1) ∈ row := (ht.mem hr).mpr ⟨k, ek, rfl⟩
        obtain ⟨i, hi, ei⟩ := List.mem_iff_getElem.mp hx
        have hi2 : row[i]? = some ((k : Int) + 1) := by rw [get_some hi, ei]
        obtain ⟨k', e1, _, e3⟩ := tm_child hu ht hr hi2
        have : k' = k := by omega
        subst this
        have := maxL_ge (l := 0 :: row.mapIdx fun i one => (i : Int) + 1 + mk (bestM us).2 one) (x := (i : Int) + 1 + mk (bestM us).2 ((k' : Int) + 1)) (List.mem_cons_of_mem _ (List.mem_mapIdx.mpr ⟨i, hi, by rw [ei]⟩))
        rw [← e] at this
        rw [show (((k' + 1 : Nat)) : Int) = (k' : Int) + 1 by omega]
        omega
  -- one is told just then
  have down : ∀ d p : Nat, p ≤ us.length → us.length - p ≤ d → ∃ k, k ≤ us.length ∧ tm us (bestM us).1 k = tm us (bestM us).1 p + mk (bestM us).2 (p : Nat) := by
    intro d
    induction d with
    | zero =>
      intro p hp hd
      obtain ⟨row, hr, e⟩ := need p hp
      have : row = [] := by
        cases row with
        | nil => rfl
        | cons x r =>
          obtain ⟨k, hk, e2⟩ := (ht.mem hr).mp List.mem_cons_self
          have := lt_of_get hk
          have := hu k _ hk
          omega
      subst this
      exact ⟨p, hp, by rw [e]; simp [maxL]⟩
    | succ d ih =>
      intro p hp hd
      obtain ⟨row, hr, e⟩ := need p hp
      rcases List.mem_cons.mp (maxL_mem (l := 0 :: row.mapIdx fun i one => (i : Int) + 1 + mk (bestM us).2 one) (by simp)) with q | q
      · exact ⟨p, hp, by rw [e, q]; omega⟩
      · obtain ⟨i, hi, ei⟩ := List.mem_mapIdx.mp q
        obtain ⟨k, e1, e2, e3⟩ := tm_child hu ht hr (get_some hi)
        have := lt_of_get e2
        have := hu k _ e2
        obtain ⟨k2, g1, g2⟩ := ih (k + 1) (by omega) (by omega)
        refine ⟨k2, g1, ?_⟩
        rw [g2, e3, e, ← ei, e1]
        rw [show (((k + 1 : Nat)) : Int) = (k : Int) + 1 by omega]
        omega
  obtain ⟨k, hk, e⟩ := maxTm_at us (bestM us).1
  obtain ⟨k2, hk2, e2⟩ := down us.length 0 (by omega) (by omega)
  have h1 := up k hk
  have h2 := nn k hk
  have h3 := maxTm_ge us (bestM us).1 hk2
  rw [tm_zero] at e2
  have e4 : mk (bestM us).2 ((0 : Nat) : Int) = (bestM us).2.getD 0 0 := rfl
  rw [← e4]
  omega
theorem best_shown : isFewM us (bestM us).1 (bestM us).2 = true := by
  unfold isFewM
  have h1 : (bestM us).1.map sortI = lcalledM us := bestM_tree hu
  obtain ⟨b1, b2⟩ := bestM_len us
  rw [decide_eq_true h1, decide_eq_true (show (bestM us).2.length = (bestM us).1.length by omega), bestM_marks hu, lastM_eq hu h1, bestM_last hu, decide_eq_true rfl]
  rfl
end
end Cc

namespace Cc
open PySem L2
/-! the people in the line in which they are looked at -/
structure LineAt (us : List Int) (rows : List (List Int)) (s : Nat) (line : List Int) : Prop where
  nd : line.Nodup
  zero : (0 : Int) ∈ line
  src : ∀ x ∈ line, x = 0 ∨ ∃ (j p : Nat) (r : List Int), j < s ∧ line[j]? = some (p : Int) ∧ rows[p]? = some r ∧ x ∈ r
  inr : ∀ x ∈ line, ∃ p : Nat, x = (p : Int) ∧ p ≤ us.length
  done : ∀ (j p : Nat) (r : List Int), j < s → line[j]? = some (p : Int) → rows[p]? = some r → ∀ x ∈ r, x ∈ line
  le : s ≤ line.length
theorem line_zero (us : List Int) (rows : List (List Int)) : LineAt us rows 0 [0] :=
  ⟨by simp, by simp, fun x hx => .inl (by simpa using hx), fun x hx => ⟨0, by simpa using hx, Nat.zero_le _⟩, fun j p r h => by omega, Nat.zero_le _⟩
section
variable {us : List Int} {rows : List (List Int)} (ht : TreeOf us rows) {s : Nat} {line : List Int}
include ht in
theorem LineAt.step (h : LineAt us rows s line) {p : Nat} {r : List Int} (hp : line[s]? = some (p : Int)) (hr : rows[p]? = some r) : LineAt us rows (s + 1) (line ++ r) := by
  have hs := lt_of_get hp
  have hm : ∀ x ∈ r, ∃ i : Nat, us[i]? = some (p : Int) ∧ x = (i : Int) + 1 := fun x hx => (ht.mem hr).mp hx
  refine ⟨?_, List.mem_append_left _ h.zero, fun x hx => ?_, fun x hx => ?_, fun j q r2 hj hq hr2 x hx => ?_, by rw [List.length_append]; omega⟩
  · rw [List.nodup_append]
    refine ⟨h.nd, ht.nodup hr, fun a ha b hb e => ?_⟩
    subst e
    obtain ⟨i, h1, h2⟩ := hm a hb
    rcases h.src a ha with e | ⟨j, q, r2, h3, h4, h5, h6⟩
    · omega
    · obtain ⟨i2, h7, h8⟩ := (ht.mem h5).mp h6
      have : i = i2 := by omega
      subst this
      rw [h1] at h7
      have e : (p : Int) = (q : Int) := Option.some.inj h7
      rw [← e] at h4
      have hj := lt_of_get h4
      have := (List.pairwise_iff_getElem.mp h.nd) j s hj hs h3
      rw [get_some hj] at h4
      rw [get_some hs] at hp
      exact this ((Option.some.inj h4).trans (Option.some.inj hp).symm)
  · rcases List.mem_append.mp hx with hx | hx
    · rcases h.src x hx with e | ⟨j, q, r2, h3, h4, h5, h6⟩
      · exact .inl e
      · exact .inr ⟨j, q, r2, by omega, by rw [List.getElem?_append_left (lt_of_get h4)]; exact h4, h5, h6⟩
    · exact .inr ⟨s, p, r, by omega, by rw [List.getElem?_append_left hs]; exact hp, hr, hx⟩
  · rcases List.mem_append.mp hx with hx | hx
    · exact h.inr x hx
    · obtain ⟨i, h1, h2⟩ := hm x hx
      have := lt_of_get h1
      exact ⟨i + 1, by omega, by omega⟩
  · by_cases e : j = s
    · subst e
      rw [List.getElem?_append_left hs, hp] at hq
      have e2 : (p : Int) = (q : Int) := Option.some.inj hq
      have e2 : p = q := by omega
      subst e2
      rw [hr] at hr2
      cases hr2
      exact List.mem_append_right _ hx
    · rw [List.getElem?_append_left (by omega)] at hq
      exact List.mem_append_left _ (h.done j q r2 (by omega) hq hr2 x hx)
theorem LineAt.len (h : LineAt us rows s line) : line.length ≤ us.length + 1 := by
  have := nodup_le h.nd (m := people (us.length + 1)) fun x hx => by
    obtain ⟨p, rfl, hp⟩ := h.inr x hx
    exact people_mem.mpr ⟨p, by omega, rfl⟩
  rwa [people_len] at this
include ht in
theorem LineAt.all (hu : UpsOk us) (h : LineAt us rows line.length line) : ∀ k : Nat, k ≤ us.length → (k : Int) ∈ line := by
  intro k
  induction k using Nat.strongRecOn with
  | _ k ih =>
    intro hk
    cases k with
    | zero => exact h.zero
    | succ k =>
      have ek := get_some (xs := us) (i := k) (by omega)
      obtain ⟨h0, h1⟩ := hu k _ ek
      generalize us[k]'(by omega) = u at ek h0 h1
      obtain ⟨p, rfl⟩ : ∃ p : Nat, u = (p : Int) := ⟨u.toNat, by omega⟩
      have hp := ih p (by omega) (by omega)
      obtain ⟨j, hj, ej⟩ := List.mem_iff_getElem.mp hp
      have hr := get_some (xs := rows) (i := p) (by rw [ht.len]; omega)
      have hx := (ht.mem hr).mpr ⟨k, ek, rfl⟩
      have := h.done j p _ hj (by rw [get_some hj, ej]) hr _ hx
      rw [show (((k + 1 : Nat)) : Int) = (k : Int) + 1 by omega]
      exact this
end
/-- the table of ends -/
def endsK (us : List Int) (rows : List (List Int)) (line : List Int) : List (Key × V) := line.map fun x => (.inl x, .int (tm us rows x.toNat))
theorem endsK_val (us : List Int) (rows : List (List Int)) (x : Int) : ∀ line : List Int, valV (endsK us rows line) (.inl x) = if x ∈ line then some (.int (tm us rows x.toNat)) else none
  | [] => rfl
  | y :: line => by
    have ih := endsK_val us rows x line
    unfold endsK at ih ⊢
    rw [List.map_cons]
    by_cases e : y = x
    · subst e
      rw [valV_pos rfl, if_pos List.mem_cons_self]
    · rw [valV_neg (by intro z; exact e (Sum.inl.inj z)), ih]
      have : (x ∈ y :: line) ↔ x ∈ line := by
        rw [List.mem_cons]
        exact ⟨fun h => h.resolve_left fun z => e z.symm, .inr⟩
      by_cases h : x ∈ line
      · rw [if_pos h, if_pos (this.mpr h)]
      · rw [if_neg h, if_neg (fun z => h (this.mp z))]
end Cc

namespace Cc
open PySem L2
/-! is_mark -/
def sp_is_mark : Sp := fun vs H Q _ => ∃ (p : Addr) (ps : List Addr) (rows : List (List Int)) (m : Addr) (marks : List Int) (i : Nat), vs = [.ref p, .ref m, .int (i : Nat)] ∧ Rows H p ps rows ∧ H m = some (intsO marks) ∧
  i < rows.length ∧ rows.length = marks.length ∧ marks.length ≤ 1000 ∧ (∀ r ∈ rows, r.length ≤ 1000) ∧ RowsIn marks.length rows ∧ ∀ H', Same H H' → Q (.bl (isMarkM rows marks i)) H'
def t_is_mark (K : PySem.W.Frag) : TS :=
(tSeq (tAsg (tOp (rIxL K) (tVar 1) (tVar 2)) (gName 3))
    (tSeq (tIfS (tTest (tOp rEq (tVar 3) (tC (.int 0))))
    (tRet (tC (.bl true)))
    tNext)
    (tSeq (tFor (iRng2 (tCons (tC (.int 1)) (tCons (tOp qAdd (tCB (qLen K) (tCons (tOp (rIxL K) (tVar 0) (tVar 2)) tNil)) (tC (.int 1))) tNil))) (gName 4)
    (tIfS (tTest (tOp qGe (tCB (qLen K) (tCons (tLc (iList K (tOp (rIxL K) (tVar 0) (tVar 2))) (gName 5) (tTest (tOp qGe (tOp (rIxL K) (tVar 1) (tVar 5)) (tOp qSub (tVar 3) (tVar 4)))) (tVar 5) [5]) tNil)) (tVar 4)))
      (tRet (tOp qGt (tVar 3) (tC (.int 0))))
      tNext))
    (tRet (tC (.bl false))))))
theorem fm_filter {P : Int → Bool} : ∀ l : List Int, ((l.map fun x => if P x then some (V.int x) else none).filterMap id).length = (l.filter P).length
  | [] => rfl
  | x :: l => by
    have ih := fm_filter (P := P) l
    by_cases h : P x
    · simp [h] at ih ⊢; exact ih
    · simp [h] at ih ⊢; exact ih
theorem v_is_mark {K : PySem.W.Frag} {vs : List V} {H : Hp} {Q : VK} {E : XK} (h : sp_is_mark vs H Q E) : t_is_mark K (fin Q) (st0 6 vs) H := by
  obtain ⟨p, ps, rows, m, marks, i, rfl, R, hm, hi, hrl, hml, hrr, rin, k⟩ := h
  have hpl := R.len
  have gm := get_some (xs := marks) (i := i) (by omega)
  have gr := get_some (xs := rows) (i := i) hi
  have gp := get_some (xs := ps) (i := i) (by omega)
  unfold isMarkM at k
  rw [show marks.getD i 0 = marks[i]'(by omega) by simp [gm], show rows.getD i [] = rows[i]'hi by simp [gr]] at k
  generalize marks[i]'(by omega) = mark at gm k
  generalize rows[i]'hi = row at gr k
  generalize ps[i]'(by omega) = q at gp
  have hq := R.row gp gr
  have rl := hrr row (List.mem_of_getElem? gr)
  have rin := rin row (List.mem_of_getElem? gr)
  refine q_set (v := .int mark) (fun Q q => ⟨_, rfl, _, rfl, m, _, (i : Nat), .int mark, rfl, rfl, SqL.of hm, atI_int (by omega) (by rw [Int.toNat_natCast]; exact gm), q⟩) ?_
  unfold isMarkR at k
  refine q_if (b := decide (mark = 0)) (Ta.r fun Q q => ⟨_, rfl, rfl, _, rfl, ?_⟩) ?_ ?_
  · have : decide ((V.int mark) = V.int 0) = decide (mark = 0) := by simp
    rw [this]
    exact q
  · intro e H1 s1
    rw [if_pos (of_decide_eq_true e)] at k
    exact k H1 s1
  · intro e H1 s1
    rw [if_neg (of_decide_eq_false e)] at k
    refine ⟨_, rfl, _, rfl, p, _, (i : Nat), .ref q, rfl, rfl, SqL.of (s1 _ _ R.top), atI_ref (by omega) (by rw [Int.toNat_natCast]; exact gp), q, _, rfl, .inl (SqL.of (s1 _ _ hq)), _, _, rfl, rfl, 1, _, rfl, ⟨by omega, by omega, by simp; omega, by simp; omega⟩, ?_⟩
    have e1 : ((((row.map V.int).length : Nat) : Int) + 1 - 1).toNat = row.length := by simp
    refine for_range (fun j σ H2 => ∃ x4, σ = [some (.ref p), some (.ref m), some (.int (i : Nat)), some (.int mark), x4, none] ∧ Same H H2 ∧ isMarkGo row marks mark ((List.range row.length).map (· + 1)) = isMarkGo row marks mark (((List.range row.length).map (· + 1)).drop j)) ?_ ?_ ?_
    · exact ⟨none, rfl, s1, rfl⟩
    · rintro j σ H2 hj ⟨x4, rfl, s2, em⟩
      rw [e1] at hj
      have ed : ((List.range row.length).map (· + 1)).drop j = (j + 1) :: ((List.range row.length).map (· + 1)).drop (j + 1) := by
        rw [List.drop_eq_getElem_cons (by simpa using hj)]
        simp
      rw [ed, isMarkGo] at em
      have hq2 := s2 _ _ hq
      have hm2 := s2 _ _ hm
      refine s_if (b := decide (((j + 1 : Nat) : Int) ≤ (cntM row marks (mark - ((j + 1 : Nat) : Int)) : Nat))) (fun Q' q' => ?_) ?_ ?_
      · refine ⟨_, rfl, _, rfl, p, _, (i : Nat), .ref q, rfl, rfl, SqL.of (s2 _ _ R.top), atI_ref (by omega) (by rw [Int.toNat_natCast]; exact gp), q, rfl, ⟨_, SqL.of hq2⟩, fun D hD => ?_⟩
        refine lcT (row.map fun x => if decide (mark - ((j + 1 : Nat) : Int) ≤ mk marks x) then some (V.int x) else none) (by simp) (wk_list (SqL.of hq2)) (by simp; omega) hD ?_ ?_ (gN_mono _) ?_
        · rintro l x C z H3 s3 ⟨hx, rfl⟩ _ hz Nx kn
          obtain ⟨one, ho, rfl⟩ := mapV_get hx
          obtain ⟨o0, o1⟩ := rin one (List.mem_of_getElem? ho)
          have hn := get_some (xs := marks) (i := one.toNat) (by omega)
          rw [List.getElem?_map, ho] at hz
          have hz : (if decide (mark - ((j + 1 : Nat) : Int) ≤ mk marks one) then some (V.int one) else none) = z := Option.some.inj hz
          have emk : mk marks one = marks[one.toNat]'(by omega) := by unfold mk; simp [hn]
          rw [← emk] at hn
          refine ⟨rfl, _, rfl, _, rfl, m, _, one, .int (mk marks one), rfl, rfl, SqL.of (s3 _ _ hm2), atI_int o0 hn, _, rfl, _, rfl, _, _, rfl, rfl, _, _, rfl, rfl, _, rfl, ?_⟩
          rw [show (mark - (1 + (j : Int))) = mark - ((j + 1 : Nat) : Int) by omega]
          by_cases hc : mark - ((j + 1 : Nat) : Int) ≤ mk marks one
          · rw [decide_eq_true hc]
            rw [decide_eq_true hc, if_pos rfl] at hz
            subst hz
            refine iteT ?_
            exact ⟨_, rfl, kn _ (Same.refl _)⟩
          · rw [decide_eq_false hc]
            rw [decide_eq_false hc] at hz
            subst hz
            refine iteF ?_
            exact kn _ (Same.refl _)
        · intro H3 L3
          refine ⟨D, _, rfl, .inl (SqL.of (L3.get List.mem_cons_self)), _, rfl, _, _, rfl, rfl, _, rfl, ?_⟩
          rw [fm_filter]
          rw [show (1 + (j : Int)) = ((j + 1 : Nat) : Int) by omega]
          exact q' _ L3.sm
        · rintro σ H Q Q' f ⟨v, e1, w, e2, p, xs, i, v', e3, e4, e5, e6, u, e7, u', e8, i1, j1, e9, e10, i2, j2, e11, e12, b, e13, q⟩
          exact ⟨v, e1, w, e2, p, xs, i, v', e3, e4, e5, e6, u, e7, u', e8, i1, j1, e9, e10, i2, j2, e11, e12, b, e13, f _ _ q⟩
      · intro e H3 s3
        rw [if_pos (of_decide_eq_true e)] at em
        rw [em] at k
        exact ⟨_, rfl, _, _, rfl, rfl, k H3 (s2.trans s3)⟩
      · intro e H3 s3
        rw [if_neg (of_decide_eq_false e)] at em
        exact ⟨_, rfl, s2.trans s3, em⟩
    · rintro σ H2 ⟨x4, rfl, s2, em⟩
      rw [e1, List.drop_eq_nil_of_le (by simp), isMarkGo] at em
      rw [em] at k
      exact k H2 s2
end Cc

namespace Cc
open PySem L2
/-! last_known -/
def sp_last_known : Sp := fun vs H Q _ => ∃ (p : Addr) (ps : List Addr) (rows : List (List Int)) (us : List Int), vs = [.ref p] ∧ Rows H p ps rows ∧ us.length ≤ 1000 ∧ UpsOk us ∧ TreeOf us rows ∧
  ∀ H', Same H H' → Q (.int (maxTm us rows)) H'
def t_last_known (K : PySem.W.Frag) : TS :=
(tSeq (tPar3 1 2 3 (tCons tDNewK (tCons (tLst (tCons (tC (.int 0)) tNil)) (tCons (tC (.int 0)) tNil))))
    (tSeq (sDPut (tVar 1) (tC (.int 0)) (tC (.int 0)))
    (tSeq (tWhile (tTest (tOp qLt (tVar 3) (tCB (qLen K) (tCons (tVar 2) tNil))))
    (tSeq (tFor (iEnum K (tCons (tOp (rIxL K) (tVar 0) (tOp (rIxL K) (tVar 2) (tVar 3))) tNil)) (gTup K 2 (gCons (gName 4) (gCons (gName 5) gNil)))
      (tSeq (sDPut (tVar 1) (tVar 5) (tOp qAdd (tOp qAdd (tDGet (tVar 1) (tOp (rIxL K) (tVar 2) (tVar 3))) (tVar 4)) (tC (.int 1))))
        (tDrop (tBM K "list" rAppend (tVar 2) (tCons (tVar 5) tNil)))))
      (tAug 3 (tC (.int 1)) (ipI fun i j => i + j))))
    (tRet (tCB (rMax K) (tCons (tListVals (tVar 1)) tNil))))))
theorem v_last_known {K : PySem.W.Frag} {vs : List V} {H : Hp} {Q : VK} {E : XK} (h : sp_last_known vs H Q E) : t_last_known K (fin Q) (st0 6 vs) H := by
  obtain ⟨p, ps, rows, us, rfl, R, hul, hu, ht, k⟩ := h
  have hrl := ht.len
  have hpl := R.len
  intro d hd
  have L1 := (Lo.nil H).al hd (.dK [])
  refine ⟨by show 1 ≤ sizeLine; decide, fun l hl => ?_⟩
  have L2 := L1.al hl (intsO [0])
  refine ⟨_, _, _, rfl, ?_⟩
  refine ⟨_, rfl, d, _, rfl, DPut.k (k := .inl 0) (L2.get (List.mem_cons_of_mem _ List.mem_cons_self)) (by decide), ?_⟩
  have e : putK ([] : List (Key × V)) (.inl 0) (.int 0) = endsK us rows [0] := by
    unfold endsK
    show [(Sum.inl 0, V.int 0)] = [(Sum.inl 0, V.int (tm us rows 0))]
    rw [tm_zero]
  rw [e]
  have L3 := Lo.wr (A := [(l, intsO [0])]) (B := []) L2 (.dK (endsK us rows [0]))
  dsimp only
  refine q_whN (fun m σ H' => ∃ (s : Nat) (line : List Int) (x4 x5 : Option V), σ = [some (.ref p), some (.ref d), some (.ref l), some (.int (s : Nat)), x4, x5] ∧ Lo H H' [(l, intsO line), (d, .dK (endsK us rows line))] ∧ LineAt us rows s line ∧ m = us.length + 1 - s) (us.length + 1) ?_ ?_ ?_
  · exact ⟨0, [0], none, none, rfl, L3, line_zero us rows, by omega⟩
  · rintro m σ H' ⟨s, line, x4, x5, rfl, L, hL, rfl⟩
    have hll := L.get List.mem_cons_self
    have hdd := L.get (List.mem_cons_of_mem _ List.mem_cons_self)
    refine ⟨_, rfl, _, rfl, l, _, rfl, .inl (SqL.of hll), _, _, rfl, rfl, _, rfl, ?_⟩
    refine ite2 (fun e => ?_) (fun e => ?_)
    · have e : s < line.length := by simp at e; exact e
      have hs := get_some e
      obtain ⟨q, eq, hq⟩ := hL.inr _ (List.mem_of_getElem? hs)
      rw [eq] at hs
      have hr := get_some (xs := rows) (i := q) (by omega)
      generalize rows[q]'(by omega) = row at hr
      have hpq := get_some (xs := ps) (i := q) (by omega)
      generalize ps[q]'(by omega) = pq at hpq
      have hrow := R.row hpq hr
      have st := hL.step ht hs hr
      have stl := st.len
      rw [List.length_append] at stl
      have hqa : atI (line.map V.int) (s : Int) = some (.int (q : Nat)) := atI_int (by omega) (by rw [Int.toNat_natCast]; exact hs)
      have hql : (q : Int) ∈ line := List.mem_of_getElem? hs
      refine ⟨_, rfl, _, rfl, _, rfl, l, _, (s : Nat), .int (q : Nat), rfl, rfl, SqL.of hll, hqa, p, _, (q : Nat), .ref pq, rfl, rfl, SqL.of (L.same _ _ R.top), atI_ref (by omega) (by rw [Int.toNat_natCast]; exact hpq), pq, _, rfl, SqL.of (L.same _ _ hrow), ?_⟩
      refine for_enum (xs := row.map V.int) (fun i σ H2 => ∃ x4 x5, σ = [some (.ref p), some (.ref d), some (.ref l), some (.int (s : Nat)), x4, x5] ∧ Lo H H2 [(l, intsO (line ++ row.take i)), (d, .dK (endsK us rows (line ++ row.take i)))]) ?_ ?_ ?_ ?_
      · exact ⟨_, _, rfl, by simpa using L⟩
      · rintro i σ H2 _ ⟨x4, x5, rfl, L4⟩
        exact SqL.of (L4.same _ _ hrow)
      · rintro i x σ H2 T hx ⟨y4, y5, rfl, L4⟩ hT
        obtain ⟨one, ho, rfl⟩ := mapV_get hx
        have hi := lt_of_get ho
        have L5 := L4.ju hT (.tup [.int (i : Nat), .int one])
        refine ⟨T, _, rfl, SqT.of upd_same, rfl, _, _, rfl, _, _, rfl, rfl, ?_⟩
        have hl5 := L5.get List.mem_cons_self
        have hd5 := L5.get (List.mem_cons_of_mem _ List.mem_cons_self)
        have nn : ¬ one ∈ line ++ row.take i := fun z => by
          have nd := st.nd
          rcases List.mem_append.mp z with z | z
          · exact (List.nodup_append.mp nd).2.2 one z one (List.mem_of_getElem? ho) rfl
          · obtain ⟨j, hj, ej⟩ := List.mem_iff_getElem.mp z
            rw [List.length_take] at hj
            have n2 := (List.nodup_append.mp nd).2.1
            have := (List.pairwise_iff_getElem.mp n2) j i (by omega) hi (by omega)
            rw [List.getElem_take] at ej
            rw [get_some hi] at ho
            exact this (ej.trans (Option.some.inj ho).symm)
        have et : line ++ row.take (i + 1) = (line ++ row.take i) ++ [one] := by
          rw [List.take_add_one, ho, List.append_assoc]; rfl
        obtain ⟨kk, e1, e2, e3⟩ := tm_child hu ht hr ho
        have hqa5 : atI ((line ++ row.take i).map V.int) (s : Int) = some (.int (q : Nat)) := atI_int (by omega) (by rw [Int.toNat_natCast, List.getElem?_append_left e]; exact hs)
        have g1 : valV (endsK us rows (line ++ row.take i)) (.inl (q : Int)) = some (.int (tm us rows q)) := by
          rw [endsK_val, if_pos (List.mem_append_left _ hql), Int.toNat_natCast]
        have g2 : valV (endsK us rows (line ++ row.take i)) (.inl one) = none := by rw [endsK_val, if_neg nn]
        refine ⟨_, rfl, _, rfl, _, rfl, l, _, (s : Nat), .int (q : Nat), rfl, rfl, SqL.of hl5, hqa5, d, .int (tm us rows q), rfl, ?_, _, rfl, _, _, rfl, rfl, _, _, rfl, rfl, _, rfl, _, rfl, d, _, rfl, DPut.k (k := .inl one) hd5 ?_, ?_⟩
        · exact .inl ⟨_, .inl (q : Int), .inl hd5, rfl, g1.symm⟩
        · unfold endsK
          rw [List.length_map]
          exact szl (by simp; omega)
        rw [putK_new _ g2]
        have ek : endsK us rows (line ++ row.take i) ++ [(Sum.inl one, V.int (tm us rows q + (i : Int) + 1))] = endsK us rows (line ++ row.take (i + 1)) := by
          rw [et]
          unfold endsK
          conv => rhs; rw [List.map_append]
          congr 1
          show [(Sum.inl one, V.int (tm us rows q + (i : Int) + 1))] = [(Sum.inl one, V.int (tm us rows one.toNat))]
          rw [show one.toNat = kk + 1 by omega, e3]
        rw [ek]
        have L6 := Lo.wr (A := [(l, intsO (line ++ row.take i))]) (B := []) L5 (.dK (endsK us rows (line ++ row.take (i + 1))))
        have hl6 := L6.get List.mem_cons_self
        refine ⟨_, rfl, .inl ⟨rfl, _, SqL.of hl6⟩, _, rfl, l, _, _, rfl, rfl, hl6, szl (by simp; omega), ?_⟩
        refine ⟨_, _, rfl, ?_⟩
        rw [map_int_snoc, ← et]
        exact L6.wr0 _
      · rintro σ H2 ⟨y4, y5, rfl, L4⟩
        rw [List.length_map, List.take_length] at L4
        refine ⟨_, rfl, _, _, rfl, rfl, ?_⟩
        exact ⟨us.length + 1 - (s + 1), by have := hL.len; omega, s + 1, _, _, _, rfl, L4, st, rfl⟩
    · have e : line.length ≤ s := by simp at e; omega
      have es : s = line.length := by have := hL.le; omega
      rw [es] at hL
      refine ⟨_, rfl, d, _, rfl, hdd, fun z hz => ?_⟩
      have L4 := L.al hz (.lst ((endsK us rows line).map (·.2)))
      have ev : (endsK us rows line).map (·.2) = (line.map fun x => tm us rows x.toNat).map V.int := by unfold endsK; simp
      rw [ev] at L4 ⊢
      refine ⟨z, _, rfl, SqL.of (L4.get List.mem_cons_self), ?_, fun mx h1 h2 => ?_⟩
      · rw [List.length_map]
        exact List.length_pos_of_mem hL.zero
      · have emx : mx = maxTm us rows := by
          obtain ⟨kk, hk1, hk2⟩ := maxTm_at us rows
          have h3 := h2 (tm us rows kk) (List.mem_map.mpr ⟨(kk : Int), hL.all ht hu kk hk1, by rw [Int.toNat_natCast]⟩)
          obtain ⟨x, hx, ex⟩ := List.mem_map.mp h1
          obtain ⟨kx, rfl, hkx⟩ := hL.inr x hx
          rw [Int.toNat_natCast] at ex
          have := maxTm_ge us rows hkx
          omega
        rw [emx]
        exact k _ L4.sm
  · rintro σ H Q Q' f ⟨v, e1, v2, e2, p', ys', e4, h2, i, j, e5, e6, b, e7, q⟩
    exact ⟨v, e1, v2, e2, p', ys', e4, h2, i, j, e5, e6, b, e7, f _ _ q⟩
end Cc

namespace Cc
open PySem L2
/-- [sorted(row) for row in rows] -/
theorem vr_sorted {K : PySem.W.Frag} {σ : L2.St} {H : Hp} {tl : TE} {j : Nat} {po : Addr} {pso : List Addr} {rows : List (List Int)} (h : Va tl σ H (.ref po)) (R : Rows H po pso rows) (hz : rows.length ≤ 10000) (hj : j < σ.length) :
    Vr (tLc (iList K tl) (gName j) tYes (tCB (rSortedI K) (tCons (tVar j) tNil)) [j]) σ H (fun v H' => ∃ p ps, v = .ref p ∧ Lo H H' (llC p ps (rows.map sortI)) ∧ ps.length = rows.length) := fun Q k => by
  refine h _ ⟨po, rfl, ⟨_, SqL.of R.top⟩, fun D hD => ?_⟩
  have hpl := R.len
  refine lcY (fun i y C => ∃ q r, (rows.map sortI)[i]? = some r ∧ y = .ref q ∧ C = [(q, intsO r)]) (wk_list (SqL.of R.top)) (by rw [List.length_map]; omega) hD ?_ ?_ (gN_mono _)
  · rintro i x C H1 s1 ⟨hx, rfl⟩ _ hi Q' kq
    obtain ⟨q, hq, rfl⟩ := mapA_get hx
    have hr := get_some (xs := rows) (i := i) (by have := lt_of_get hq; omega)
    refine ⟨wipe1_set _ _ _, _, slot_wset hj _, q, _, rfl, SqL.of (s1 _ _ (R.row hq hr)), fun ns l h1 h2 hl => ?_⟩
    have e := sortI_eq h1 h2
    subst e
    refine kq _ _ _ ((Lo.nil _).al hl _) ⟨l, _, ?_, rfl, rfl⟩
    rw [List.getElem?_map, hr]
    rfl
  · intro ys Cs H1 L1 h1 h2 h3
    rw [List.length_map] at h1 h2
    obtain ⟨ps, g1, g2, g3⟩ := rows_of_cells (rows := rows.map sortI) (by rw [List.length_map]; omega) (by rw [List.length_map]; omega) h3
    subst g2
    rw [g3] at L1
    exact k _ _ ⟨D, ps, rfl, L1, by rw [g1, List.length_map]⟩
theorem va_fld {K : PySem.W.Frag} {σ : L2.St} {H : Hp} {i : Nat} {x C dx : Addr} {fs : List (Str × V)} {f : Str} {v : V} (h : σ[i]? = some (some (.ref x))) (hx : H x = some (.ins C dx fs)) (c : Cls K C) (n : NoAttr K C f) (l : fs.lookup f = some v) : Va (tFld K (tVar i) f) σ H v :=
  fun Q q => ⟨_, h, x, C, dx, _, _, rfl, hx, c, n, l, q⟩
def sp_Fewest_shows (C : Addr) : Sp := fun vs H Q _ => ∃ (x dx p : Addr) (ps : List Addr) (rows : List (List Int)) (m : Addr) (marks : List Int) (a : Addr) (us : List Int), vs = [.ref x, .ref a] ∧ H x = some (.ins C dx (fewF p m)) ∧ Rows H p ps rows ∧ H m = some (intsO marks) ∧
  H a = some (intsO us) ∧ us.length ≤ 900 ∧ UpsOk us ∧ rows.length ≤ 900 ∧ marks.length ≤ 900 ∧ ∀ H', Same H H' → Q (.bl (showsM us rows marks)) H'
def t_Fewest_shows (K : PySem.W.Frag) : TS :=
(tSeq (tIfS (tOr (tTest (tOp (rNeD K) (tLc (iList K (tFld K (tVar 0) "orders")) (gName 2) tYes (tCB (rSortedI K) (tCons (tVar 2) tNil)) [2]) (tCall sp_called_by [] E0 (tCons (tVar 1) tNil)))) (tTest (tOp rNe (tCB (qLen K) (tCons (tFld K (tVar 0) "marks") tNil)) (tCB (qLen K) (tCons (tFld K (tVar 0) "orders") tNil)))))
    (tRet (tC (.bl false)))
    tNext)
    (tSeq (tIfS (tNot (tB (tCB (rAll K) (tCons (tLc (iRng1 (tCons (tCB (qLen K) (tCons (tFld K (tVar 0) "marks") tNil)) tNil)) (gName 3) tYes (tCall sp_is_mark [] E0 (tCons (tFld K (tVar 0) "orders") (tCons (tFld K (tVar 0) "marks") (tCons (tVar 3) tNil)))) [3]) tNil))))
    (tRet (tC (.bl false)))
    tNext)
    (tRet (tOp rEq (tCall sp_last_known [] E0 (tCons (tFld K (tVar 0) "orders") tNil)) (tOp (rIxL K) (tFld K (tVar 0) "marks") (tC (.int 0)))))))
theorem v_Fewest_shows {K : PySem.W.Frag} {C : Addr} (T : KFewest K C) {vs : List V} {H : Hp} {Q : VK} {E : XK} (h : sp_Fewest_shows C vs H Q E) : t_Fewest_shows K (fin Q) (st0 4 vs) H := by
  obtain ⟨x, dx, p, ps, rows, m, marks, a, us, rfl, hx, R, hm, ha, hul, hu, hrl, hml, k⟩ := h
  have hpl := R.len
  unfold showsM at k
  refine q_ret (b := decide (¬ (rows.map sortI = calledM us ∧ marks.length = rows.length))) (fun Q' q' => ?_) ?_ ?_
  · refine c_op (vr_sorted (va_fld rfl hx T.cl T.nO (fewF_orders _ _)) R (by omega) (by show 2 < 4; decide)) ?_
    rintro _ H1 ⟨p1, ps1, rfl, L1, hps1⟩
    refine ⟨_, rfl, a, us, rfl, L1.same _ _ ha, by omega, hu, fun p2 ps2 H2 L2 hps2 => ?_⟩
    have R1 : Rows H1 p1 ps1 (rows.map sortI) := Rows.of_mem L1.get (by rw [List.length_map]; exact hps1)
    have R2 : Rows H2 p2 ps2 (calledM us) := Rows.of_mem L2.get (by rw [calledM_len]; exact hps2)
    have s2 : Same H H2 := L1.sm.trans L2.sm
    refine ⟨_, _, (R1.same L2.sm).dp, R2.dp, shLL _, shLL _, _, rfl, ?_⟩
    rw [eqv_LL]
    by_cases e1 : rows.map sortI = calledM us
    · rw [decide_eq_true e1]
      refine iteF ?_
      refine ⟨_, rfl, x, C, dx, _, _, rfl, s2 _ _ hx, T.cl, T.nM, fewF_marks _ _, m, _, rfl, .inl (SqL.of (s2 _ _ hm)), _, rfl, x, C, dx, _, _, rfl, s2 _ _ hx, T.cl, T.nO, fewF_orders _ _, p, _, rfl, .inl (SqL.of (s2 _ _ R.top)), rfl, _, rfl, ?_⟩
      have e2 : (!decide (V.int (((marks.map V.int).length : Nat) : Int) = V.int (((ps.map V.ref).length : Nat) : Int))) = decide (¬ (rows.map sortI = calledM us ∧ marks.length = rows.length)) := by
        rw [List.length_map, List.length_map, hpl]
        by_cases e : marks.length = rows.length
        · simp [e1, e]
        · simp [e]; omega
      rw [e2]
      exact q' _ s2
    · rw [decide_eq_false e1]
      refine iteT ?_
      rw [show decide (¬ (rows.map sortI = calledM us ∧ marks.length = rows.length)) = true from decide_eq_true (fun z => e1 z.1)] at q'
      exact q' _ s2
  · intro e H1 s1
    have e := of_decide_eq_true e
    have : (decide (rows.map sortI = calledM us) && decide (marks.length = rows.length)) = false := by
      rw [Bool.and_eq_false_iff]
      by_cases e1 : rows.map sortI = calledM us
      · exact .inr (decide_eq_false fun z => e ⟨e1, z⟩)
      · exact .inl (decide_eq_false e1)
    rw [this] at k
    exact k H1 s1
  · intro e H1 s1
    obtain ⟨e1, e2⟩ := Decidable.not_not.mp (of_decide_eq_false e)
    rw [decide_eq_true e1, decide_eq_true e2] at k
    have ht : TreeOf us rows := by
      unfold TreeOf
      rw [e1, calledM_eq hu]
    have hrl2 := ht.len
    have hx1 := s1 _ _ hx
    have hm1 := s1 _ _ hm
    have R1 := R.same s1
    have rr : ∀ r ∈ rows, r.length ≤ 1000 := fun r hr => by
      have h1 : sortI r ∈ calledM us := by rw [← e1]; exact List.mem_map.mpr ⟨r, hr, rfl⟩
      have := calledM_row us _ h1
      rw [sortI_len] at this
      omega
    refine q_ret (b := !((List.range marks.length).all fun p => isMarkM rows marks p)) (fun Q' q' => ?_) ?_ ?_
    · refine ⟨_, rfl, x, C, dx, _, _, rfl, hx1, T.cl, T.nM, fewF_marks _ _, m, _, rfl, .inl (SqL.of hm1), _, rfl, by omega, by simp; omega, fun D hD => ?_⟩
      have en : (((marks.map V.int).length : Nat) : Int).toNat = marks.length := by simp
      refine lcV (((List.range marks.length).map fun p => isMarkM rows marks p).map V.bl) (by simp) wk_range (by rw [en]; omega) hD ?_ ?_ (gN_mono _)
      · rintro i y C' z H2 s2 ⟨rfl, rfl⟩ _ hz Q'' kq
        have hi := lt_of_get hz
        rw [List.length_map, List.length_map, List.length_range] at hi
        rw [List.getElem?_map, List.getElem?_map, List.getElem?_range hi] at hz
        have hz : V.bl (isMarkM rows marks i) = z := Option.some.inj hz
        subst hz
        rw [show (0 + (i : Int)) = ((i : Nat) : Int) by omega]
        refine ⟨rfl, _, rfl, x, C, dx, _, _, rfl, s2 _ _ hx1, T.cl, T.nO, fewF_orders _ _, _, rfl, x, C, dx, _, _, rfl, s2 _ _ hx1, T.cl, T.nM, fewF_marks _ _, _, rfl, ?_⟩
        refine ⟨p, ps, rows, m, marks, i, rfl, R1.same s2, s2 _ _ hm1, by omega, e2.symm, by omega, rr, by rw [e2, hrl2]; exact ht.rowsIn, fun H3 s3 => kq _ s3⟩
      · intro H2 L2
        refine ⟨D, _, rfl, SqL.of (L2.get List.mem_cons_self), _, rfl, ?_⟩
        rw [List.all_map]
        exact q' _ L2.sm
    · intro e3 H2 s2
      have e3 : ((List.range marks.length).all fun p => isMarkM rows marks p) = false := by simpa using e3
      rw [e3] at k
      exact k H2 (s1.trans s2)
    · intro e3 H2 s2
      have e3 : ((List.range marks.length).all fun p => isMarkM rows marks p) = true := by simpa using e3
      rw [e3] at k
      refine ⟨_, rfl, x, C, dx, _, _, rfl, s2 _ _ hx1, T.cl, T.nO, fewF_orders _ _, p, ps, rows, us, rfl, R1.same s2, by omega, hu, ht, fun H3 s3 => ?_⟩
      have hm0 := get_some (xs := marks) (i := 0) (by omega)
      have eg : marks.getD 0 0 = marks[0]'(by omega) := by simp [hm0]
      rw [← eg] at hm0
      refine ⟨_, rfl, x, C, dx, _, _, rfl, s3 _ _ (s2 _ _ hx1), T.cl, T.nM, fewF_marks _ _, m, _, 0, .int (marks.getD 0 0), rfl, rfl, SqL.of (s3 _ _ (s2 _ _ hm1)), atI_int (by decide) hm0, rfl, ?_⟩
      have kk := k H3 (s1.trans (s2.trans s3))
      have e4 : decide (V.int (maxTm us rows) = V.int (marks.getD 0 0)) = (true && true && true && decide (maxTm us rows = marks.getD 0 0)) := by simp
      rw [e4]
      exact kk
end Cc

namespace Cc
open PySem L2
/-! _law_are_marks -/
def sp__law_are_marks : Sp := fun vs H Q _ => ∃ (p : Addr) (ps : List Addr) (rows : List (List Int)) (m : Addr) (marks : List Int), vs = [.ref p, .ref m] ∧ Rows H p ps rows ∧ H m = some (intsO marks) ∧
  rows.length = marks.length ∧ marks.length ≤ 1000 ∧ (∀ r ∈ rows, r.length ≤ 1000) ∧ RowsIn marks.length rows ∧ ∀ H', Same H H' → Q (.bl (areMarksM rows marks)) H'
def t__law_are_marks (K : PySem.W.Frag) : TS :=
(tSeq (tFor (iEnum K (tCons (tVar 0) tNil)) (gTup K 2 (gCons (gName 2) (gCons (gName 3) gNil)))
    (tSeq (tAsg (tRevL K (tCB (rSortedI K) (tCons (tLc (iList K (tVar 3)) (gName 4) tYes (tOp (rIxL K) (tVar 1) (tVar 4)) [4]) tNil))) (gName 5))
      (tSeq (tAsg (tOp rCat (tLst (tCons (tC (.int 0)) tNil)) (tLc (iEnum K (tCons (tVar 5) tNil)) (gTup K 2 (gCons (gName 6) (gCons (gName 7) gNil))) tYes (tOp qAdd (tOp qAdd (tVar 6) (tC (.int 1))) (tVar 7)) [6, 7])) (gName 8))
      (tIfS (tNot (tTest (tChain qLe qLe (tC (.int 0)) (tOp (rIxL K) (tVar 1) (tVar 2)) (tCB (rMax K) (tCons (tVar 8) tNil)))))
      (tRet (tC (.bl false)))
      tNext))))
    (tRet (tC (.bl true))))
theorem v__law_are_marks {K : PySem.W.Frag} {vs : List V} {H : Hp} {Q : VK} {E : XK} (h : sp__law_are_marks vs H Q E) : t__law_are_marks K (fin Q) (st0 9 vs) H := by
  obtain ⟨p, ps, rows, m, marks, rfl, R, hm, hrl, hml, rr, rin, k⟩ := h
  have hpl := R.len
  refine ⟨_, rfl, p, _, rfl, SqL.of R.top, ?_⟩
  refine for_enum (xs := ps.map V.ref) (fun i σ H1 => ∃ (x2 x3 x5 x8 : Option V), σ = [some (.ref p), some (.ref m), x2, x3, none, x5, none, none, x8] ∧ Same H H1 ∧ ∀ j, j < i → areMarkR (rows.getD j []) marks (marks.getD j 0) = true) ?_ ?_ ?_ ?_
  · exact ⟨_, _, _, _, rfl, Same.refl H, fun j hj => by omega⟩
  · rintro i σ H1 _ ⟨x2, x3, x5, x8, rfl, s1, _⟩
    exact SqL.of (s1 _ _ R.top)
  · rintro i x σ H1 T hx ⟨x2, x3, x5, x8, rfl, s1, hall⟩ hT
    obtain ⟨q, hq, rfl⟩ := mapA_get hx
    have hi := lt_of_get hq
    have gr := get_some (xs := rows) (i := i) (by omega)
    have gm := get_some (xs := marks) (i := i) (by omega)
    generalize rows[i]'(by omega) = row at gr
    generalize marks[i]'(by omega) = mark at gm
    have eR : areMarkR (rows.getD i []) marks (marks.getD i 0) = areMarkR row marks mark := by simp [gr, gm]
    have s2 := s1.trans (Same.new hT (.tup [.int (i : Nat), .ref q]))
    generalize hH2 : upd H1 T (.tup [.int (i : Nat), .ref q]) = H2 at s2
    have hT2 : H2 T = some (.tup [.int (i : Nat), .ref q]) := by rw [← hH2]; exact upd_same
    have hq2 := s2 _ _ (R.row hq gr)
    have rl := rr row (List.mem_of_getElem? gr)
    have rin := rin row (List.mem_of_getElem? gr)
    refine ⟨T, _, rfl, SqT.of hT2, rfl, _, _, rfl, _, _, rfl, rfl, ?_⟩
    refine q_setR (R := fun v H3 => ∃ z, v = .ref z ∧ H3 z = some (intsO (topsM row marks)) ∧ Same H2 H3) (fun Q' q' => ?_) ?_
    · refine ⟨_, rfl, q, rfl, ⟨_, SqL.of hq2⟩, fun D hD => ?_⟩
      refine lcV ((row.map (mk marks)).map V.int) (by simp) (wk_list (SqL.of hq2)) (by simp; omega) hD ?_ ?_ (gN_mono _)
      · rintro l x C z H3 s3 ⟨hx, rfl⟩ _ hz Q'' kq
        obtain ⟨one, ho, rfl⟩ := mapV_get hx
        obtain ⟨o0, o1⟩ := rin one (List.mem_of_getElem? ho)
        have hn := get_some (xs := marks) (i := one.toNat) (by omega)
        have emk : mk marks one = marks[one.toNat]'(by omega) := by unfold mk; simp [hn]
        rw [← emk] at hn
        rw [List.getElem?_map, List.getElem?_map, ho] at hz
        have hz : V.int (mk marks one) = z := Option.some.inj hz
        subst hz
        exact ⟨rfl, _, rfl, _, rfl, m, _, one, .int (mk marks one), rfl, rfl, SqL.of (s3 _ _ (s2 _ _ hm)), atI_int o0 hn, kq _ (Same.refl _)⟩
      · intro H3 L3
        refine ⟨D, _, rfl, SqL.of (L3.get List.mem_cons_self), fun ns z h1 h2 hz => ?_⟩
        have e := sortI_eq h1 h2
        subst e
        refine ⟨z, _, rfl, SqL.of upd_same, fun y hy => q' _ _ ⟨y, rfl, ?_, L3.sm.trans ((Same.new hz _).trans (Same.new hy _))⟩⟩
        rw [upd_same]
        unfold topsM
        simp [intsO]
    rintro _ H3 ⟨z, rfl, hz, s3⟩
    have tl := tops_len row marks
    refine q_setR (R := fun v H4 => ∃ y, v = .ref y ∧ H4 y = some (intsO (leastM row marks)) ∧ Same H3 H4) (fun Q' q' => ?_) ?_
    · refine ⟨by show 1 ≤ sizeLine; decide, fun y hy => ?_⟩
      have M1 := (Lo.nil H3).al hy (.lst [.int 0])
      refine ⟨_, rfl, z, _, rfl, SqL.of (M1.same _ _ hz), fun D hD => ?_⟩
      refine lcV (((topsM row marks).mapIdx fun i t => (i : Int) + 1 + t).map V.int) (by simp) (wk_enum (SqL.of (M1.same _ _ hz))) (by simp; omega) hD ?_ ?_ (gT2_mono _ _ _)
      · rintro l x C w H4 s4 ⟨T2, u, rfl, hu, rfl⟩ hC hw Q'' kq
        obtain ⟨t, et, rfl⟩ := mapV_get hu
        rw [List.getElem?_map, List.getElem?_mapIdx, et] at hw
        have hw : V.int ((l : Int) + 1 + t) = w := Option.some.inj hw
        subst hw
        exact ⟨T2, _, rfl, SqT.of (hC List.mem_cons_self), rfl, _, _, rfl, _, _, rfl, rfl, rfl, _, rfl, _, _, rfl, rfl, _, rfl, _, _, rfl, rfl, kq _ (Same.refl _)⟩
      · intro H4 L4
        have M2 := M1.ca L4
        refine ⟨y, D, _, _, rfl, rfl, M2.get (List.mem_append_right _ List.mem_cons_self), M2.get (List.mem_append_left _ List.mem_cons_self), by simp; exact sz (by omega), fun w hw => q' _ _ ⟨w, rfl, ?_, M2.sm.trans (Same.new hw _)⟩⟩
        rw [upd_same]
        rfl
    rintro _ H4 ⟨y, rfl, hy, s4⟩
    have sH : Same H H4 := s2.trans (s3.trans s4)
    have eM : areMarkR row marks mark = (decide (0 ≤ mark) && decide (mark ≤ maxL (leastM row marks))) := rfl
    refine s_ret (b := !(areMarkR row marks mark)) (fun Q' q' => ?_) ?_ ?_
    · refine ⟨_, rfl, _, rfl, m, _, (i : Nat), .int mark, rfl, rfl, SqL.of (sH _ _ hm), atI_int (by omega) (by rw [Int.toNat_natCast]; exact gm), 0, mark, rfl, rfl, _, rfl, ?_⟩
      by_cases h0 : 0 ≤ mark
      · rw [decide_eq_true h0]
        refine iteT ?_
        refine ⟨_, rfl, y, _, rfl, SqL.of hy, by simp [leastM], fun mx h1 h2 => ⟨_, _, rfl, rfl, _, rfl, ?_⟩⟩
        rw [maxL_eq h1 h2]
        rw [eM, decide_eq_true h0, Bool.true_and] at q'
        exact q' _ (Same.refl _)
      · rw [decide_eq_false h0]
        refine iteF ?_
        rw [eM, decide_eq_false h0, Bool.false_and] at q'
        exact ⟨_, rfl, q' _ (Same.refl _)⟩
    · intro e H5 s5
      have e : areMarkR row marks mark = false := by simpa using e
      have : areMarksM rows marks = false := by
        unfold areMarksM
        rw [List.all_eq_false]
        exact ⟨i, List.mem_range.mpr (by omega), by rw [eR, e]; simp⟩
      rw [this] at k
      exact k _ (sH.trans s5)
    · intro e H5 s5
      have e : areMarkR row marks mark = true := by simpa using e
      refine ⟨_, _, _, _, rfl, sH.trans s5, fun j hj => ?_⟩
      by_cases ej : j = i
      · rw [ej, eR, e]
      · exact hall j (by omega)
  · rintro σ H1 ⟨x2, x3, x5, x8, rfl, s1, hall⟩
    have : areMarksM rows marks = true := by
      unfold areMarksM
      rw [List.all_eq_true]
      intro j hj
      have hj := List.mem_range.mp hj
      exact hall j (by simp; omega)
    rw [this] at k
    exact k _ s1
/-! _law_is_fewest -/
def sp__law_is_fewest : Sp := fun vs H Q _ => ∃ (a : Addr) (us : List Int) (p : Addr) (ps : List Addr) (rows : List (List Int)) (m : Addr) (marks : List Int), vs = [.ref a, .ref p, .ref m] ∧ H a = some (intsO us) ∧ Rows H p ps rows ∧ H m = some (intsO marks) ∧
  us.length ≤ 900 ∧ rows.length ≤ 900 ∧ marks.length ≤ 900 ∧ ∀ H', Same H H' → Q (.bl (isFewM us rows marks)) H'
def t__law_is_fewest (K : PySem.W.Frag) : TS :=
(tSeq (tIfS (tOr (tTest (tOp (rNeD K) (tLc (iList K (tVar 1)) (gName 3) tYes (tCB (rSortedI K) (tCons (tVar 3) tNil)) [3]) (tCall sp__law_called [] E0 (tCons (tVar 0) tNil)))) (tTest (tOp rNe (tCB (qLen K) (tCons (tVar 2) tNil)) (tCB (qLen K) (tCons (tVar 1) tNil)))))
    (tRet (tC (.bl false)))
    tNext)
    (tRet (tAndV (tCall sp__law_are_marks [] E0 (tCons (tVar 1) (tCons (tVar 2) tNil))) (tOp rEq (tCall sp__law_last [] E0 (tCons (tVar 1) tNil)) (tOp (rIxL K) (tVar 2) (tC (.int 0)))))))
theorem lrowM_len (us : List Int) (p : Nat) : (lrowM us p).length ≤ us.length := by
  unfold lrowM
  refine Nat.le_trans (List.length_filterMap_le _ _) ?_
  simp
theorem v__law_is_fewest {K : PySem.W.Frag} {vs : List V} {H : Hp} {Q : VK} {E : XK} (h : sp__law_is_fewest vs H Q E) : t__law_is_fewest K (fin Q) (st0 4 vs) H := by
  obtain ⟨a, us, p, ps, rows, m, marks, rfl, ha, R, hm, hul, hrl, hml, k⟩ := h
  have hpl := R.len
  unfold isFewM at k
  refine q_ret (b := decide (¬ (rows.map sortI = lcalledM us ∧ marks.length = rows.length))) (fun Q' q' => ?_) ?_ ?_
  · refine c_op (vr_sorted (va_var rfl) R (by omega) (by show 3 < 4; decide)) ?_
    rintro _ H1 ⟨p1, ps1, rfl, L1, hps1⟩
    refine ⟨_, rfl, a, us, rfl, L1.same _ _ ha, by omega, fun p2 ps2 H2 L2 hps2 => ?_⟩
    have R1 : Rows H1 p1 ps1 (rows.map sortI) := Rows.of_mem L1.get (by rw [List.length_map]; exact hps1)
    have R2 : Rows H2 p2 ps2 (lcalledM us) := Rows.of_mem L2.get (by rw [lcalledM_len]; exact hps2)
    have s2 : Same H H2 := L1.sm.trans L2.sm
    refine ⟨_, _, (R1.same L2.sm).dp, R2.dp, shLL _, shLL _, _, rfl, ?_⟩
    rw [eqv_LL]
    by_cases e1 : rows.map sortI = lcalledM us
    · rw [decide_eq_true e1]
      refine iteF ?_
      refine ⟨_, rfl, m, _, rfl, .inl (SqL.of (s2 _ _ hm)), _, rfl, p, _, rfl, .inl (SqL.of (s2 _ _ R.top)), rfl, _, rfl, ?_⟩
      have e2 : (!decide (V.int (((marks.map V.int).length : Nat) : Int) = V.int (((ps.map V.ref).length : Nat) : Int))) = decide (¬ (rows.map sortI = lcalledM us ∧ marks.length = rows.length)) := by
        rw [List.length_map, List.length_map, hpl]
        by_cases e : marks.length = rows.length
        · simp [e1, e]
        · simp [e]; omega
      rw [e2]
      exact q' _ s2
    · rw [decide_eq_false e1]
      refine iteT ?_
      rw [show decide (¬ (rows.map sortI = lcalledM us ∧ marks.length = rows.length)) = true from decide_eq_true (fun z => e1 z.1)] at q'
      exact q' _ s2
  · intro e H1 s1
    have e := of_decide_eq_true e
    have : (decide (rows.map sortI = lcalledM us) && decide (marks.length = rows.length)) = false := by
      rw [Bool.and_eq_false_iff]
      by_cases e1 : rows.map sortI = lcalledM us
      · exact .inr (decide_eq_false fun z => e ⟨e1, z⟩)
      · exact .inl (decide_eq_false e1)
    rw [this] at k
    exact k H1 s1
  · intro e H1 s1
    obtain ⟨e1, e2⟩ := Decidable.not_not.mp (of_decide_eq_false e)
    rw [decide_eq_true e1, decide_eq_true e2] at k
    have ht : TreeOf us rows := e1
    have hrl2 := ht.len
    have rr : ∀ r ∈ rows, r.length ≤ 1000 := fun r hr => by
      obtain ⟨i, hi, rfl⟩ := List.mem_iff_getElem.mp hr
      have h1 := ht.row (get_some hi)
      have h2 := lrowM_len us i
      rw [← h1, sortI_len] at h2
      omega
    have R1 := R.same s1
    refine ⟨_, rfl, _, rfl, p, ps, rows, m, marks, rfl, R1, s1 _ _ hm, e2.symm, by omega, rr, by rw [e2, hrl2]; exact ht.rowsIn, fun H2 s2 => ?_⟩
    refine ⟨_, rfl, ?_⟩
    cases eA : areMarksM rows marks with
    | false =>
      rw [eA] at k
      exact iteF (k _ (s1.trans s2))
    | true =>
      rw [eA] at k
      refine iteT ?_
      have hm0 := get_some (xs := marks) (i := 0) (by omega)
      have eg : marks.getD 0 0 = marks[0]'(by omega) := by simp [hm0]
      rw [← eg] at hm0
      refine ⟨_, rfl, p, ps, rows, rfl, R1.same s2, by omega, by omega, by rw [hrl2]; exact ht.rowsIn, fun H3 s3 => ?_⟩
      refine ⟨_, rfl, m, _, 0, .int (marks.getD 0 0), rfl, rfl, SqL.of (s3 _ _ (s2 _ _ (s1 _ _ hm))), atI_int (by decide) hm0, rfl, ?_⟩
      have e4 : decide (V.int (lastM rows) = V.int (marks.getD 0 0)) = (true && true && true && decide (lastM rows = marks.getD 0 0)) := by simp
      rw [e4]
      exact k H3 (s1.trans (s2.trans s3))
/-! _law_says -/
def sp__law_says : Sp := fun vs H Q _ => ∃ (b c : Bool), vs = [.bl b, .bl c] ∧ ∀ H', Same H H' → Q (.bl (decide (b = c))) H'
def t__law_says (K : PySem.W.Frag) : TS :=
(tRet (tAndV (tCB (rIsi K) (tCons (tVar 0) (tCons (tC (.ty "bool")) tNil))) (tOp rEq (tVar 0) (tVar 1))))
theorem v__law_says {K : PySem.W.Frag} {vs : List V} {H : Hp} {Q : VK} {E : XK} (h : sp__law_says vs H Q E) : t__law_says K (fin Q) (st0 2 vs) H := by
  obtain ⟨b, c, rfl, k⟩ := h
  refine ⟨_, rfl, .bl b, .ty "bool", _, _, true, rfl, .ty _, .base (.bl b), kit_ty (by decide +kernel), _, rfl, ?_⟩
  refine iteT ?_
  refine ⟨_, rfl, _, rfl, rfl, ?_⟩
  have e : decide (V.bl b = V.bl c) = decide (b = c) := by simp
  rw [e]
  exact k _ (Same.refl _)
/-! _law_told -/
def sp__law_told (C : Addr) : Sp := fun vs H Q _ => ∃ (x dx p : Addr) (ps : List Addr) (rows : List (List Int)) (m : Addr) (marks : List Int), vs = [.ref x] ∧ H x = some (.ins C dx (fewF p m)) ∧ Rows H p ps rows ∧ H m = some (intsO marks) ∧
  marks.length ≤ 100 ∧ rows.length ≤ 100 ∧ (∀ r ∈ rows, r.length ≤ 100) ∧ ∀ H', Same H H' → Q (.bl true) H'
def t__law_told (K : PySem.W.Frag) : TS :=
(tSeq (tIfS (tOr (tNot (tB (tCB (rIsi K) (tCons (tFld K (tVar 0) "orders") (tCons (tC (.ty "list")) tNil))))) (tNot (tB (tCB (rAll K) (tCons (tLc (iList K (tFld K (tVar 0) "orders")) (gName 1) tYes (tCB (rIsi K) (tCons (tVar 1) (tCons (tC (.ty "list")) tNil))) [1]) tNil)))))
    (tRet (tC (.bl false)))
    tNext)
    (tSeq (tAsg (tCB (qList K) (tCons (tFld K (tVar 0) "marks") tNil)) (gName 2))
    (tSeq (tFor (iList K (tFld K (tVar 0) "orders")) (gName 1)
    (tAsg (tOp rCat (tVar 2) (tVar 1)) (gName 2)))
    (tRet (tAndV (tCB (rIsi K) (tCons (tFld K (tVar 0) "marks") (tCons (tC (.ty "list")) tNil))) (tCB (rAll K) (tCons (tLc (iList K (tVar 2)) (gName 3) tYes (tCall sp_is_whole [] E0 (tCons (tVar 3) tNil)) [3]) tNil)))))))
theorem rep_get {α : Type} {n i : Nat} {x z : α} (h : ((List.replicate n x))[i]? = some z) : z = x := by
  have hi := lt_of_get h
  rw [List.length_replicate] at hi
  rw [List.getElem?_replicate, if_pos hi] at h
  exact (Option.some.inj h).symm
theorem flen {n : Nat} : ∀ (l : List (List Int)), (∀ r ∈ l, r.length ≤ n) → l.flatten.length ≤ l.length * n
  | [], _ => by simp
  | r :: l, h => by
    have h1 := h r List.mem_cons_self
    have h2 := flen l fun s hs => h s (List.mem_cons_of_mem _ hs)
    rw [List.flatten_cons, List.length_append, List.length_cons, Nat.add_mul]
    omega
theorem v__law_told {K : PySem.W.Frag} {C : Addr} (T : KFewest K C) {vs : List V} {H : Hp} {Q : VK} {E : XK} (h : sp__law_told C vs H Q E) : t__law_told K (fin Q) (st0 4 vs) H := by
  obtain ⟨x, dx, p, ps, rows, m, marks, rfl, hx, R, hm, hml, hrl, rr, k⟩ := h
  have hpl := R.len
  refine q_no (fun Q' q' => ?_) ?_
  · refine ⟨_, rfl, x, C, dx, _, _, rfl, hx, T.cl, T.nO, fewF_orders _ _, .ref p, .ty "list", _, _, true, rfl, .ty _, .base (.lst R.top), kit_ty (by decide +kernel), _, rfl, ?_⟩
    refine iteF ?_
    refine ⟨_, rfl, x, C, dx, _, _, rfl, hx, T.cl, T.nO, fewF_orders _ _, p, rfl, ⟨_, SqL.of R.top⟩, fun D hD => ?_⟩
    refine lcV ((List.replicate ps.length true).map V.bl) (by simp) (wk_list (SqL.of R.top)) (by simp; omega) hD ?_ ?_ (gN_mono _)
    · rintro l y C' z H1 s1 ⟨hy, rfl⟩ _ hz Q'' kq
      obtain ⟨q, hq, rfl⟩ := mapA_get hy
      have gr := get_some (xs := rows) (i := l) (by have := lt_of_get hq; omega)
      rw [List.map_replicate] at hz
      have e := rep_get hz
      subst e
      exact ⟨rfl, _, rfl, .ref q, .ty "list", _, _, true, rfl, .ty _, .base (.lst (s1 _ _ (R.row hq gr))), kit_ty (by decide +kernel), kq _ (Same.refl _)⟩
    · intro H1 L1
      refine ⟨D, _, rfl, SqL.of (L1.get List.mem_cons_self), _, rfl, ?_⟩
      have e : (List.replicate ps.length true).all id = true := by simp
      rw [e]
      exact q' _ L1.sm
  · intro H1 s1
    refine q_setR (vr_list (va_fld rfl (s1 _ _ hx) T.cl T.nM (fewF_marks _ _)) (SqL.of (s1 _ _ hm))) ?_
    rintro _ H2 ⟨n0, rfl, hn0, rfl⟩
    have s2 := s1.trans (Same.new hn0 (.lst (marks.map V.int)))
    have hn2 : (upd H1 n0 (.lst (marks.map V.int))) n0 = some (intsO marks) := upd_same
    generalize upd H1 n0 (.lst (marks.map V.int)) = H2 at s2 hn2
    refine ⟨_, rfl, x, C, dx, _, _, rfl, s2 _ _ hx, T.cl, T.nO, fewF_orders _ _, p, rfl, ⟨_, SqL.of (s2 _ _ R.top)⟩, ?_⟩
    refine for_list (xs := ps.map V.ref) (fun i σ H3 => ∃ (x1 : Option V) (n : Addr), σ = [some (.ref x), x1, some (.ref n), none] ∧ Same H H3 ∧ H3 n = some (intsO (marks ++ (rows.take i).flatten))) ?_ ?_ ?_ ?_
    · exact ⟨_, n0, rfl, s2, by simpa using hn2⟩
    · rintro i σ H3 _ ⟨x1, n, rfl, s3, hn⟩
      exact SqL.of (s3 _ _ R.top)
    · rintro i y σ H3 hy ⟨x1, n, rfl, s3, hn⟩
      obtain ⟨q, hq, rfl⟩ := mapA_get hy
      have gr := get_some (xs := rows) (i := i) (by have := lt_of_get hq; omega)
      generalize rows[i]'(by have := lt_of_get hq; omega) = row at gr
      have l1 := flen (rows.take (i + 1)) (fun r hr => rr r (List.mem_of_mem_take hr))
      have l2 : (rows.take (i + 1)).length ≤ 100 := by rw [List.length_take]; omega
      have et : (rows.take (i + 1)).flatten = (rows.take i).flatten ++ row := by rw [List.take_add_one, gr]; simp
      rw [et] at l1
      have l3 : (rows.take (i + 1)).length * 100 ≤ 10000 := by omega
      refine ⟨_, rfl, _, rfl, n, q, _, _, rfl, rfl, hn, s3 _ _ (R.row hq gr), ?_, fun n2 hn2 => ?_⟩
      · rw [List.length_append] at l1
        rw [List.length_map, List.length_map, List.length_append]
        exact sz (by omega)
      rw [← List.map_append, List.append_assoc, ← et]
      exact ⟨_, n2, rfl, s3.trans (Same.new hn2 _), upd_same⟩
    · rintro σ H3 ⟨x1, n, rfl, s3, hn⟩
      have el : (ps.map V.ref).length = rows.length := by simp [hpl]
      rw [el, List.take_length] at hn
      have l1 := flen rows rr
      have l3 : rows.length * 100 ≤ 10000 := by omega
      have ll : (marks ++ rows.flatten).length ≤ 10100 := by rw [List.length_append]; omega
      generalize marks ++ rows.flatten = ns at hn ll
      refine ⟨_, rfl, x, C, dx, _, _, rfl, s3 _ _ hx, T.cl, T.nM, fewF_marks _ _, .ref m, .ty "list", _, _, true, rfl, .ty _, .base (.lst (s3 _ _ hm)), kit_ty (by decide +kernel), _, rfl, ?_⟩
      refine iteT ?_
      refine ⟨_, rfl, n, rfl, ⟨_, SqL.of hn⟩, fun D hD => ?_⟩
      refine lcV ((List.replicate ns.length true).map V.bl) (by simp) (wk_list (SqL.of hn)) (by simp; omega) hD ?_ ?_ (gN_mono _)
      · rintro l y C' z H4 s4 ⟨hy, rfl⟩ _ hz Q'' kq
        obtain ⟨u, hu, rfl⟩ := mapV_get hy
        rw [List.map_replicate] at hz
        have e := rep_get hz
        subst e
        exact ⟨rfl, _, rfl, .int u, rfl, .int u, fun H5 s5 => kq _ s5⟩
      · intro H4 L4
        refine ⟨D, _, rfl, SqL.of (L4.get List.mem_cons_self), ?_⟩
        have e : (List.replicate ns.length true).all id = true := by simp
        rw [e]
        exact k _ (s3.trans L4.sm)
end Cc

namespace Cc
open PySem L2
def sp__law_right_k01 (C : Addr) : Sp := fun vs H Q _ => ∃ (a : Addr) (us : List Int) (o : Addr) (pso : List Addr) (oth : List (List Int)), vs = [.ref a, .ref o] ∧ H a = some (intsO us) ∧ us.length < 40 ∧ UpsOk us ∧ Rows H o pso oth ∧
  (∀ r ∈ oth, UpsOk r ∧ r.length ≤ 900) ∧ ∀ H', Same H H' → Q (.bl true) H'
def t__law_right_k01 (K : PySem.W.Frag) (C_Fewest C_Answer C_Right C_Wrong C_Worst : Addr) : TS :=
(tSeq (tAsg (tCB (qList K) (tCons (tVar 0) tNil)) (gName 2))
    (tSeq (tFor (iRng1 (tCons (tC (.int 2)) tNil)) (gName 3)
    (tSeq (tAsg (tCall (sp_fewest C_Fewest) [] E0 (tCons (tVar 2) tNil)) (gName 4))
      (tSeq (tIfS (tOr (tNot (tB (tCB (rIsi K) (tCons (tVar 4) (tCons (tC (.ref C_Answer)) tNil))))) (tOr (tNot (tB (tCB (rIsi K) (tCons (tVar 4) (tCons (tC (.ref C_Fewest)) tNil))))) (tOr (tTest (tOp (rNeD K) (tVar 2) (tVar 0))) (tNot (tB (tCall (sp__law_told C_Fewest) [] E0 (tCons (tVar 4) tNil)))))))
      (tRet (tC (.bl false)))
      tNext)
      (tSeq (tIfS (tTest (tOp (rNeD K) (tLst (tCons (tCB (rIsi K) (tCons (tVar 4) (tCons (tC (.ref C_Right)) tNil))) (tCons (tCB (rIsi K) (tCons (tVar 4) (tCons (tC (.ref C_Wrong)) tNil))) (tCons (tCB (rIsi K) (tCons (tVar 4) (tCons (tC (.ref C_Worst)) tNil))) tNil)))) (tLst (tCons (tC (.bl false)) (tCons (tC (.bl false)) (tCons (tC (.bl false)) tNil))))))
      (tRet (tC (.bl false)))
      tNext)
      (tSeq (tIfS (tOr (tNot (tB (tCall sp__law_is_fewest [] E0 (tCons (tVar 0) (tCons (tFld K (tVar 4) "orders") (tCons (tFld K (tVar 4) "marks") tNil)))))) (tTest (tOp rNotB (tMeth C_Fewest "shows" (sp_Fewest_shows C_Fewest) [] E0 (tVar 4) (tCons (tVar 0) tNil)) (tC (.bl true)))))
      (tRet (tC (.bl false)))
      tNext)
      (tSeq (tFor (iList K (tVar 1)) (gName 5)
      (tIfS (tNot (tB (tCall sp__law_says [] E0 (tCons (tMeth C_Fewest "shows" (sp_Fewest_shows C_Fewest) [] E0 (tVar 4) (tCons (tVar 5) tNil)) (tCons (tCall sp__law_is_fewest [] E0 (tCons (tVar 5) (tCons (tFld K (tVar 4) "orders") (tCons (tFld K (tVar 4) "marks") tNil)))) tNil)))))
        (tRet (tC (.bl false)))
        tNext))
      (tSeq (tDrop (tBM K "list" rAppend (tOp (rIxL K) (tFld K (tVar 4) "orders") (tUn qNeg (tC (.int 1)))) (tCons (tC (.int 0)) tNil)))
      (tSeq (tIfS (tTest (tOp rNotB (tMeth C_Fewest "shows" (sp_Fewest_shows C_Fewest) [] E0 (tVar 4) (tCons (tVar 0) tNil)) (tC (.bl false))))
      (tRet (tC (.bl false)))
      tNext)
      (tDrop (tBM K "list" rAppend (tFld K (tVar 4) "marks") (tCons (tC (.int 0)) tNil)))))))))))
    (tSeq (tIfS (tTest (tOp (rNeD K) (tVar 2) (tLst tNil)))
    (tSeq (tAsg (tC (.int 0)) (gSub (tVar 2) (tUn qNeg (tC (.int 1))) rSetL))
      (tSeq (tAsg (tCall (sp_fewest C_Fewest) [] E0 (tCons (tVar 2) tNil)) (gName 6))
      (tRet (tAndV (tCall sp__law_is_fewest [] E0 (tCons (tVar 2) (tCons (tFld K (tVar 6) "orders") (tCons (tFld K (tVar 6) "marks") tNil)))) (tOp rIsB (tMeth C_Fewest "shows" (sp_Fewest_shows C_Fewest) [] E0 (tVar 6) (tCons (tVar 2) tNil)) (tC (.bl true)))))))
    tNext)
    (tRet (tC (.bl true))))))
theorem shows_spoilt {us : List Int} (hu : UpsOk us) {rows : List (List Int)} {marks r : List Int} {k : Nat} (hk : k < rows.length) : showsM us (rows.set k (r ++ [0])) marks = false := by
  unfold showsM
  have : ¬ (rows.set k (r ++ [0])).map sortI = calledM us := fun e => by
    rw [calledM_eq hu] at e
    have e2 : ((rows.set k (r ++ [0])).map sortI)[k]? = (lcalledM us)[k]? := by rw [e]
    rw [List.getElem?_map, List.getElem?_set_self hk] at e2
    have hk2 : k ≤ us.length := by
      have := congrArg List.length e
      rw [List.length_map, List.length_set, lcalledM_len] at this
      omega
    rw [lcalledM_get us hk2] at e2
    have e3 : sortI (r ++ [0]) = lrowM us k := Option.some.inj e2
    have : (0 : Int) ∈ lrowM us k := by
      rw [← e3]
      exact (sortI_perm _).mem_iff.mpr (List.mem_append_right _ (List.mem_singleton.mpr rfl))
    obtain ⟨i, _, h⟩ := lrowM_mem.mp this
    omega
  rw [decide_eq_false this]
  rfl
theorem upsOk_set {us : List Int} (hu : UpsOk us) (k : Nat) : UpsOk (us.set k 0) := fun i u e => by
  by_cases h : k = i
  · subst h
    rw [List.getElem?_set_self (by have := lt_of_get e; rwa [List.length_set] at this)] at e
    cases e
    omega
  · rw [List.getElem?_set_ne h] at e
    exact hu i u e
section
variable {K : PySem.W.Frag} {C CA CR CW CO : Addr}
/-- what is read of a Fewest -/
structure FewR (H : Hp) (C x dx p : Addr) (ps : List Addr) (rows : List (List Int)) (q : Addr) (marks : List Int) : Prop where
  x : H x = some (.ins C dx (fewF p q))
  R : Rows H p ps rows
  q : H q = some (intsO marks)
theorem FewR.same {H H' : Hp} {C x dx p : Addr} {ps : List Addr} {rows : List (List Int)} {q : Addr} {marks : List Int} (h : FewR H C x dx p ps rows q marks) (s : Same H H') : FewR H' C x dx p ps rows q marks := ⟨s _ _ h.x, h.R.same s, s _ _ h.q⟩
theorem FewR.of {H0 H : Hp} {C x dx p : Addr} {ps : List Addr} {rows : List (List Int)} {q : Addr} {marks : List Int} {B : List Cell} (L : Lo H0 H (fewC C x dx p ps rows q marks ++ B)) (hl : ps.length = rows.length) : FewR H C x dx p ps rows q marks :=
  ⟨L.get (List.mem_append_left _ List.mem_cons_self), Rows.of_mem (fun h => L.get (List.mem_append_left _ (List.mem_cons_of_mem _ (List.mem_cons_of_mem _ (List.mem_append_left _ h))))) hl, L.get (List.mem_append_left _ (List.mem_cons_of_mem _ (List.mem_cons_of_mem _ (List.mem_append_right _ List.mem_cons_self))))⟩
variable (T : KFewest K C)
include T
/-- o.shows(ups) -/
theorem va_shows {σ : L2.St} {H : Hp} {i j : Nat} {x dx p : Addr} {ps : List Addr} {rows : List (List Int)} {q : Addr} {marks : List Int} {a : Addr} {us : List Int} (hi : σ[i]? = some (some (.ref x))) (hj : σ[j]? = some (some (.ref a))) (F : FewR H C x dx p ps rows q marks) (ha : H a = some (intsO us)) (hu : UpsOk us)
    (l1 : us.length ≤ 900) (l2 : rows.length ≤ 900) (l3 : marks.length ≤ 900) : Vr (tMeth C "shows" (sp_Fewest_shows C) [] E0 (tVar i) (tCons (tVar j) tNil)) σ H (fun v H' => v = .bl (showsM us rows marks) ∧ Same H H') :=
  fun Q k => ⟨_, hi, x, dx, _, rfl, F.x, fewF_no _ _ (by decide +kernel) (by decide +kernel), _, hj, x, dx, p, ps, rows, q, marks, a, us, rfl, F.x, F.R, F.q, ha, l1, hu, l2, l3, fun H' s => k _ _ ⟨rfl, s⟩⟩
/-- _law_is_fewest(ups, o.orders, o.marks) -/
theorem va_isfew {σ : L2.St} {H : Hp} {i j : Nat} {x dx p : Addr} {ps : List Addr} {rows : List (List Int)} {q : Addr} {marks : List Int} {a : Addr} {us : List Int} (hi : σ[i]? = some (some (.ref x))) (hj : σ[j]? = some (some (.ref a))) (F : FewR H C x dx p ps rows q marks) (ha : H a = some (intsO us))
    (l1 : us.length ≤ 900) (l2 : rows.length ≤ 900) (l3 : marks.length ≤ 900) : Vr (tCall sp__law_is_fewest [] E0 (tCons (tVar j) (tCons (tFld K (tVar i) "orders") (tCons (tFld K (tVar i) "marks") tNil)))) σ H (fun v H' => v = .bl (isFewM us rows marks) ∧ Same H H') :=
  fun Q k => ⟨_, hj, _, hi, x, C, dx, _, _, rfl, F.x, T.cl, T.nO, fewF_orders _ _, _, hi, x, C, dx, _, _, rfl, F.x, T.cl, T.nM, fewF_marks _ _, a, us, p, ps, rows, q, marks, rfl, ha, F.R, F.q, l1, l2, l3, fun H' s => k _ _ ⟨rfl, s⟩⟩
theorem v__law_right_k01 (A : KAns K C CA C CR CW CO true false false false) {vs : List V} {H : Hp} {Q : VK} {E : XK} (h : sp__law_right_k01 C vs H Q E) : t__law_right_k01 K C CA CR CW CO (fin Q) (st0 7 vs) H := by
  obtain ⟨a, us, o, pso, oth, rfl, ha, hul, hu, Ro, hoth, k⟩ := h
  refine q_setR (vr_list (va_var rfl) (SqL.of ha)) ?_
  rintro _ H1 ⟨h, rfl, hh, rfl⟩
  have L1 := (Lo.nil H).al hh (intsO us)
  refine ⟨2, rfl, by decide, by decide, ?_⟩
  refine for_range (fun i σ H1 => ∃ (x3 x4 x5 : Option V), σ = [some (.ref a), some (.ref o), some (.ref h), x3, x4, x5, none] ∧ Lo H H1 [(h, intsO us)]) ?_ ?_ ?_
  · exact ⟨_, _, _, rfl, L1⟩
  · rintro i σ H2 hi ⟨x3, x4, x5, rfl, L2⟩
    refine q_setR (R := fun v H3 => ∃ x dx p ps q, v = .ref x ∧ Lo H2 H3 (fewC C x dx p ps (bestM us).1 q (bestM us).2) ∧ ps.length = us.length + 1) (fun Q' q' => ⟨_, rfl, h, us, rfl, L2.get List.mem_cons_self, hul, hu, fun x dx p ps q H3 L3 hps => q' _ _ ⟨x, dx, p, ps, q, rfl, L3, hps⟩⟩) ?_
    rintro _ H3 ⟨x, dx, p, ps, q, rfl, L3, hps⟩
    obtain ⟨b1, b2⟩ := bestM_len us
    have L4 := L2.ca L3
    have F4 := FewR.of L4 (by omega)
    have rr : ∀ r ∈ (bestM us).1, r.length ≤ us.length := (bestGo_rows us (us.length + 1)).2
    have shown := best_shown hu
    have ha4 := L4.same _ _ ha
    generalize (bestM us).1 = rows at L4 F4 b1 rr shown
    generalize (bestM us).2 = marks at L4 F4 b2 shown
    -- of its class, handed in stays, told
    refine q_no (fun Q' q' => va_isi rfl F4.x A.ins A.ka _ ⟨_, rfl, iteF (va_isi rfl F4.x A.ins A.kf _ ⟨_, rfl, iteF ?_⟩)⟩) ?_
    · refine ⟨_, rfl, _, rfl, _, _, dp_I (L4.get (List.mem_append_right _ List.mem_cons_self)), dp_I ha4, shI _, shI _, _, rfl, ?_⟩
      rw [eqv_I, decide_eq_true rfl]
      refine iteF ?_
      exact ⟨_, rfl, x, dx, p, ps, rows, q, marks, rfl, F4.x, F4.R, F4.q, by omega, by omega, fun r hr => by have := rr r hr; omega, fun H5 s5 => ⟨_, rfl, q' _ s5⟩⟩
    intro H5 s5
    have L5 := L4.cs s5
    have F5 := F4.same s5
    -- of no other class
    refine q_no (fun Q' q' => va_isi rfl F5.x A.ins A.kr _ (va_isi rfl F5.x A.ins A.kw _ (va_isi rfl F5.x A.ins A.ko _ ?_))) ?_
    · refine ⟨by show 3 ≤ sizeLine; decide, fun z hz => ⟨by show 3 ≤ sizeLine; decide, fun y hy => ?_⟩⟩
      refine ⟨_, _, .lst (SqL.of (show upd (upd H5 z (.lst [.bl false, .bl false, .bl false])) y _ z = some (.lst ([false, false, false].map V.bl)) by rw [upd_ne (fun e => by rw [e, upd_same] at hy; cases hy)]; exact upd_same)) (dp_bls [false, false, false]), .lst (SqL.of upd_same) (dp_bls [false, false, false]), shB _, shB _, _, rfl, ?_⟩
      rw [eqv_B, decide_eq_true rfl]
      exact q' _ ((Same.new hz _).trans (Same.new hy _))
    intro H6 s6
    have L6 := L5.cs s6
    have F6 := F5.same s6
    -- it is the fewest, its own word
    have ha6 := L6.same _ _ ha
    refine q_no (fun Q' q' => ?_) ?_
    · refine (va_isfew T rfl rfl F6 ha6 (by omega) (by omega) (by omega)) _ ?_
      rintro _ H7 ⟨rfl, s7⟩
      refine ⟨_, rfl, ?_⟩
      rw [shown]
      refine iteF ?_
      refine (va_shows T rfl rfl (F6.same s7) (s7 _ _ ha6) hu (by omega) (by omega) (by omega)) _ ?_
      rintro _ H8 ⟨rfl, s8⟩
      refine ⟨_, _, rfl, rfl, _, rfl, ?_⟩
      rw [shows_eq hu, shown, decide_eq_true rfl]
      exact q' _ (s7.trans s8)
    intro H7 s7
    have L7 := L6.cs s7
    have Ro7 := Ro.same L7.sm
    have hol := Ro.len
    -- other ups
    refine ⟨_, rfl, o, rfl, ⟨_, SqL.of Ro7.top⟩, ?_⟩
    refine for_list (xs := pso.map V.ref) (fun j σ H8 => ∃ (x5 : Option V), σ = [some (.ref a), some (.ref o), some (.ref h), some (.int (0 + (i : Int))), some (.ref x), x5, none] ∧ Lo H H8 (fewC C x dx p ps rows q marks ++ [(h, intsO us)])) ?_ ?_ ?_ ?_
    · exact ⟨_, rfl, L7⟩
    · rintro j σ H8 _ ⟨x5, rfl, L8⟩
      exact SqL.of (Ro.same L8.sm).top
    · rintro j y σ H8 hy ⟨x5, rfl, L8⟩
      obtain ⟨s, hs, rfl⟩ := mapA_get hy
      have gr := get_some (xs := oth) (i := j) (by have := lt_of_get hs; omega)
      generalize oth[j]'(by have := lt_of_get hs; omega) = vs at gr
      obtain ⟨v1, v2⟩ := hoth vs (List.mem_of_getElem? gr)
      have F8 := FewR.of L8 (by omega)
      have hs8 := (Ro.same L8.sm).row hs gr
      refine s_no (fun Q' q' => ?_) ?_
      · refine (va_shows T rfl rfl F8 hs8 v1 (by omega) (by omega) (by omega)) _ ?_
        rintro _ H9 ⟨rfl, s9⟩
        refine (va_isfew T rfl rfl (F8.same s9) (s9 _ _ hs8) (by omega) (by omega) (by omega)) _ ?_
        rintro _ H10 ⟨rfl, s10⟩
        refine ⟨_, _, rfl, fun H11 s11 => ⟨_, rfl, ?_⟩⟩
        rw [shows_eq v1, decide_eq_true rfl]
        exact q' _ (s9.trans (s10.trans s11))
      · intro H9 s9
        exact ⟨_, rfl, L8.cs s9⟩
    · rintro σ H8 ⟨x5, rfl, L8⟩
      have F8 := FewR.of L8 (by omega)
      have gl := get_some (xs := ps) (i := us.length) (by omega)
      have gr := get_some (xs := rows) (i := us.length) (by omega)
      generalize ps[us.length]'(by omega) = pl at gl
      generalize rows[us.length]'(by omega) = rl at gr
      have hrl := rr rl (List.mem_of_getElem? gr)
      have gp : atI (ps.map V.ref) (-1) = some (.ref pl) := atI_neg1 (by rw [List.length_map, hps, List.getElem?_map]; simp only [Nat.add_sub_cancel]; rw [gl]; rfl)
      have hpl := F8.R.row gl gr
      dsimp only
      refine q_drp (R := fun v H9 => H9 = upd H8 pl (intsO (rl ++ [0]))) (fun Q' q' => ⟨_, rfl, x, C, dx, _, _, rfl, F8.x, T.cl, T.nO, fewF_orders _ _, 1, rfl, p, _, -1, .ref pl, rfl, rfl, SqL.of F8.R.top, gp, .inl ⟨rfl, _, SqL.of hpl⟩, pl, _, _, rfl, rfl, hpl, szl (by simp; omega), q' _ _ (by rw [map_int_snoc]; rfl)⟩) ?_
      rintro _ _ rfl
      have L8' : Lo H H8 ([(x, .ins C dx (fewF p q)), (dx, .own x)] ++ (llC p ps rows ++ [(q, intsO marks), (h, intsO us)])) := L8.to (by simp [fewC])
      have L9 : Lo H (upd H8 pl (intsO (rl ++ [0]))) (fewC C x dx p ps (rows.set us.length (rl ++ [0])) q marks ++ [(h, intsO us)]) := (L8'.rowW gl gr (rl ++ [0])).to (by simp [fewC])
      have F9 := FewR.of L9 (by rw [List.length_set]; omega)
      generalize upd H8 pl (intsO (rl ++ [0])) = H9 at L9 F9
      refine q_no (fun Q' q' => ?_) ?_
      · refine (va_shows T rfl rfl F9 (L9.same _ _ ha) hu (by omega) (by rw [List.length_set]; omega) (by omega)) _ ?_
        rintro _ H10 ⟨rfl, s10⟩
        refine ⟨_, _, rfl, rfl, _, rfl, ?_⟩
        rw [shows_spoilt hu (by omega), decide_eq_true rfl]
        exact q' _ s10
      intro H10 s10
      have F10 := F9.same s10
      have L10 := L9.cs s10
      refine ⟨_, rfl, x, C, dx, _, _, rfl, F10.x, T.cl, T.nM, fewF_marks _ _, .inl ⟨rfl, _, SqL.of F10.q⟩, q, _, _, rfl, rfl, F10.q, szl (by simp; omega), ?_⟩
      refine ⟨_, _, _, rfl, ?_⟩
      have L10' : Lo H H10 (([(x, .ins C dx (fewF p q)), (dx, .own x)] ++ llC p ps (rows.set us.length (rl ++ [0]))) ++ (q, intsO marks) :: [(h, intsO us)]) := L10.to (by simp [fewC])
      have L11 := L10'.wr (.lst (marks.map V.int ++ [.int 0]))
      exact L11.sub ((List.sublist_cons_self _ _).trans (List.sublist_append_right _ _))
  · rintro σ H2 ⟨x3, x4, x5, rfl, L2⟩
    have hh2 := L2.get List.mem_cons_self
    dsimp only
    refine q_ret (b := decide (us ≠ [])) (fun Q' q' => ?_) ?_ ?_
    · refine ⟨_, rfl, by show 0 ≤ sizeLine; decide, fun z hz => ⟨_, _, dp_I (Same.new hz (.lst []) _ _ hh2), .lst (SqL.of upd_same) .nil, shI us, shI [], _, rfl, ?_⟩⟩
      rw [eqv_I_nil]
      have e : (!decide (us = [])) = decide (us ≠ []) := by simp
      rw [e]
      exact q' _ (Same.new hz _)
    · intro e H3 s3
      have e := of_decide_eq_true e
      have hpos : 0 < us.length := List.length_pos_iff.mpr e
      have L3 := L2.cs s3
      refine ⟨_, rfl, 1, rfl, h, _, _, us.length - 1, rfl, rfl, L3.get List.mem_cons_self, ?_, ?_⟩
      · rw [List.length_map]; exact ixN_last hpos
      have e5 : (us.map V.int).set (us.length - 1) (.int 0) = (us.set (us.length - 1) 0).map V.int := by rw [List.map_set]
      rw [e5]
      have L4 := L3.wr0 (intsO (us.set (us.length - 1) 0))
      have hu4 := upsOk_set hu (us.length - 1)
      have hl4 : (us.set (us.length - 1) 0).length < 40 := by rw [List.length_set]; exact hul
      generalize us.set (us.length - 1) 0 = ws at L4 hu4 hl4
      dsimp only
      refine q_setR (R := fun v H5 => ∃ x dx p ps q, v = .ref x ∧ Lo _ H5 (fewC C x dx p ps (bestM ws).1 q (bestM ws).2) ∧ ps.length = ws.length + 1) (fun Q' q' => ⟨_, rfl, h, ws, rfl, L4.get List.mem_cons_self, hl4, hu4, fun x dx p ps q H3 L3 hps => q' _ _ ⟨x, dx, p, ps, q, rfl, L3, hps⟩⟩) ?_
      rintro _ H5 ⟨x, dx, p, ps, q, rfl, L5, hps⟩
      obtain ⟨b1, b2⟩ := bestM_len ws
      have L6 := L4.ca L5
      have F6 := FewR.of L6 (by omega)
      have hh6 := L6.get (List.mem_append_right _ List.mem_cons_self)
      refine (va_isfew T rfl rfl F6 hh6 (by omega) (by omega) (by omega)) _ ?_
      rintro _ H7 ⟨rfl, s7⟩
      refine ⟨_, rfl, ?_⟩
      rw [best_shown hu4]
      refine iteT ?_
      refine (va_shows T rfl rfl (F6.same s7) (s7 _ _ hh6) hu4 (by omega) (by omega) (by omega)) _ ?_
      rintro _ H8 ⟨rfl, s8⟩
      refine ⟨_, _, rfl, rfl, ?_⟩
      rw [shows_eq hu4, best_shown hu4, decide_eq_true rfl]
      exact k _ (L6.sm.trans (s7.trans s8))
    · intro e H3 s3
      exact k _ (L2.sm.trans s3)
end
end Cc

namespace Cc
open PySem L2
/-! Fewest(..) -/
theorem mk_few {C po pm : Addr} {pso : List Addr} {rows : List (List Int)} {marks : List Int} {H : Hp} {Q : VK} {E : XK} (R : Rows H po pso rows) (hm : H pm = some (intsO marks)) (hl : rows.length ≤ 10000)
    (k : ∀ x dx p ps q H', Lo H H' (fewC C x dx p ps rows q marks) → ps.length = rows.length → Q (.ref x) H') :
    ∀ x dx, H x = none → H dx = none → dx ≠ x → sp_Fewest___init__ C (.ref x :: ([.ref po, .ref pm] ++ [])) (upd (upd H dx (.own x)) x (.ins C dx [])) (fun v H2 => v = .non ∧ Q (.ref x) H2) E := fun x dx hx hdx hne => by
  have L3 := ((Lo.nil H).al hdx (.own x)).al (p := x) (by rw [upd_ne hne.symm]; exact hx) (.ins C dx [])
  exact ⟨H, x, dx, po, pso, rows, pm, marks, rfl, L3, R, hm, hl, fun p ps q H' L hps => ⟨rfl, k x dx p ps q H' L hps⟩⟩
theorem vr_few {C : Addr} {t : TA} {σ : L2.St} {H : Hp} {E : XK} {rows : List (List Int)} {marks : List Int} (hl : rows.length ≤ 10000)
    (ht : ∀ QA : List V → Hp → Prop, (∀ po pso pm H1, Same H H1 → Rows H1 po pso rows → H1 pm = some (intsO marks) → QA [.ref po, .ref pm] H1) → t σ H QA) :
    Vr (tMake C (sp_Fewest___init__ C) [] E t) σ H (fun v H' => ∃ x dx p ps q, v = .ref x ∧ Lo H H' (fewC C x dx p ps rows q marks) ∧ ps.length = rows.length) := fun Q k =>
  ht _ fun po pso pm H1 s R hm => mk_few R hm hl fun x dx p ps q H' L hps => k _ _ ⟨x, dx, p, ps, q, rfl, (((Lo.nil H).cs s).ca L).to (List.append_nil _), hps⟩
/-- data alike -/
theorem eqv_pair (r : List (List Int)) (m : List Int) : PyData.eqv (.list [dLL r, dI m]) (.list [dLL r, dI m]) = true := by
  have e1 : PyData.eqv (dLL r) (dLL r) = true := by rw [eqv_LL]; exact decide_eq_true rfl
  have e2 : PyData.eqv (dI m) (dI m) = true := by rw [eqv_I]; exact decide_eq_true rfl
  show PyData.eqvAll [dLL r, dI m] [dLL r, dI m] = true
  rw [PyData.eqvAll, PyData.eqvAll, PyData.eqvAll, e1, e2]
  rfl
theorem sh_pair (r : List (List Int)) (m : List Int) : SeqAt.shaped (.list [dLL r, dI m]) = true := (shp_list (n := 2) (fun d hd => by
  simp only [List.mem_cons, List.not_mem_nil, or_false] at hd
  rcases hd with rfl | rfl
  · exact shp_LL r
  · exact ⟨(shp_I m).lay, Nat.le_succ_of_le (shp_I m).dep⟩)).shaped (by decide)
def sp__law_right_k02 : Sp := fun vs H Q _ => ∃ (a : Addr) (us : List Int) (po : Addr) (pso : List Addr) (rows : List (List Int)) (pm : Addr) (marks : List Int), vs = [.ref a, .ref po, .ref pm] ∧ H a = some (intsO us) ∧ us.length ≤ 900 ∧ UpsOk us ∧ Rows H po pso rows ∧
  H pm = some (intsO marks) ∧ rows.length ≤ 900 ∧ marks.length ≤ 900 ∧ (∀ r ∈ rows, r.length ≤ 1000) ∧ ∀ H', Same H H' → Q (.bl true) H'
def t__law_right_k02 (K : PySem.W.Frag) (C_Fewest : Addr) : TS :=
(tSeq (tAsg (tLst (tCons (tLc (iList K (tVar 1)) (gName 3) tYes (tCB (qList K) (tCons (tVar 3) tNil)) [3]) (tCons (tCB (qList K) (tCons (tVar 2) tNil)) tNil))) (gName 4))
    (tSeq (tPar 5 6 (tCons (tMake C_Fewest (sp_Fewest___init__ C_Fewest) [] E0 (tCons (tOp (rIxL K) (tVar 4) (tC (.int 0))) (tCons (tOp (rIxL K) (tVar 4) (tC (.int 1))) tNil))) (tCons (tMake C_Fewest (sp_Fewest___init__ C_Fewest) [] E0 (tCons (tLst tNil) (tCons (tLst tNil) tNil))) tNil)))
    (tSeq (tFor (iList K (tOp rCat (tOp (rIxL K) (tVar 4) (tC (.int 0))) (L2.tSl (rSlL K) (tVar 4) (tPart (tC (.int 1))) tNoPart))) (gName 3)
    (tDrop (tBM K "list" rAppend (tVar 3) (tCons (tC (.int 1)) tNil))))
    (tSeq (tDrop (tBM K "list" rAppend (tOp (rIxL K) (tVar 4) (tC (.int 0))) (tCons (tLst tNil) tNil)))
    (tSeq (tDrop (tBM K "list" rExtend (tFld K (tVar 6) "orders") (tCons (tVar 1) tNil)))
    (tSeq (tDrop (tBM K "list" rExtend (tFld K (tVar 6) "marks") (tCons (tVar 2) tNil)))
    (tSeq (tAsg (tCall sp__law_is_fewest [] E0 (tCons (tVar 0) (tCons (tVar 1) (tCons (tVar 2) tNil)))) (gName 7))
    (tSeq (tIfS (tOr (tTest (tOp (rNeD K) (tLst (tCons (tFld K (tVar 5) "orders") (tCons (tFld K (tVar 5) "marks") tNil))) (tLst (tCons (tVar 1) (tCons (tVar 2) tNil))))) (tNot (tB (tCall sp__law_says [] E0 (tCons (tMeth C_Fewest "shows" (sp_Fewest_shows C_Fewest) [] E0 (tVar 5) (tCons (tVar 0) tNil)) (tCons (tVar 7) tNil))))))
    (tRet (tC (.bl false)))
    tNext)
    (tRet (tCall sp__law_says [] E0 (tCons (tMeth C_Fewest "shows" (sp_Fewest_shows C_Fewest) [] E0 (tVar 6) (tCons (tVar 0) tNil)) (tCons (tVar 7) tNil))))))))))))
theorem v__law_right_k02 {K : PySem.W.Frag} {C : Addr} (T : KFewest K C) {vs : List V} {H : Hp} {Q : VK} {E : XK} (h : sp__law_right_k02 vs H Q E) : t__law_right_k02 K C (fin Q) (st0 8 vs) H := by
  obtain ⟨a, us, po, pso, rows, pm, marks, rfl, ha, hul, hu, R, hm, hrl, hml, rr, k⟩ := h
  have hpl := R.len
  refine q_setR (R := fun v H1 => ∃ h h0 hps m1, v = .ref h ∧ Lo H H1 ((h, .lst [.ref h0, .ref m1]) :: (m1, intsO marks) :: llC h0 hps rows) ∧ hps.length = rows.length) (fun Q' q' => ?_) ?_
  · refine c_cons (vr_copy (va_var rfl) R (by omega) (by show 3 < 8; decide)) ?_
    rintro _ H1 ⟨h0, hps, rfl, L1, hl1⟩
    refine ⟨_, rfl, pm, _, rfl, .inl (SqL.of (L1.same _ _ hm)), fun m1 hm1 => ⟨by show 2 ≤ sizeLine; decide, fun h hh => q' _ _ ⟨h, h0, hps, m1, rfl, (L1.al hm1 (intsO marks)).al hh _, hl1⟩⟩⟩
  rintro _ H1 ⟨h, h0, hps, m1, rfl, L1, hl1⟩
  have hh1 := L1.get List.mem_cons_self
  have Rh : Rows H1 h0 hps rows := Rows.of_mem (fun z => L1.get (List.mem_cons_of_mem _ (List.mem_cons_of_mem _ z))) hl1
  refine q_par (R2 := fun v w H4 => ∃ x dx p ps q y dy p2 ps2 q2 H2, v = .ref x ∧ w = .ref y ∧ Lo H1 H2 (fewC C x dx p ps rows q marks) ∧ ps.length = rows.length ∧ Lo H2 H4 (fewC C y dy p2 ps2 [] q2 []) ∧ ps2.length = 0) (vr_few (rows := rows) (marks := marks) ?_ ?_) ?_ ?_
  · omega
  · exact fun QA qA => ⟨_, rfl, h, _, 0, .ref h0, rfl, rfl, SqL.of hh1, rfl, _, rfl, h, _, 1, .ref m1, rfl, rfl, SqL.of hh1, rfl, qA _ _ _ _ (Same.refl _) Rh (L1.get (List.mem_cons_of_mem _ List.mem_cons_self))⟩
  · rintro _ H2 ⟨x, dx, p, ps, q, rfl, L2, hps2⟩ Q' q'
    refine vr_few (rows := []) (marks := []) ?_ ?_ _ ?_
    · decide
    · exact fun QA qA => ⟨by show 0 ≤ sizeLine; decide, fun z1 hz1 => ⟨by show 0 ≤ sizeLine; decide, fun z2 hz2 => qA z1 [] z2 _ ((Same.new hz1 _).trans (Same.new hz2 _)) ⟨Same.new hz2 _ _ _ upd_same, rfl, fun e => by simp at e⟩ upd_same⟩⟩
    rintro _ H4 ⟨y, dy, p2, ps2, q2, rfl, L4, hps4⟩
    exact q' _ _ ⟨x, dx, p, ps, q, y, dy, p2, ps2, q2, H2, rfl, rfl, L2, hps2, L4, hps4⟩
  rintro _ _ H4 ⟨x, dx, p, ps, q, y, dy, p2, ps2, q2, H2, rfl, rfl, L2, hps2, L4, hps4⟩
  have L3 := L1.ca L2
  have eps2 : ps2 = [] := List.length_eq_zero_iff.mp hps4
  subst eps2
  have L5 := L3.ca L4
  have L6 : Lo H H4 ((fewC C x dx p ps rows q marks ++ [(h, .lst [.ref h0, .ref m1]), (y, .ins C dy (fewF p2 q2)), (dy, .own y)]) ++ ((rowsC hps rows ++ [(m1, intsO marks)]) ++ [(p2, refsO []), (q2, intsO []), (h0, refsO hps)])) :=
    L5.pk [[(y, .ins C dy (fewF p2 q2)), (dy, .own y)], [(p2, refsO [])], [(q2, intsO [])], fewC C x dx p ps rows q marks, [(h, .lst [.ref h0, .ref m1])], [(m1, intsO marks)], [(h0, refsO hps)], rowsC hps rows] [0, 1, 2, 3, 4, 5, 6, 7] [3, 4, 0, 7, 5, 1, 2, 6] [] (by simp [fewC, llC, rowsC]) (by simp)
  obtain ⟨Hb, sb, L7, hb⟩ := L6.frz
  have Fb : FewR Hb C x dx p ps rows q marks := ⟨hb (List.mem_append_left _ List.mem_cons_self), Rows.of_mem (fun z => hb (List.mem_append_left _ (List.mem_cons_of_mem _ (List.mem_cons_of_mem _ (List.mem_append_left _ z))))) (by omega), hb (List.mem_append_left _ (List.mem_cons_of_mem _ (List.mem_cons_of_mem _ (List.mem_append_right _ List.mem_cons_self))))⟩
  have hhb : Hb h = some (.lst [.ref h0, .ref m1]) := hb (List.mem_append_right _ List.mem_cons_self)
  have hyb : Hb y = some (.ins C dy (fewF p2 q2)) := hb (List.mem_append_right _ (List.mem_cons_of_mem _ List.mem_cons_self))
  have Rb := R.same sb
  have hmb := sb _ _ hm
  have hab := sb _ _ ha
  have kb : ∀ H', Same Hb H' → Q (.bl true) H' := fun H' s => k H' (sb.trans s)
  clear hb L6 L5 L4 L3 L2 L1
  generalize hn : rows.length = n at *
  -- for row in handed[0] + handed[1:]
  have hh4 := L7.same _ _ hhb
  have h04 := L7.get (show (h0, refsO hps) ∈ _ from List.mem_append_right _ (List.mem_cons_of_mem _ (List.mem_cons_of_mem _ List.mem_cons_self)))
  refine ⟨_, rfl, h, _, 0, .ref h0, rfl, rfl, SqL.of hh4, rfl, _, rfl, 1, rfl, h, _, rfl, SqL.of hh4, fun c1 hc1 => ?_⟩
  have ec : cutV [V.ref h0, V.ref m1] (some ((1 : Nat) : Int)) none = [.ref m1] := by rw [cut_from]; rfl
  rw [show cutV [V.ref h0, V.ref m1] (some 1) none = [.ref m1] from ec]
  have L8 := L7.ju hc1 (.lst [.ref m1])
  refine ⟨h0, c1, _, _, rfl, rfl, Same.new hc1 _ _ _ h04, upd_same, by simp; exact sz (by omega), fun c hc => ?_⟩
  have L9 := L8.al hc (refsO (hps ++ [m1]))
  have ecc : hps.map V.ref ++ [V.ref m1] = (hps ++ [m1]).map V.ref := by simp
  rw [ecc]
  have L10 : Lo Hb _ (llC c (hps ++ [m1]) (rows ++ [marks]) ++ [(p2, refsO []), (q2, intsO []), (h0, refsO hps)]) := L9.to (by
    unfold llC
    rw [rowsC_append (by omega)]
    rfl)
  have hc10 := L10.get (show (c, refsO (hps ++ [m1])) ∈ _ from List.mem_append_left _ List.mem_cons_self)
  refine ⟨c, rfl, ⟨_, SqL.of hc10⟩, ?_⟩
  refine for_list (xs := (hps ++ [m1]).map V.ref) (fun i σ H5 => ∃ (x3 : Option V) (rs : List (List Int)), σ = [some (.ref a), some (.ref po), some (.ref pm), x3, some (.ref h), some (.ref x), some (.ref y), none] ∧ rs.length = n + 1 ∧ (∀ r ∈ rs, r.length ≤ 1000 + i) ∧
    Lo Hb H5 (llC c (hps ++ [m1]) rs ++ [(p2, refsO []), (q2, intsO []), (h0, refsO hps)])) ?_ ?_ ?_ ?_
  · refine ⟨_, rows ++ [marks], rfl, by simp [hn], fun r hr => ?_, L10⟩
    rcases List.mem_append.mp hr with hr | hr
    · exact rr r hr
    · rw [List.mem_singleton.mp hr]; omega
  · rintro i σ H5 _ ⟨x3, rs, rfl, _, _, L⟩
    exact SqL.of (L.get (show (c, refsO (hps ++ [m1])) ∈ _ from List.mem_append_left _ List.mem_cons_self))
  · rintro i v σ H5 hv ⟨x3, rs, rfl, hrs, hrr, L⟩
    obtain ⟨s, hs, rfl⟩ := mapA_get hv
    have hi := lt_of_get hs
    rw [List.length_append, List.length_singleton] at hi
    have gr := get_some (xs := rs) (i := i) (by omega)
    generalize rs[i]'(by omega) = r at gr
    have hr := L.get (List.mem_append_left _ (List.mem_cons_of_mem _ (rowsC_get hs gr)))
    have hrl := hrr r (List.mem_of_getElem? gr)
    refine ⟨_, rfl, .inl ⟨rfl, _, SqL.of hr⟩, s, _, _, rfl, rfl, hr, szl (by simp; omega), ?_⟩
    rw [map_int_snoc]
    refine ⟨_, rs.set i (r ++ [1]), rfl, by rw [List.length_set]; exact hrs, fun w hw => ?_, L.rowW1 hs gr (r ++ [1])⟩
    rcases List.mem_or_eq_of_mem_set hw with hw | hw
    · have := hrr w hw; omega
    · rw [hw, List.length_append, List.length_singleton]; omega
  · rintro σ H5 ⟨x3, rs, rfl, _, _, L⟩
    dsimp only
    have h05 := L.get (show (h0, refsO hps) ∈ _ from List.mem_append_right _ (List.mem_cons_of_mem _ (List.mem_cons_of_mem _ List.mem_cons_self)))
    -- handed[0].append([])
    refine q_drp (R := fun v H6 => Lo Hb H6 [(q2, intsO []), (p2, refsO [])]) (fun Q' q' => ?_) ?_
    · refine ⟨_, rfl, h, _, 0, .ref h0, rfl, rfl, SqL.of (L.same _ _ hhb), rfl, .inl ⟨rfl, _, SqL.of h05⟩, by show 0 ≤ sizeLine; decide, fun e he => ?_⟩
      have L11 := L.ju he (.lst [])
      have L12 : Lo Hb _ ((h0, refsO hps) :: [(q2, intsO []), (p2, refsO [])]) := L11.pk [llC c (hps ++ [m1]) rs, [(p2, refsO [])], [(q2, intsO [])], [(h0, refsO hps)]] [0, 1, 2, 3] [3, 2, 1] [0]
      exact ⟨h0, _, _, rfl, rfl, L12.get List.mem_cons_self, szl (by simp; omega), q' _ _ ((L12.wr0 _).sub (List.sublist_cons_self _ _))⟩
    rintro _ H6 L6
    -- again.orders.extend, again.marks.extend
    refine q_drp (R := fun v H7 => Lo Hb H7 [(q2, intsO []), (p2, refsO pso)]) (fun Q' q' => ?_) ?_
    · have hp6 := L6.get (List.mem_cons_of_mem _ List.mem_cons_self)
      refine ⟨_, rfl, y, C, dy, _, _, rfl, L6.same _ _ hyb, T.cl, T.nO, fewF_orders _ _, .inl ⟨rfl, _, SqL.of hp6⟩, _, rfl, p2, po, _, _, rfl, rfl, hp6, L6.same _ _ Rb.top, by simp; exact sz (by omega), q' _ _ ?_⟩
      exact Lo.wr (A := [(q2, intsO [])]) (B := []) L6 (refsO pso)
    rintro _ H7 L7
    refine q_drp (R := fun v H8 => Lo Hb H8 [(q2, intsO marks), (p2, refsO pso)]) (fun Q' q' => ?_) ?_
    · have hq7 := L7.get List.mem_cons_self
      refine ⟨_, rfl, y, C, dy, _, _, rfl, L7.same _ _ hyb, T.cl, T.nM, fewF_marks _ _, .inl ⟨rfl, _, SqL.of hq7⟩, _, rfl, q2, pm, _, _, rfl, rfl, hq7, L7.same _ _ hmb, by simp; exact sz (by omega), q' _ _ ?_⟩
      exact L7.wr0 (intsO marks)
    rintro _ H8 L8
    have F8 : FewR H8 C y dy p2 pso rows q2 marks := ⟨L8.same _ _ hyb, ⟨L8.get (List.mem_cons_of_mem _ List.mem_cons_self), Rb.len, (Rb.same L8.sm).row⟩, L8.get List.mem_cons_self⟩
    have G8 := Fb.same L8.sm
    have R8 := Rb.same L8.sm
    have ha8 := L8.same _ _ hab
    have hm8 := L8.same _ _ hmb
    have k8 : ∀ H', Same H8 H' → Q (.bl true) H' := fun H' s => kb H' (L8.sm.trans s)
    refine q_setR (R := fun v H9 => v = .bl (isFewM us rows marks) ∧ Same H8 H9) (fun Q' q' => ⟨_, rfl, _, rfl, _, rfl, a, us, po, pso, rows, pm, marks, rfl, ha8, R8, hm8, hul, by omega, hml, fun H9 s9 => q' _ _ ⟨rfl, s9⟩⟩) ?_
    rintro _ H9 ⟨rfl, s9⟩
    have F9 := F8.same s9
    have G9 := G8.same s9
    have ha9 := s9 _ _ ha8
    refine q_no (fun Q' q' => ?_) ?_
    · refine ⟨_, rfl, x, C, dx, _, _, rfl, G9.x, T.cl, T.nO, fewF_orders _ _, _, rfl, x, C, dx, _, _, rfl, G9.x, T.cl, T.nM, fewF_marks _ _, by show 2 ≤ sizeLine; decide, fun u hu2 => ?_⟩
      refine ⟨_, rfl, _, rfl, by show 2 ≤ sizeLine; decide, fun w hw => ?_⟩
      have su := Same.new hu2 (.lst [.ref p, .ref q])
      have sw := Same.new hw (.lst [.ref po, .ref pm])
      have suw := su.trans sw
      refine ⟨_, _, .lst (SqL.of (sw _ _ upd_same)) (.cons (G9.R.same suw).dp (.cons (dp_I (suw _ _ G9.q)) .nil)), .lst (SqL.of upd_same) (.cons ((R8.same s9).same suw).dp (.cons (dp_I (suw _ _ (s9 _ _ hm8))) .nil)), sh_pair _ _, sh_pair _ _, _, rfl, ?_⟩
      rw [eqv_pair]
      refine iteF ?_
      refine (va_shows T rfl rfl (G9.same suw) (suw _ _ ha9) hu (by omega) (by omega) (by omega)) _ ?_
      rintro _ H10 ⟨rfl, s10⟩
      refine ⟨_, rfl, _, _, rfl, fun H11 s11 => ⟨_, rfl, ?_⟩⟩
      rw [shows_eq hu, decide_eq_true rfl]
      exact q' _ (suw.trans (s10.trans s11))
    intro H10 s10
    refine (va_shows T rfl rfl (F9.same s10) (s10 _ _ ha9) hu (by omega) (by omega) (by omega)) _ ?_
    rintro _ H11 ⟨rfl, s11⟩
    refine ⟨_, rfl, _, _, rfl, fun H12 s12 => ?_⟩
    rw [shows_eq hu, decide_eq_true rfl]
    exact k8 _ (s9.trans (s10.trans (s11.trans s12)))
end Cc

namespace Cc
open PySem L2
/-! sorts of values: what is evaluated, told by sorts alone -/
abbrev Srt := Hp → V → Prop
def Mono (P : Srt) : Prop := ∀ ⦃H H' : Hp⦄ ⦃v : V⦄, P H v → Same H H' → P H' v
/-- H and the cells C -/
def plus (H : Hp) (C : List Cell) : Hp := fun a => match C.lookup a with
  | some o => some o
  | none => H a
theorem lookup_mem : ∀ {C : List Cell} {a : Addr} {o : HO}, C.lookup a = some o → (a, o) ∈ C
  | (b, u) :: C, a, o, h => by
    rw [List.lookup_cons] at h
    by_cases e : a = b
    · subst e
      simp at h
      subst h
      exact List.mem_cons_self
    · rw [show (a == b) = false by simpa using e] at h
      exact List.mem_cons_of_mem _ (lookup_mem h)
theorem lookup_of : ∀ {C : List Cell} {a : Addr} {o : HO}, (C.map (·.1)).Nodup → (a, o) ∈ C → C.lookup a = some o
  | (b, u) :: C, a, o, nd, h => by
    rw [List.map_cons, List.nodup_cons] at nd
    rw [List.lookup_cons]
    rcases List.mem_cons.mp h with e | h
    · cases e
      simp
    · have ne : ¬ a = b := fun e => nd.1 (e ▸ List.mem_map.mpr ⟨(a, o), h, rfl⟩)
      rw [show (a == b) = false by simpa using ne]
      exact lookup_of nd.2 h
theorem plus_le {H Hc : Hp} {C : List Cell} (s : Same H Hc) (h : ∀ a o, (a, o) ∈ C → Hc a = some o) : Same (plus H C) Hc := fun a o e => by
  unfold plus at e
  cases q : C.lookup a with
  | some u =>
    rw [q] at e
    cases e
    exact h a _ (lookup_mem q)
  | none =>
    rw [q] at e
    exact s a o e
theorem plus_same {H : Hp} {C : List Cell} (h : ∀ a o, (a, o) ∈ C → H a = none) : Same H (plus H C) := fun a o e => by
  unfold plus
  cases q : C.lookup a with
  | some u => rw [h a u (lookup_mem q)] at e; cases e
  | none => exact e
theorem plus_nil (H : Hp) : plus H [] = H := rfl
section
variable {H H1 H2 : Hp} {C C1 : List Cell}
theorem Lo.off (L : Lo H1 H2 C) (s : Same H H1) : ∀ a o, (a, o) ∈ C → H a = none := fun a o h => by
  cases e : H a with
  | none => rfl
  | some u =>
    have := L.new h
    rw [s _ _ e] at this
    cases this
theorem Lo.pSame (L : Lo H1 H2 C) (s : Same H H1) : Same H (plus H C) := plus_same (L.off s)
theorem Lo.pLe (L : Lo H1 H2 C) (s : Same H H1) : Same (plus H C) H2 := plus_le (s.trans L.sm) fun a o h => L.get h
theorem Lo.pUp (L : Lo H1 H2 C) (s : Same H H1) (h : ∀ c ∈ C1, c ∈ C) : Same (plus H C1) (plus H C) := plus_le (L.pSame s) fun a o hm => by
  unfold plus
  rw [lookup_of L.nd (h _ hm)]
end
/-- te gives a value of the sort P, at any heap that holds H -/
def Vt (te : TE) (σ : L2.St) (H : Hp) (P : Srt) : Prop := ∀ H1, Same H H1 → Vr te σ H1 (fun v H2 => ∃ C, Lo H1 H2 C ∧ P (plus H C) v)
def At (ta : TA) (σ : L2.St) (H : Hp) (P : Srt) (n : Nat) : Prop := ∀ H1, Same H H1 → ∀ QA : List V → Hp → Prop, (∀ vs H2 C, Lo H1 H2 C → vs.length = n → (∀ v ∈ vs, P (plus H C) v) → QA vs H2) → ta σ H1 QA
/-- lists and tuples of a sort -/
def IsS (P : Srt) (n : Nat) : Srt := fun H v => ∃ l vs, v = .ref l ∧ H l = some (.lst vs) ∧ vs.length ≤ n ∧ ∀ w ∈ vs, P H w
def IsTp (P : Srt) (n : Nat) : Srt := fun H v => ∃ l vs, v = .ref l ∧ H l = some (.tup vs) ∧ vs.length = n ∧ ∀ w ∈ vs, P H w
def IsInt : Srt := fun _ v => ∃ i, v = .int i
def IsBl : Srt := fun _ v => ∃ b, v = .bl b
def IsP2 (P R : Srt) : Srt := fun H v => ∃ t x y, v = .ref t ∧ H t = some (.tup [x, y]) ∧ P H x ∧ R H y
def IsP3 (P R S : Srt) : Srt := fun H v => ∃ t x y z, v = .ref t ∧ H t = some (.tup [x, y, z]) ∧ P H x ∧ R H y ∧ S H z
theorem mono_int : Mono IsInt := fun _ _ _ h _ => h
theorem mono_bl : Mono IsBl := fun _ _ _ h _ => h
theorem mono_s {P : Srt} {n : Nat} (m : Mono P) : Mono (IsS P n) := fun _ _ _ ⟨l, vs, e, h, hl, hp⟩ s => ⟨l, vs, e, s _ _ h, hl, fun w hw => m (hp w hw) s⟩
theorem mono_tp {P : Srt} {n : Nat} (m : Mono P) : Mono (IsTp P n) := fun _ _ _ ⟨l, vs, e, h, hl, hp⟩ s => ⟨l, vs, e, s _ _ h, hl, fun w hw => m (hp w hw) s⟩
theorem mono_p2 {P R : Srt} (m : Mono P) (m' : Mono R) : Mono (IsP2 P R) := fun _ _ _ ⟨t, x, y, e, h, hp, hr⟩ s => ⟨t, x, y, e, s _ _ h, m hp s, m' hr s⟩
theorem IsS.up {P R : Srt} {n m : Nat} {H : Hp} {v : V} (h : IsS P n H v) (hn : n ≤ m) (hP : ∀ w, P H w → R H w) : IsS R m H v :=
  let ⟨l, vs, e, h1, h2, h3⟩ := h
  ⟨l, vs, e, h1, by omega, fun w hw => hP w (h3 w hw)⟩
theorem Vt.up {te : TE} {σ : L2.St} {H : Hp} {P R : Srt} (h : Vt te σ H P) (hp : ∀ H v, P H v → R H v) : Vt te σ H R := fun H1 s Q q => h H1 s Q fun v H2 ⟨C, L, p⟩ => q v H2 ⟨C, L, hp _ _ p⟩
/-- the plain use -/
theorem Vt.r {te : TE} {σ : L2.St} {H H1 : Hp} {P : Srt} (mo : Mono P) (h : Vt te σ H P) (s : Same H H1) : Vr te σ H1 (fun v H2 => Same H1 H2 ∧ P H2 v) := fun Q q => h H1 s Q fun v H2 ⟨C, L, p⟩ => q v H2 ⟨L.sm, mo p (L.pLe s)⟩
/-- beside own cells -/
theorem Vt.lo {te : TE} {σ : L2.St} {H H1 : Hp} {P : Srt} {Lc : List Cell} (mo : Mono P) (h : Vt te σ H P) (L0 : Lo H H1 Lc) : Vr te σ H1 (fun v H2 => ∃ Hb, Same H Hb ∧ Lo Hb H2 Lc ∧ P Hb v) := fun Q q => h H1 L0.sm Q fun v H2 ⟨C, L, p⟩ => by
  obtain ⟨Hb, s1, L1, hc⟩ := (L0.ca L).frz
  exact q v H2 ⟨Hb, s1, L1, mo p (plus_le s1 fun a o h => hc h)⟩
section
variable {σ : L2.St} {H : Hp} {K : PySem.W.Frag} {P R S : Srt} {ta tb tc te : TE} {n m : Nat}
theorem vt_var {i : Nat} {v : V} (e : σ[i]? = some (some v)) (h : P H v) : Vt (tVar i) σ H P := fun H1 s Q q => ⟨v, e, q _ _ ⟨[], Lo.nil _, h⟩⟩
theorem vt_c {v : V} (h : P H v) : Vt (tC v) σ H P := fun H1 s Q q => q _ _ ⟨[], Lo.nil _, h⟩
theorem vt_int {i : Int} : Vt (tC (.int i)) σ H IsInt := vt_c ⟨i, rfl⟩
theorem vt_bl {b : Bool} : Vt (tC (.bl b)) σ H IsBl := vt_c ⟨b, rfl⟩
theorem vt_neg (h : Vt te σ H IsInt) : Vt (tUn qNeg te) σ H IsInt := fun H1 s Q q => h H1 s _ fun v H2 ⟨C, L, i, e⟩ => ⟨i, e, q _ _ ⟨C, L, _, rfl⟩⟩
theorem vt_add (h : Vt ta σ H IsInt) (h' : Vt tb σ H IsInt) : Vt (tOp qAdd ta tb) σ H IsInt := fun H1 s Q q => h H1 s _ fun v H2 ⟨C, L, i, e⟩ => h' H2 (s.trans L.sm) _ fun w H3 ⟨C', L', j, e'⟩ => ⟨i, j, e, e', q _ _ ⟨_, L.ca L', _, rfl⟩⟩
theorem vt_sub (h : Vt ta σ H IsInt) (h' : Vt tb σ H IsInt) : Vt (tOp qSub ta tb) σ H IsInt := fun H1 s Q q => h H1 s _ fun v H2 ⟨C, L, i, e⟩ => h' H2 (s.trans L.sm) _ fun w H3 ⟨C', L', j, e'⟩ => ⟨i, j, e, e', q _ _ ⟨_, L.ca L', _, rfl⟩⟩
theorem at_nil : At tNil σ H P 0 := fun H1 s QA q => q [] H1 [] (Lo.nil _) rfl (fun _ h => nomatch h)
theorem at_cons {tr : TA} (mo : Mono P) (h : Vt te σ H P) (h' : At tr σ H P n) : At (tCons te tr) σ H P (n + 1) := fun H1 s QA q => h H1 s _ fun v H2 ⟨C, L, pv⟩ => h' H2 (s.trans L.sm) _ fun vs H3 C' L' hl hp =>
  q (v :: vs) H3 (C' ++ C) (L.ca L') (by simp [hl]) fun w hw => by
    rcases List.mem_cons.mp hw with rfl | hw
    · exact mo pv ((L.ca L').pUp s fun c hc => List.mem_append_right _ hc)
    · exact mo (hp w hw) ((L.ca L').pUp s fun c hc => List.mem_append_left _ hc)
theorem vt_lst {ta : TA} (mo : Mono P) (hn : n ≤ 100000) (h : At ta σ H P n) : Vt (tLst ta) σ H (IsS P n) := fun H1 s Q q => h H1 s _ fun vs H2 C L hl hp =>
  ⟨by rw [hl]; exact sz hn, fun l hl' => q _ _ ⟨_, L.al hl' (.lst vs), l, vs, rfl, by unfold plus; rw [List.lookup_cons_self], by omega, fun w hw => mo (hp w hw) ((L.al hl' (.lst vs)).pUp s fun c hc => List.mem_cons_of_mem _ hc)⟩⟩
theorem vt_tup {ta : TA} (mo : Mono P) (hn : n ≤ 100000) (h : At ta σ H P n) : Vt (tTup ta) σ H (IsTp P n) := fun H1 s Q q => h H1 s _ fun vs H2 C L hl hp =>
  ⟨by rw [hl]; exact sz hn, fun l hl' => q _ _ ⟨_, L.al hl' (.tup vs), l, vs, rfl, by unfold plus; rw [List.lookup_cons_self], hl, fun w hw => mo (hp w hw) ((L.al hl' (.tup vs)).pUp s fun c hc => List.mem_cons_of_mem _ hc)⟩⟩
theorem vt_p2 (mo : Mono P) (mo' : Mono R) (h : Vt ta σ H P) (h' : Vt tb σ H R) : Vt (tTup (tCons ta (tCons tb tNil))) σ H (IsP2 P R) := fun H1 s Q q => h H1 s _ fun v H2 ⟨C, L, pv⟩ => h' H2 (s.trans L.sm) _ fun w H3 ⟨C', L', pw⟩ =>
  ⟨by show 2 ≤ sizeLine; decide, fun t ht => q _ _ ⟨_, (L.ca L').al ht (.tup [v, w]), t, v, w, rfl, by unfold plus; rw [List.lookup_cons_self], mo pv (((L.ca L').al ht (.tup [v, w])).pUp s fun c hc => List.mem_cons_of_mem _ (List.mem_append_right _ hc)), mo' pw (((L.ca L').al ht (.tup [v, w])).pUp s fun c hc => List.mem_cons_of_mem _ (List.mem_append_left _ hc))⟩⟩
/-- a new list made of such ones -/
theorem isS_new {H1 H3 : Hp} {C : List Cell} (mo : Mono P) {c : Addr} {vs : List V} (L : Lo H1 H3 C) (s : Same H H1) (hc : H3 c = none) (hn : vs.length ≤ n) (h : ∀ v ∈ vs, P (plus H C) v) : ∃ C, Lo H1 (upd H3 c (.lst vs)) C ∧ IsS P n (plus H C) (.ref c) :=
  ⟨_, L.al hc (.lst vs), c, vs, rfl, by unfold plus; rw [List.lookup_cons_self], hn, fun w hw => mo (h w hw) ((L.al hc (.lst vs)).pUp s fun c hc => List.mem_cons_of_mem _ hc)⟩
theorem vt_cat (mo : Mono P) (hn : n + m ≤ 100000) (h : Vt ta σ H (IsS P n)) (h' : Vt tb σ H (IsS P m)) : Vt (tOp rCat ta tb) σ H (IsS P (n + m)) := fun H1 s Q q => h H1 s _ fun v H2 ⟨C, L, l, vs, e, g, gl, gp⟩ => h' H2 (s.trans L.sm) _ fun w H3 ⟨C', L', l', vs', e', g', gl', gp'⟩ => by
  have L2 := L.ca L'
  have u1 := L2.pUp s fun c hc => List.mem_append_right C' hc
  have u2 := L2.pUp s fun c hc => List.mem_append_left C hc
  refine ⟨l, l', vs, vs', e, e', L2.pLe s _ _ (u1 _ _ g), L2.pLe s _ _ (u2 _ _ g'), sz (by omega), fun c hc => q _ _ (isS_new mo L2 s hc (by simp; omega) fun w hw => ?_)⟩
  rcases List.mem_append.mp hw with hw | hw
  · exact mo (gp w hw) u1
  · exact mo (gp' w hw) u2
theorem vt_rev (mo : Mono P) (h : Vt te σ H (IsS P n)) : Vt (tRevL K te) σ H (IsS P n) := fun H1 s Q q => h H1 s _ fun v H2 ⟨C, L, l, vs, e, g, gl, gp⟩ =>
  ⟨l, vs, e, SqL.of (L.pLe s _ _ g), fun c hc => q _ _ (isS_new mo L s hc (by simpa using gl) fun w hw => gp w (List.mem_reverse.mp hw))⟩
theorem cut_mem {xs : List V} {lo hi : Option Int} {x : V} (h : x ∈ cutV xs lo hi) : x ∈ xs := by
  unfold cutV at h
  exact List.mem_of_mem_drop (List.mem_of_mem_take h)
theorem cut_len {xs : List V} {lo hi : Option Int} : (cutV xs lo hi).length ≤ xs.length := by
  unfold cutV
  rw [List.length_take, List.length_drop]
  omega
/-- a part of a slice -/
def Vp (to : TO) (σ : L2.St) (H : Hp) : Prop := ∀ H1, Same H H1 → ∀ Q : Option Int → Hp → Prop, (∀ o H2 C, Lo H1 H2 C → Q o H2) → to σ H1 Q
theorem vp_no : Vp tNoPart σ H := fun H1 s Q q => q _ _ [] (Lo.nil _)
theorem vp_some (h : Vt te σ H IsInt) : Vp (tPart te) σ H := fun H1 s Q q => h H1 s _ fun v H2 ⟨C, L, i, e⟩ => ⟨i, e, q _ _ C L⟩
theorem vt_sl {tl th : TO} (mo : Mono P) (h : Vt te σ H (IsS P n)) (hl : Vp tl σ H) (hh : Vp th σ H) : Vt (L2.tSl (rSlL K) te tl th) σ H (IsS P n) := fun H1 s Q q => h H1 s _ fun v H2 ⟨C, L, l, vs, e, g, gl, gp⟩ => hl H2 (s.trans L.sm) _ fun lo H3 C' L' => hh H3 (s.trans (L.sm.trans L'.sm)) _ fun hi H4 C'' L'' => by
  have L2 := (L.ca L').ca L''
  have u1 := L2.pUp s fun c hc => List.mem_append_right C'' (List.mem_append_right C' hc)
  exact ⟨l, vs, e, SqL.of (L2.pLe s _ _ (u1 _ _ g)), fun c hc => q _ _ (isS_new mo L2 s hc (Nat.le_trans cut_len gl) fun w hw => mo (gp w (cut_mem hw)) u1)⟩
/-- list(x) -/
theorem vt_list (mo : Mono P) (h : Vt te σ H (IsS P n)) : Vt (tCB (qList K) (tCons te tNil)) σ H (IsS P n) := fun H1 s Q q => h H1 s _ fun v H2 ⟨C, L, l, vs, e, g, gl, gp⟩ =>
  ⟨l, vs, by rw [e], .inl (SqL.of (L.pLe s _ _ g)), fun c hc => q _ _ (isS_new mo L s hc gl gp)⟩
/-- if .. else .. of one sort -/
theorem vt_if {tt : TT} (h : ∀ H1, Same H H1 → ∀ Q : Bool → Hp → Prop, (∀ b H2 C, Lo H1 H2 C → Q b H2) → tt σ H1 Q) (ha : Vt ta σ H P) (hb : Vt tb σ H P) (mo : Mono P) : Vt (tIf tt ta tb) σ H P := fun H1 s Q q => h H1 s _ fun b H2 C L => by
  refine ite2 (fun _ => ?_) (fun _ => ?_)
  · exact ha H2 (s.trans L.sm) _ fun v H3 ⟨C', L', p⟩ => q _ _ ⟨_, L.ca L', mo p ((L.ca L').pUp s fun c hc => List.mem_append_left _ hc)⟩
  · exact hb H2 (s.trans L.sm) _ fun v H3 ⟨C', L', p⟩ => q _ _ ⟨_, L.ca L', mo p ((L.ca L').pUp s fun c hc => List.mem_append_left _ hc)⟩
end
/-- lists of ints -/
theorem isS_int {n : Nat} {H : Hp} {v : V} (h : IsS IsInt n H v) : ∃ p r, v = .ref p ∧ H p = some (intsO r) ∧ r.length ≤ n := by
  obtain ⟨l, vs, e, g, gl, gp⟩ := h
  have : ∀ vs : List V, (∀ w ∈ vs, IsInt H w) → ∃ r : List Int, vs = r.map V.int := fun vs => by
    induction vs with
    | nil => exact fun _ => ⟨[], rfl⟩
    | cons v vs ih =>
      intro h
      obtain ⟨i, rfl⟩ := h v List.mem_cons_self
      obtain ⟨r, rfl⟩ := ih fun w hw => h w (List.mem_cons_of_mem _ hw)
      exact ⟨i :: r, rfl⟩
  obtain ⟨r, rfl⟩ := this vs gp
  exact ⟨l, r, e, g, by simpa using gl⟩
theorem is_ints {n : Nat} {H : Hp} {p : Addr} {r : List Int} (h : H p = some (intsO r)) (hl : r.length ≤ n) : IsS IsInt n H (.ref p) :=
  ⟨p, _, rfl, h, by simpa using hl, fun w hw => by obtain ⟨i, _, rfl⟩ := List.mem_map.mp hw; exact ⟨i, rfl⟩⟩
/-- lists of lists of ints -/
theorem isS_rows {n m : Nat} {H : Hp} {v : V} (h : IsS (IsS IsInt m) n H v) : ∃ p ps rows, v = .ref p ∧ Rows H p ps rows ∧ rows.length ≤ n ∧ ∀ r ∈ rows, r.length ≤ m := by
  obtain ⟨l, vs, e, g, gl, gp⟩ := h
  have : ∀ vs : List V, (∀ w ∈ vs, IsS IsInt m H w) → ∃ (ps : List Addr) (rows : List (List Int)), vs = ps.map V.ref ∧ ps.length = rows.length ∧ (∀ {i : Nat} {q : Addr} {r : List Int}, ps[i]? = some q → rows[i]? = some r → H q = some (intsO r)) ∧ ∀ r ∈ rows, r.length ≤ m := fun vs => by
    induction vs with
    | nil => exact fun _ => ⟨[], [], rfl, rfl, fun h => by simp at h, fun r hr => nomatch hr⟩
    | cons v vs ih =>
      intro h
      obtain ⟨p, r, rfl, hp, hr⟩ := isS_int (h v List.mem_cons_self)
      obtain ⟨ps, rows, rfl, h1, h2, h3⟩ := ih fun w hw => h w (List.mem_cons_of_mem _ hw)
      refine ⟨p :: ps, r :: rows, rfl, by simp [h1], fun {i q s} e1 e2 => ?_, fun s hs => ?_⟩
      · cases i with
        | zero => cases e1; cases e2; exact hp
        | succ i => exact h2 (i := i) e1 e2
      · rcases List.mem_cons.mp hs with rfl | hs
        · exact hr
        · exact h3 s hs
  obtain ⟨ps, rows, rfl, h1, h2, h3⟩ := this vs gp
  rw [List.length_map] at gl
  exact ⟨l, ps, rows, e, ⟨g, h1, h2⟩, by omega, h3⟩
theorem is_rows {n m : Nat} {H : Hp} {p : Addr} {ps : List Addr} {rows : List (List Int)} (h : Rows H p ps rows) (hl : rows.length ≤ n) (hr : ∀ r ∈ rows, r.length ≤ m) : IsS (IsS IsInt m) n H (.ref p) :=
  ⟨p, _, rfl, h.top, by rw [List.length_map, h.len]; exact hl, fun w hw => by
    obtain ⟨q, hq, rfl⟩ := List.mem_map.mp hw
    obtain ⟨i, hi, rfl⟩ := List.mem_iff_getElem.mp hq
    have gr := get_some (xs := rows) (i := i) (by have := h.len; omega)
    exact is_ints (h.row (get_some hi) gr) (hr _ (List.mem_of_getElem? gr))⟩
end Cc

namespace Cc
open PySem L2
section
variable {σ : L2.St} {H : Hp} {K : PySem.W.Frag} {P R S : Srt} {ta tb tc te tl : TE} {n m j : Nat}
/-- [e for x in xs] -/
theorem vt_map (mo : Mono P) (mo' : Mono R) (hn : n ≤ 50000) (h : Vt tl σ H (IsS P n)) (he : ∀ x Hx, Same H Hx → P Hx x → Vt te ((wipe σ [j]).set j (some x)) Hx R) :
    Vt (tLc (iList K tl) (gName j) tYes te [j]) σ H (IsS R n) := fun H1 s Q q => h H1 s _ fun v H2 ⟨C, L, l, vs, e, g, gl, gp⟩ => by
  subst e
  have hl2 := L.pLe s _ _ g
  have sx : Same H (plus H C) := L.pSame s
  have sx2 : Same (plus H C) H2 := L.pLe s
  refine ⟨l, rfl, ⟨_, SqL.of hl2⟩, fun D hD => ?_⟩
  refine lcY (fun i y C' => (∀ a o, (a, o) ∈ C' → plus H C a = none) ∧ (C'.map (·.1)).Nodup ∧ R (plus (plus H C) C') y) (wk_list (SqL.of hl2)) (by omega) hD ?_ ?_ (gN_mono _)
  · rintro i x C' H3 s3 ⟨hx, rfl⟩ _ hi Q' kq
    refine ⟨wipe1_set _ _ _, ?_⟩
    refine he x _ sx (gp x (List.mem_of_getElem? hx)) H3 (sx2.trans s3) Q' ?_
    rintro y H4 ⟨C4, L4, r4⟩
    exact kq y C4 H4 L4 ⟨L4.off (sx2.trans s3), L4.nd, r4⟩
  · intro ys Cs H3 L3 h1 h2 h3
    have L4 := L.ca L3
    refine q _ _ ⟨_, L4, D, ys, rfl, ?_, by omega, fun w hw => ?_⟩
    · unfold plus
      rw [List.cons_append, List.lookup_cons_self]
    · obtain ⟨i, hi, rfl⟩ := List.mem_iff_getElem.mp hw
      have ec := get_some (xs := Cs) (i := i) (by omega)
      obtain ⟨k1, k2, k3⟩ := h3 i _ _ (get_some hi) ec
      refine mo' k3 (plus_le (L4.pUp s fun c hc => List.mem_append_right _ hc) fun a o hm => ?_)
      unfold plus
      rw [lookup_of L4.nd (List.mem_append_left _ (List.mem_cons_of_mem _ (List.mem_flatten.mpr ⟨_, List.mem_of_getElem? ec, hm⟩)))]
/-- _law_called(ups) -/
theorem vt_called {i : Nat} {a : Addr} {us : List Int} (e : σ[i]? = some (some (.ref a))) (ha : H a = some (intsO us)) (hl : us.length ≤ 99) : Vt (tCall sp__law_called [] E0 (tCons (tVar i) tNil)) σ H (IsS (IsS IsInt 100) 100) := fun H1 s Q q =>
  ⟨_, e, a, us, rfl, s _ _ ha, by omega, fun p ps H2 L hps => q _ _ ⟨_, L, is_rows (ps := ps) (rows := lcalledM us) (by
    refine Rows.of_mem (fun {a o} hm => ?_) (by rw [lcalledM_len]; exact hps)
    unfold plus
    rw [lookup_of L.nd hm]) (by rw [lcalledM_len]; omega) fun r hr => by
      unfold lcalledM at hr
      obtain ⟨k, _, rfl⟩ := List.mem_map.mp hr
      unfold lrowM
      refine Nat.le_trans (List.length_filterMap_le _ _) ?_
      simp
      omega⟩⟩
end
end Cc

namespace Cc
open PySem L2
/-! _law_lots -/
abbrev sRow : Srt := IsS IsInt 300
abbrev sOrd : Srt := IsS sRow 300
abbrev IsPr : Srt := IsP2 sOrd sRow
theorem mo_row : Mono sRow := mono_s mono_int
theorem mo_ord : Mono sOrd := mono_s mo_row
theorem mo_pr : Mono IsPr := mono_p2 mo_ord mo_row
def sp__law_lots : Sp := fun vs H Q _ => ∃ (po : Addr) (pso : List Addr) (rows : List (List Int)) (pm : Addr) (marks : List Int) (at' : Nat) (whole : Int), vs = [.ref po, .ref pm, .int at', .int whole] ∧ Rows H po pso rows ∧ H pm = some (intsO marks) ∧ rows.length ≤ 100 ∧ marks.length ≤ 100 ∧
  (∀ r ∈ rows, r.length ≤ 100) ∧ at' < rows.length ∧ at' < marks.length ∧ ∀ v H', Same H H' → IsS IsPr 12 H' v → Q v H'
def eRows (K : PySem.W.Frag) : TE := (tTup (tCons (tRevL K (tVar 4)) (tCons (L2.tSl (rSlL K) (tVar 4) (tPart (tC (.int 1))) tNoPart) (tCons (tOp rCat (L2.tSl (rSlL K) (tVar 4) (tPart (tC (.int 1))) tNoPart) (L2.tSl (rSlL K) (tVar 4) tNoPart (tPart (tC (.int 1))))) (tCons (tOp rCat (tVar 4) (L2.tSl (rSlL K) (tVar 4) tNoPart (tPart (tC (.int 1))))) (tCons (tOp rCat (tVar 4) (tLst (tCons (tC (.int 0)) tNil))) (tCons (tOp rCat (tVar 4) (tLst (tCons (tUn qNeg (tC (.int 1))) tNil))) (tCons (tOp rCat (tVar 4) (tLst (tCons (tOp qPow (tC (.int 10)) (tC (.int 20))) tNil))) tNil))))))))
def eOrd (K : PySem.W.Frag) : TE := (tTup (tCons (tOp rCat (tOp rCat (L2.tSl (rSlL K) (tVar 0) tNoPart (tPart (tVar 2))) (tLst (tCons (tVar 6) tNil))) (L2.tSl (rSlL K) (tVar 0) (tPart (tOp qAdd (tVar 2) (tC (.int 1)))) tNoPart)) (tCons (tVar 1) tNil)))
def eMores : TE := (tTup (tCons (tC (.int 1)) (tCons (tUn qNeg (tC (.int 1))) (tCons (tOp qMod (tVar 3) (tC (.int 5))) (tCons (tOp qPow (tC (.int 10)) (tC (.int 20))) (tCons (tUn qNeg (tOp qPow (tC (.int 10)) (tC (.int 20)))) tNil))))))
def eMark (K : PySem.W.Frag) : TE := (tTup (tCons (tVar 0) (tCons (tOp rCat (tOp rCat (L2.tSl (rSlL K) (tVar 1) tNoPart (tPart (tVar 2))) (tLst (tCons (tOp qAdd (tOp (rIxL K) (tVar 1) (tVar 2)) (tVar 7)) tNil))) (L2.tSl (rSlL K) (tVar 1) (tPart (tOp qAdd (tVar 2) (tC (.int 1)))) tNoPart)) tNil)))
def t__law_lots (K : PySem.W.Frag) : TS :=
(tSeq (tPar 4 5 (tCons (tOp (rIxL K) (tVar 0) (tVar 2)) (tCons (tLst tNil) tNil)))
    (tSeq (tFor (iTup K (eRows K)) (gName 6)
    (tDrop (tBM K "list" rAppend (tVar 5) (tCons (eOrd K) tNil))))
    (tSeq (tFor (iTup K eMores) (gName 7)
    (tDrop (tBM K "list" rAppend (tVar 5) (tCons (eMark K) tNil))))
    (tRet (tVar 5)))))
section
variable {σ : L2.St} {H : Hp} {K : PySem.W.Frag} {te : TE} {n : Nat}
theorem vt_row (h : Vt te σ H (IsS IsInt n)) (hn : n ≤ 300) : Vt te σ H sRow := h.up fun H v p => p.up hn fun _ w => w
theorem vt_ord (h : Vt te σ H (IsS sRow n)) (hn : n ≤ 300) : Vt te σ H sOrd := h.up fun H v p => p.up hn fun _ w => w
theorem vt_pow : Vt (tOp qPow (tC (.int 10)) (tC (.int 20))) σ H IsInt := fun H1 s Q q => ⟨10, 20, rfl, rfl, ⟨by decide, by decide, by decide⟩, q _ _ ⟨[], Lo.nil _, _, rfl⟩⟩
end
theorem vt_one {te : TE} {σ : L2.St} {H : Hp} (h : Vt te σ H IsInt) : Vt (tLst (tCons te tNil)) σ H (IsS IsInt 1) := vt_lst mono_int (by decide) (at_cons mono_int h at_nil)
theorem vt_eRows {K : PySem.W.Frag} {σ : L2.St} {H : Hp} {pr : Addr} (e : σ[4]? = some (some (.ref pr))) (sR : IsS IsInt 100 H (.ref pr)) : Vt (eRows K) σ H (IsTp sRow 7) := by
  have v4 : Vt (tVar 4) σ H (IsS IsInt 100) := vt_var e sR
  have vf : Vt (L2.tSl (rSlL K) (tVar 4) (tPart (tC (.int 1))) tNoPart) σ H (IsS IsInt 100) := vt_sl mono_int v4 (vp_some vt_int) vp_no
  have vt' : Vt (L2.tSl (rSlL K) (tVar 4) tNoPart (tPart (tC (.int 1)))) σ H (IsS IsInt 100) := vt_sl mono_int v4 vp_no (vp_some vt_int)
  have h1 : Vt (tRevL K (tVar 4)) σ H sRow := vt_row (vt_rev mono_int v4) (by decide)
  have h2 : Vt (L2.tSl (rSlL K) (tVar 4) (tPart (tC (.int 1))) tNoPart) σ H sRow := vt_row vf (by decide)
  have h3 := vt_row (vt_cat mono_int (by decide) vf vt') (by decide)
  have h4 := vt_row (vt_cat mono_int (by decide) v4 vt') (by decide)
  have h5 := vt_row (vt_cat mono_int (by decide) v4 (vt_one (vt_int (i := 0)))) (by decide)
  have h6 := vt_row (vt_cat mono_int (by decide) v4 (vt_one (vt_neg (vt_int (i := 1))))) (by decide)
  have h7 := vt_row (vt_cat mono_int (by decide) v4 (vt_one vt_pow)) (by decide)
  exact vt_tup mo_row (by decide) (at_cons mo_row h1 (at_cons mo_row h2 (at_cons mo_row h3 (at_cons mo_row h4 (at_cons mo_row h5 (at_cons mo_row h6 (at_cons mo_row h7 at_nil)))))))
theorem vt_eOrd {K : PySem.W.Frag} {σ : L2.St} {H : Hp} {po pm : Addr} {v : V} {i : Int} (e0 : σ[0]? = some (some (.ref po))) (e1 : σ[1]? = some (some (.ref pm))) (e2 : σ[2]? = some (some (.int i))) (e6 : σ[6]? = some (some v)) (sO : IsS sRow 100 H (.ref po)) (sM : IsS IsInt 100 H (.ref pm)) (sv : sRow H v) : Vt (eOrd K) σ H IsPr := by
  have v0 : Vt (tVar 0) σ H (IsS sRow 100) := vt_var e0 sO
  have v2 : Vt (tVar 2) σ H IsInt := vt_var e2 ⟨_, rfl⟩
  have h1 : Vt (L2.tSl (rSlL K) (tVar 0) tNoPart (tPart (tVar 2))) σ H (IsS sRow 100) := vt_sl mo_row v0 vp_no (vp_some v2)
  have h2 : Vt (tLst (tCons (tVar 6) tNil)) σ H (IsS sRow 1) := vt_lst mo_row (by decide) (at_cons mo_row (vt_var e6 sv) at_nil)
  have h3 : Vt (L2.tSl (rSlL K) (tVar 0) (tPart (tOp qAdd (tVar 2) (tC (.int 1)))) tNoPart) σ H (IsS sRow 100) := vt_sl mo_row v0 (vp_some (vt_add v2 vt_int)) vp_no
  have h4 := vt_ord (vt_cat mo_row (by decide) (vt_cat mo_row (by decide) h1 h2) h3) (by decide)
  have h5 : Vt (tVar 1) σ H sRow := vt_row (vt_var e1 sM) (by decide)
  exact vt_p2 mo_ord mo_row h4 h5
theorem vt_eMores {σ : L2.St} {H : Hp} {i : Int} (e : σ[3]? = some (some (.int i))) : Vt eMores σ H (IsTp IsInt 5) := by
  have h3 : Vt (tOp qMod (tVar 3) (tC (.int 5))) σ H IsInt := fun H1 s Q q => ⟨_, e, _, _, rfl, rfl, (by decide : (0 : Int) < 5), q _ _ ⟨[], Lo.nil _, _, rfl⟩⟩
  exact vt_tup mono_int (by decide) (at_cons mono_int vt_int (at_cons mono_int (vt_neg vt_int) (at_cons mono_int h3 (at_cons mono_int vt_pow (at_cons mono_int (vt_neg vt_pow) at_nil)))))
theorem vt_eMark {K : PySem.W.Frag} {σ : L2.St} {H : Hp} {po pm : Addr} {v : V} {i : Nat} {marks : List Int} (e0 : σ[0]? = some (some (.ref po))) (e1 : σ[1]? = some (some (.ref pm))) (e2 : σ[2]? = some (some (.int i))) (e7 : σ[7]? = some (some v)) (sO : IsS sRow 100 H (.ref po)) (hm : H pm = some (intsO marks)) (hml : marks.length ≤ 100)
    (hi : i < marks.length) (sv : IsInt H v) : Vt (eMark K) σ H IsPr := by
  have v1 : Vt (tVar 1) σ H (IsS IsInt 100) := vt_var e1 (is_ints hm hml)
  have v2 : Vt (tVar 2) σ H IsInt := vt_var e2 ⟨_, rfl⟩
  have h1 : Vt (L2.tSl (rSlL K) (tVar 1) tNoPart (tPart (tVar 2))) σ H (IsS IsInt 100) := vt_sl mono_int v1 vp_no (vp_some v2)
  have hx : Vt (tOp (rIxL K) (tVar 1) (tVar 2)) σ H IsInt := fun H1 s Q q => ⟨_, e1, _, e2, pm, _, (i : Nat), _, rfl, rfl, SqL.of (s _ _ hm), atI_int (by omega) (by rw [Int.toNat_natCast]; exact get_some hi), q _ _ ⟨[], Lo.nil _, _, rfl⟩⟩
  have h2 := vt_one (vt_add hx (vt_var e7 sv))
  have h3 : Vt (L2.tSl (rSlL K) (tVar 1) (tPart (tOp qAdd (tVar 2) (tC (.int 1)))) tNoPart) σ H (IsS IsInt 100) := vt_sl mono_int v1 (vp_some (vt_add v2 vt_int)) vp_no
  have h4 := vt_row (vt_cat mono_int (by decide) (vt_cat mono_int (by decide) h1 h2) h3) (by decide)
  exact vt_p2 mo_ord mo_row (vt_ord (vt_var e0 sO) (by decide)) h4
theorem v__law_lots {K : PySem.W.Frag} {vs : List V} {H : Hp} {Q : VK} {E : XK} (h : sp__law_lots vs H Q E) : t__law_lots K (fin Q) (st0 8 vs) H := by
  obtain ⟨po, pso, rows, pm, marks, at', whole, rfl, R, hm, hrl, hml, rr, ha1, ha2, k⟩ := h
  have hpl := R.len
  have gp := get_some (xs := pso) (i := at') (by omega)
  have gr := get_some (xs := rows) (i := at') ha1
  generalize pso[at']'(by omega) = pr at gp
  generalize rows[at']'ha1 = row at gr
  have hrow := R.row gp gr
  have hrow2 := rr row (List.mem_of_getElem? gr)
  refine q_par (R := fun v H1 => v = .ref pr ∧ H1 = H) (R2 := fun v w H1 => ∃ l, v = .ref pr ∧ w = .ref l ∧ Lo H H1 [(l, .lst [])]) (fun Q' q' => ⟨_, rfl, _, rfl, po, _, (at' : Nat), .ref pr, rfl, rfl, SqL.of R.top, atI_ref (by omega) (by rw [Int.toNat_natCast]; exact gp), q' _ _ ⟨rfl, rfl⟩⟩) ?_ ?_
  · rintro _ _ ⟨rfl, rfl⟩ Q' q'
    exact ⟨by show 0 ≤ sizeLine; decide, fun l hl => q' _ _ ⟨l, rfl, rfl, (Lo.nil _).al hl _⟩⟩
  rintro _ _ H1 ⟨l, rfl, rfl, L1⟩
  have sO : IsS sRow 100 H (.ref po) := is_rows R (by omega) fun r hr => by have := rr r hr; omega
  have sR : IsS IsInt 100 H (.ref pr) := is_ints hrow hrow2
  have sM : IsS IsInt 100 H (.ref pm) := is_ints hm hml
  refine q_forT ((vt_eRows rfl sR).lo (mono_tp mo_row) L1) ?_
  rintro _ H2 ⟨Hb, sb, L2, T, ts, rfl, hT, htl, hts⟩
  refine ⟨T, rfl, ⟨_, SqT.of (L2.same _ _ hT)⟩, ?_⟩
  refine for_tup (xs := ts) (fun i σ H3 => ∃ (x6 : Option V) (Hc : Hp) (ws : List V), σ = [some (.ref po), some (.ref pm), some (.int at'), some (.int whole), some (.ref pr), some (.ref l), x6, none] ∧ Same Hb Hc ∧ Lo Hc H3 [(l, .lst ws)] ∧ ws.length ≤ i ∧ ∀ w ∈ ws, IsPr Hc w) ?_ ?_ ?_ ?_
  · exact ⟨_, Hb, [], rfl, Same.refl _, L2, by simp, fun w hw => nomatch hw⟩
  · rintro i σ H3 _ ⟨x6, Hc, ws, rfl, sc, L3, _, _⟩
    exact SqT.of (L3.same _ _ (sc _ _ hT))
  · rintro i v σ H3 hv ⟨x6, Hc, ws, rfl, sc, L3, hwl, hws⟩
    have hi := lt_of_get hv
    have pv : sRow Hc v := mo_row (hts v (List.mem_of_getElem? hv)) sc
    refine s_bm (va_var rfl) (.inl ⟨rfl, _, SqL.of (L3.get List.mem_cons_self)⟩) ((vt_eOrd rfl rfl rfl rfl (mono_s mo_row sO (sb.trans sc)) (mono_s mono_int sM (sb.trans sc)) pv).lo mo_pr L3) ?_
    rintro w H4 ⟨Hd, sd, L4, pw⟩
    refine ⟨l, _, _, rfl, rfl, L4.get List.mem_cons_self, szl (by omega), _, Hd, ws ++ [w], rfl, sc.trans sd, L4.wr0 _, by simp; omega, fun y hy => ?_⟩
    rcases List.mem_append.mp hy with hy | hy
    · exact mo_pr (hws y hy) sd
    · rw [List.mem_singleton.mp hy]; exact pw
  · rintro σ H3 ⟨x6, Hc, ws, rfl, sc, L3, hwl, hws⟩
    rw [htl] at hwl
    dsimp only
    refine q_forT ((vt_eMores rfl).lo (mono_tp mono_int) L3) ?_
    rintro _ H4 ⟨Hd, sd, L4, T2, ts2, rfl, hT2, htl2, hts2⟩
    refine ⟨T2, rfl, ⟨_, SqT.of (L4.same _ _ hT2)⟩, ?_⟩
    refine for_tup (xs := ts2) (fun i σ H3 => ∃ (x7 : Option V) (He : Hp) (ys : List V), σ = [some (.ref po), some (.ref pm), some (.int at'), some (.int whole), some (.ref pr), some (.ref l), x6, x7] ∧ Same Hd He ∧ Lo He H3 [(l, .lst ys)] ∧ ys.length ≤ 7 + i ∧ ∀ w ∈ ys, IsPr He w) ?_ ?_ ?_ ?_
    · exact ⟨_, Hd, ws, rfl, Same.refl _, L4, hwl, fun w hw => mo_pr (hws w hw) sd⟩
    · rintro i σ H3 _ ⟨x7, He, ys, rfl, se, L5, _, _⟩
      exact SqT.of (L5.same _ _ (se _ _ hT2))
    · rintro i v σ H5 hv ⟨x7, He, ys, rfl, se, L5, hyl, hys⟩
      have hi := lt_of_get hv
      have pv : IsInt He v := mono_int (hts2 v (List.mem_of_getElem? hv)) se
      have sall := sb.trans (sc.trans (sd.trans se))
      refine s_bm (va_var rfl) (.inl ⟨rfl, _, SqL.of (L5.get List.mem_cons_self)⟩) ((vt_eMark rfl rfl rfl rfl (mono_s mo_row sO sall) (sall _ _ hm) hml ha2 pv).lo mo_pr L5) ?_
      rintro w H6 ⟨Hf, sf, L6, pw⟩
      refine ⟨l, _, _, rfl, rfl, L6.get List.mem_cons_self, szl (by omega), _, Hf, ys ++ [w], rfl, se.trans sf, L6.wr0 _, by simp; omega, fun y hy => ?_⟩
      rcases List.mem_append.mp hy with hy | hy
      · exact mo_pr (hys y hy) sf
      · rw [List.mem_singleton.mp hy]; exact pw
    · rintro σ H5 ⟨x7, He, ys, rfl, se, L5, hyl, hys⟩
      rw [htl2] at hyl
      refine ⟨_, rfl, k _ _ (sb.trans (sc.trans (sd.trans (se.trans L5.sm)))) ⟨l, ys, rfl, L5.get List.mem_cons_self, hyl, fun w hw => mo_pr (hys w hw) L5.sm⟩⟩
end Cc

namespace Cc
open PySem L2
def eL1 (K : PySem.W.Frag) : TE := (tLst (tCons (tTup (tCons (tVar 6) (tCons (tVar 7) tNil))) (tCons (tTup (tCons (tVar 6) (tCons (tOp rRep (tLst (tCons (tC (.int 0)) tNil)) (tCB (qLen K) (tCons (tVar 7) tNil))) tNil))) (tCons (tTup (tCons (tVar 6) (tCons (L2.tSl (rSlL K) (tVar 7) tNoPart (tPart (tUn qNeg (tC (.int 1))))) tNil))) (tCons (tTup (tCons (tVar 6) (tCons (tOp rCat (tVar 7) (tLst (tCons (tC (.int 0)) tNil))) tNil))) tNil)))))
def eL2 (K : PySem.W.Frag) : TE := (tLst (tCons (tTup (tCons (L2.tSl (rSlL K) (tVar 6) tNoPart (tPart (tUn qNeg (tC (.int 1))))) (tCons (tVar 7) tNil))) (tCons (tTup (tCons (tOp rCat (tVar 6) (tLst (tCons (tLst tNil) tNil))) (tCons (tVar 7) tNil))) (tCons (tTup (tCons (tRevL K (tVar 6)) (tCons (tVar 7) tNil))) (tCons (tTup (tCons (tLst tNil) (tCons (tLst tNil) tNil))) (tCons (tTup (tCons (tLst tNil) (tCons (tVar 7) tNil))) tNil))))))
def eL3 (K : PySem.W.Frag) : TE := (tLst (tCons (tTup (tCons (tCall sp__law_called [] E0 (tCons (tVar 3) tNil)) (tCons (tVar 7) tNil))) (tCons (tTup (tCons (tLc (iList K (tCall sp__law_called [] E0 (tCons (tVar 3) tNil))) (gName 5) tYes (tRevL K (tVar 5)) [5]) (tCons (tVar 7) tNil))) tNil)))
def eAts (K : PySem.W.Frag) : TE := (tTup (tCons (tC (.int 0)) (tCons (tOp qMod (tOp qDiv (tVar 1) (tC (.int 3))) (tCB (qLen K) (tCons (tVar 6) tNil))) (tCons (tOp qSub (tCB (qLen K) (tCons (tVar 6) tNil)) (tC (.int 1))) (tCons (tIf (tTest (tOp (rNeD K) (tVar 3) (tLst tNil))) (tOp (rIxL K) (tVar 3) (tUn qNeg (tC (.int 1)))) (tC (.int 0))) tNil)))))
def eFew (K : PySem.W.Frag) (C_Fewest : Addr) : TE := (tMeth C_Fewest "shows" (sp_Fewest_shows C_Fewest) [] E0 (tMake C_Fewest (sp_Fewest___init__ C_Fewest) [] E0 (tCons (tVar 12) (tCons (tVar 7) tNil))) (tCons (tLst (tCons (tC (.int 0)) (tCons (tC (.int 0)) (tCons (tC (.int 1)) tNil)))) tNil))
def t_law_k02 (K : PySem.W.Frag) (C_Fewest : Addr) : TS :=
(tSeq (tAsg (tCB (rSum K) (tCons (L2.tSl (rSlL K) (tVar 0) tNoPart (tPart (tC (.int 63)))) tNil)) (gName 1))
    (tSeq (tFor (iRng1 (tCons (tC (.int 2)) tNil)) (gName 2)
    (tSeq (tAsg (tCall (sp__law_ups K) [] E0 (tCons (tVar 0) (tCons (tVar 2) (tCons (tIf (tTest (tOp rEq (tOp qMod (tVar 1) (tC (.int 8))) (tVar 2))) (tC (.int 40)) (tC (.int 10))) tNil)))) (gName 3))
      (tSeq (tAsg (tCall (sp_fewest C_Fewest) [] E0 (tCons (tVar 3) tNil)) (gName 4))
      (tSeq (tPar 6 7 (tCons (tLc (iList K (tFld K (tVar 4) "orders")) (gName 5) tYes (tCB (qList K) (tCons (tVar 5) tNil)) [5]) (tCons (tCB (qList K) (tCons (tFld K (tVar 4) "marks") tNil)) tNil)))
      (tSeq (tAsg (eL1 K) (gName 8))
      (tSeq (tAsg (tOp rCat (tVar 8) (eL2 K)) (gName 8))
      (tSeq (tAsg (tOp rCat (tVar 8) (eL3 K)) (gName 8))
      (tSeq (tFor (iTup K (eAts K)) (gName 9)
      (tAsg (tOp rCat (tVar 8) (tCall sp__law_lots [] E0 (tCons (tVar 6) (tCons (tVar 7) (tCons (tVar 9) (tCons (tVar 1) tNil)))))) (gName 8)))
      (tFor (iList K (tVar 8)) (gTup K 2 (gCons (gName 10) (gCons (gName 11) gNil)))
      (tIfS (tNot (tB (tCall sp__law_right_k02 [] E0 (tCons (tVar 3) (tCons (tVar 10) (tCons (tVar 11) tNil))))))
        (tRet (tC (.bl false)))
        tNext))))))))))
    (tSeq (tAsg (tLst (tCons (tLst (tCons (tC (.int 1)) (tCons (tC (.int 2)) tNil))) (tCons (tLst (tCons (tC (.int 3)) tNil)) (tCons (tLst tNil) (tCons (tLst tNil) tNil))))) (gName 12))
    (tSeq (tAsg (tLst (tCons (tTup (tCons (tLst (tCons (tC (.int 2)) (tCons (tC (.int 1)) (tCons (tC (.int 0)) (tCons (tC (.int 0)) tNil))))) (tCons (tC (.bl true)) tNil))) (tCons (tTup (tCons (tLst (tCons (tC (.int 2)) (tCons (tC (.int 0)) (tCons (tC (.int 0)) (tCons (tC (.int 0)) tNil))))) (tCons (tC (.bl true)) tNil))) (tCons (tTup (tCons (tLst (tCons (tC (.int 2)) (tCons (tC (.int 1)) (tCons (tC (.int 0)) (tCons (tC (.int 1)) tNil))))) (tCons (tC (.bl false)) tNil))) (tCons (tTup (tCons (tLst (tCons (tC (.int 2)) (tCons (tC (.int 2)) (tCons (tC (.int 0)) (tCons (tC (.int 0)) tNil))))) (tCons (tC (.bl false)) tNil))) tNil))))) (gName 13))
    (tSeq (tIfS (tTest (tOp (rNeD K) (tLc (iList K (tVar 13)) (gTup K 2 (gCons (gName 7) (gCons (gName 14) gNil))) tYes (eFew K C_Fewest) [7, 14]) (tLc (iList K (tVar 13)) (gTup K 2 (gCons (gName 7) (gCons (gName 14) gNil))) tYes (tVar 14) [7, 14])))
    (tRet (tC (.bl false)))
    tNext)
    (tRet (tAndV (tOp rIsB (tMeth C_Fewest "shows" (sp_Fewest_shows C_Fewest) [] E0 (tMake C_Fewest (sp_Fewest___init__ C_Fewest) [] E0 (tCons (tLst (tCons (tLst (tCons (tC (.int 2)) (tCons (tC (.int 1)) tNil))) (tCons (tLst (tCons (tC (.int 3)) tNil)) (tCons (tLst tNil) (tCons (tLst tNil) tNil))))) (tCons (tLst (tCons (tC (.int 3)) (tCons (tC (.int 1)) (tCons (tC (.int 0)) (tCons (tC (.int 0)) tNil))))) tNil))) (tCons (tLst (tCons (tC (.int 0)) (tCons (tC (.int 0)) (tCons (tC (.int 1)) tNil)))) tNil)) (tC (.bl false))) (tOp rIsB (tMeth C_Fewest "shows" (sp_Fewest_shows C_Fewest) [] E0 (tMake C_Fewest (sp_Fewest___init__ C_Fewest) [] E0 (tCons (tLst (tCons (tLst tNil) tNil)) (tCons (tLst (tCons (tC (.int 0)) tNil)) tNil))) (tCons (tLst tNil) tNil)) (tC (.bl true))))))))))
section
variable {K : PySem.W.Frag} {σ : L2.St} {H : Hp} {po pm : Addr} {marks : List Int}
theorem vt_emp {P : Srt} (mo : Mono P) : Vt (tLst tNil) σ H (IsS P 0) := vt_lst mo (by decide) at_nil
theorem vt_eL1 (e6 : σ[6]? = some (some (.ref po))) (e7 : σ[7]? = some (some (.ref pm))) (sO : IsS sRow 100 H (.ref po)) (hm : H pm = some (intsO marks)) (hml : marks.length ≤ 100) : Vt (eL1 K) σ H (IsS IsPr 4) := by
  have v6 : Vt (tVar 6) σ H sOrd := vt_ord (vt_var e6 sO) (by decide)
  have v7 : Vt (tVar 7) σ H (IsS IsInt 100) := vt_var e7 (is_ints hm hml)
  have h2 : Vt (tOp rRep (tLst (tCons (tC (.int 0)) tNil)) (tCB (qLen K) (tCons (tVar 7) tNil))) σ H sRow := fun H1 s Q q => by
    refine ⟨by show 1 ≤ sizeLine; decide, fun z hz => ⟨_, e7, pm, _, rfl, .inl (SqL.of (Same.new hz _ _ _ (s _ _ hm))), z, _, _, rfl, rfl, upd_same, by omega, by simp; omega, by simp; exact sz (by omega), fun c hc => ?_⟩⟩
    have L := ((Lo.nil H1).ju hz (.lst [.int 0])).al hc (.lst (List.replicate (((marks.map V.int).length : Nat) : Int).toNat [V.int 0]).flatten)
    refine q _ _ ⟨_, L, c, _, rfl, by unfold plus; rw [List.lookup_cons_self], by simp; omega, fun w hw => ?_⟩
    simp at hw
    exact ⟨0, hw.2⟩
  have h3 : Vt (L2.tSl (rSlL K) (tVar 7) tNoPart (tPart (tUn qNeg (tC (.int 1))))) σ H sRow := vt_row (vt_sl mono_int v7 vp_no (vp_some (vt_neg vt_int))) (by decide)
  have h4 : Vt (tOp rCat (tVar 7) (tLst (tCons (tC (.int 0)) tNil))) σ H sRow := vt_row (vt_cat mono_int (by decide) v7 (vt_one vt_int)) (by decide)
  have p : ∀ {te : TE}, Vt te σ H sRow → Vt (tTup (tCons (tVar 6) (tCons te tNil))) σ H IsPr := fun h => vt_p2 mo_ord mo_row v6 h
  exact vt_lst mo_pr (by decide) (at_cons mo_pr (p (vt_row v7 (by decide))) (at_cons mo_pr (p h2) (at_cons mo_pr (p h3) (at_cons mo_pr (p h4) at_nil))))
theorem vt_eL2 (e6 : σ[6]? = some (some (.ref po))) (e7 : σ[7]? = some (some (.ref pm))) (sO : IsS sRow 100 H (.ref po)) (hm : H pm = some (intsO marks)) (hml : marks.length ≤ 100) : Vt (eL2 K) σ H (IsS IsPr 5) := by
  have v6 : Vt (tVar 6) σ H (IsS sRow 100) := vt_var e6 sO
  have v7 : Vt (tVar 7) σ H sRow := vt_row (vt_var e7 (is_ints hm hml)) (by decide)
  have h1 : Vt (L2.tSl (rSlL K) (tVar 6) tNoPart (tPart (tUn qNeg (tC (.int 1))))) σ H sOrd := vt_ord (vt_sl mo_row v6 vp_no (vp_some (vt_neg vt_int))) (by decide)
  have h2 : Vt (tOp rCat (tVar 6) (tLst (tCons (tLst tNil) tNil))) σ H sOrd := vt_ord (vt_cat mo_row (by decide) v6 (vt_lst mo_row (by decide) (at_cons mo_row (vt_row (vt_emp mono_int) (by decide)) at_nil))) (by decide)
  have h3 : Vt (tRevL K (tVar 6)) σ H sOrd := vt_ord (vt_rev mo_row v6) (by decide)
  have h4 : Vt (tLst tNil) σ H sOrd := vt_ord (vt_emp mo_row) (by decide)
  have p : ∀ {te : TE}, Vt te σ H sOrd → Vt (tTup (tCons te (tCons (tVar 7) tNil))) σ H IsPr := fun h => vt_p2 mo_ord mo_row h v7
  have h5 : Vt (tTup (tCons (tLst tNil) (tCons (tLst tNil) tNil))) σ H IsPr := vt_p2 mo_ord mo_row h4 (vt_row (vt_emp mono_int) (by decide))
  exact vt_lst mo_pr (by decide) (at_cons mo_pr (p h1) (at_cons mo_pr (p h2) (at_cons mo_pr (p h3) (at_cons mo_pr h5 (at_cons mo_pr (p h4) at_nil)))))
theorem vt_eL3 {a : Addr} {us : List Int} (e3 : σ[3]? = some (some (.ref a))) (e7 : σ[7]? = some (some (.ref pm))) (ha : H a = some (intsO us)) (hul : us.length ≤ 99) (hm : H pm = some (intsO marks)) (hml : marks.length ≤ 100) (hσ : 5 < σ.length) : Vt (eL3 K) σ H (IsS IsPr 2) := by
  have v7 : Vt (tVar 7) σ H sRow := vt_row (vt_var e7 (is_ints hm hml)) (by decide)
  have h1 : Vt (tCall sp__law_called [] E0 (tCons (tVar 3) tNil)) σ H (IsS (IsS IsInt 100) 100) := vt_called e3 ha hul
  have h2 : Vt (tLc (iList K (tCall sp__law_called [] E0 (tCons (tVar 3) tNil))) (gName 5) tYes (tRevL K (tVar 5)) [5]) σ H (IsS (IsS IsInt 100) 100) := vt_map (mono_s mono_int) (mono_s mono_int) (by decide) h1 fun x Hx s p => vt_rev mono_int (vt_var (slot_wset hσ _) p)
  have u : ∀ {te : TE}, Vt te σ H (IsS (IsS IsInt 100) 100) → Vt te σ H sOrd := fun h => h.up fun H v p => p.up (by decide) fun w q => q.up (by decide) fun _ z => z
  have p : ∀ {te : TE}, Vt te σ H sOrd → Vt (tTup (tCons te (tCons (tVar 7) tNil))) σ H IsPr := fun h => vt_p2 mo_ord mo_row h v7
  exact vt_lst mo_pr (by decide) (at_cons mo_pr (p (u h1)) (at_cons mo_pr (p (u h2)) at_nil))
def IsAt (n : Nat) : Srt := fun _ v => ∃ i : Nat, v = .int i ∧ i < n
theorem mo_at {n : Nat} : Mono (IsAt n) := fun _ _ _ h _ => h
theorem vt_eAts {a : Addr} {us : List Int} {pso : List Addr} {rows : List (List Int)} {w : Int} (e1 : σ[1]? = some (some (.int w))) (e3 : σ[3]? = some (some (.ref a))) (e6 : σ[6]? = some (some (.ref po))) (ha : H a = some (intsO us)) (hu : UpsOk us) (R : Rows H po pso rows) (hl : rows.length = us.length + 1) : Vt (eAts K) σ H (IsTp (IsAt rows.length) 4) := by
  have hpl := R.len
  have h1 : Vt (tC (.int 0)) σ H (IsAt rows.length) := vt_c ⟨0, rfl, by omega⟩
  have h2 : Vt (tOp qMod (tOp qDiv (tVar 1) (tC (.int 3))) (tCB (qLen K) (tCons (tVar 6) tNil))) σ H (IsAt rows.length) := fun H1 s Q q => by
    refine ⟨_, e1, _, _, rfl, rfl, ⟨by decide, by decide⟩, _, e6, po, _, rfl, .inl (SqL.of (s _ _ R.top)), _, _, rfl, rfl, ?_, q _ _ ⟨[], Lo.nil _, ?_⟩⟩
    · simp [hpl]; omega
    · have h3 : (pso.map V.ref).length = rows.length := by rw [List.length_map]; exact hpl
      have h1 := Int.emod_nonneg (w / 3) (b := ((pso.map V.ref).length : Nat)) (by rw [h3]; omega)
      have h2 := Int.emod_lt_of_pos (w / 3) (b := ((pso.map V.ref).length : Nat)) (by rw [h3]; omega)
      exact ⟨(w / 3 % (((pso.map V.ref).length : Nat) : Int)).toNat, by rw [Int.toNat_of_nonneg h1], by rw [h3] at h1 h2 ⊢; omega⟩
  have h3 : Vt (tOp qSub (tCB (qLen K) (tCons (tVar 6) tNil)) (tC (.int 1))) σ H (IsAt rows.length) := fun H1 s Q q =>
    ⟨_, e6, po, _, rfl, .inl (SqL.of (s _ _ R.top)), _, _, rfl, rfl, q _ _ ⟨[], Lo.nil _, us.length, congrArg V.int (by rw [List.length_map, hpl, hl]; omega), by omega⟩⟩
  have h4 : Vt (tIf (tTest (tOp (rNeD K) (tVar 3) (tLst tNil))) (tOp (rIxL K) (tVar 3) (tUn qNeg (tC (.int 1)))) (tC (.int 0))) σ H (IsAt rows.length) := fun H1 s Q q => by
    refine ⟨_, e3, by show 0 ≤ sizeLine; decide, fun z hz => ?_⟩
    have ha2 := Same.new hz (.lst []) _ _ (s _ _ ha)
    have L := (Lo.nil H1).al hz (.lst [])
    refine ⟨_, _, dp_I ha2, .lst (SqL.of upd_same) .nil, shI us, shI [], _, rfl, ?_⟩
    rw [eqv_I_nil]
    by_cases e : us = []
    · rw [decide_eq_true e]
      exact iteF (q _ _ ⟨_, L, 0, rfl, by omega⟩)
    · rw [decide_eq_false e]
      have hpos : 0 < us.length := List.length_pos_iff.mpr e
      have g := get_some (xs := us) (i := us.length - 1) (by omega)
      obtain ⟨g0, g1⟩ := hu _ _ g
      refine iteT ⟨_, e3, 1, rfl, a, _, -1, .int (us[us.length - 1]'(by omega)), rfl, rfl, SqL.of ha2, atI_neg1 (by rw [List.length_map, List.getElem?_map, g]; rfl), q _ _ ⟨_, L, (us[us.length - 1]'(by omega)).toNat, by rw [Int.toNat_of_nonneg g0], by omega⟩⟩
  exact vt_tup mo_at (by decide) (at_cons mo_at h1 (at_cons mo_at h2 (at_cons mo_at h3 (at_cons mo_at h4 at_nil))))
end
end Cc

namespace Cc
open PySem L2
theorem FewR.of0' {H0 H : Hp} {C x dx p : Addr} {ps : List Addr} {rows : List (List Int)} {q : Addr} {marks : List Int} (L : Lo H0 H (fewC C x dx p ps rows q marks)) (hl : ps.length = rows.length) : FewR H C x dx p ps rows q marks :=
  FewR.of (B := []) (by rw [List.append_nil]; exact L) hl
/-- Fewest(few, marks).shows(ups), ups laid here -/
theorem vr_fewS {K : PySem.W.Frag} {C : Addr} (T : KFewest K C) {σ : L2.St} {H : Hp} {ta : TA} {tl : TE} {rows : List (List Int)} {marks us : List Int} (hrl : rows.length ≤ 900) (hml : marks.length ≤ 900) (hul : us.length ≤ 900) (hu : UpsOk us)
    (ht : ∀ QA : List V → Hp → Prop, (∀ po pso pm H1, Same H H1 → Rows H1 po pso rows → H1 pm = some (intsO marks) → QA [.ref po, .ref pm] H1) → ta σ H QA)
    (hl : ∀ H1, Vr tl σ H1 (fun v H2 => ∃ l, v = .ref l ∧ Same H1 H2 ∧ H2 l = some (intsO us))) :
    Vr (tMeth C "shows" (sp_Fewest_shows C) [] E0 (tMake C (sp_Fewest___init__ C) [] E0 ta) (tCons tl tNil)) σ H (fun v H' => v = .bl (showsM us rows marks) ∧ Same H H') := fun Q q => by
  refine vr_few (rows := rows) (marks := marks) (by omega) ht _ ?_
  rintro _ H1 ⟨x, dx, p, ps, m, rfl, L, hps⟩
  have F := FewR.of0' L hps
  refine ⟨x, dx, _, rfl, F.x, fewF_no _ _ (by decide +kernel) (by decide +kernel), hl H1 _ ?_⟩
  rintro _ H2 ⟨l, rfl, s2, hl2⟩
  have F2 := F.same s2
  exact ⟨x, dx, p, ps, rows, m, marks, l, us, rfl, F2.x, F2.R, F2.q, hl2, hul, hu, hrl, hml, fun H3 s3 => q _ _ ⟨rfl, L.sm.trans (s2.trans s3)⟩⟩
theorem rows4 {H : Hp} {p a b c d : Addr} {x y z w : List Int} (hp : H p = some (.lst [.ref a, .ref b, .ref c, .ref d])) (ha : H a = some (intsO x)) (hb : H b = some (intsO y)) (hc : H c = some (intsO z)) (hd : H d = some (intsO w)) : Rows H p [a, b, c, d] [x, y, z, w] :=
  ⟨hp, rfl, fun {i q r} h1 h2 => by
    have hi := lt_of_get h1
    have : i = 0 ∨ i = 1 ∨ i = 2 ∨ i = 3 := by simp at hi; omega
    rcases this with rfl | rfl | rfl | rfl <;> cases h1 <;> cases h2 <;> assumption⟩
theorem upsOk_001 : UpsOk [0, 0, 1] := fun i u h => by
  have hi := lt_of_get h
  have : i = 0 ∨ i = 1 ∨ i = 2 := by simp at hi; omega
  rcases this with rfl | rfl | rfl <;> cases h <;> decide
theorem upsOk_nil : UpsOk [] := fun i u h => by simp at h
theorem vr_001 {σ : L2.St} {H1 : Hp} : Vr (tLst (tCons (tC (.int 0)) (tCons (tC (.int 0)) (tCons (tC (.int 1)) tNil)))) σ H1 (fun v H2 => ∃ l, v = .ref l ∧ Same H1 H2 ∧ H2 l = some (intsO [0, 0, 1])) := fun Q q => ⟨by show 3 ≤ sizeLine; decide, fun l hl => q _ _ ⟨l, rfl, Same.new hl _, upd_same⟩⟩
/-- the pairs by hand -/
def pairsK02 : List (List Int × Bool) := [([2, 1, 0, 0], true), ([2, 0, 0, 0], true), ([2, 1, 0, 1], false), ([2, 2, 0, 0], false)]
def fewK02 : List (List Int) := [[1, 2], [3], [], []]
theorem handK02 : pairsK02.map (fun p => showsM [0, 0, 1] fewK02 p.1) = pairsK02.map (·.2) := by decide +kernel
structure PrsK (H : Hp) (vs : List V) (ps : List (List Int × Bool)) : Prop where
  len : vs.length = ps.length
  row : ∀ {i : Nat} {v : V} {p : List Int × Bool}, vs[i]? = some v → ps[i]? = some p → ∃ t m, v = .ref t ∧ H t = some (.tup [.ref m, .bl p.2]) ∧ H m = some (intsO p.1)
end Cc

namespace Cc
open PySem L2
theorem v_law_k02 {K : PySem.W.Frag} {C : Addr} (T : KFewest K C) {vs : List V} {H : Hp} {Q : VK} {E : XK} (h : sp_law K vs H Q E) : t_law_k02 K C (fin Q) (st0 15 vs) H := by
  obtain ⟨a, ns, rfl, ha, hns, k⟩ := h
  refine q_setR (R := fun v H1 => ∃ w, v = .int w ∧ Same H H1) (fun Q' q' => ⟨_, rfl, 63, rfl, a, _, rfl, ha, fun c hc => ⟨c, ns.take 63, rfl, ?_, q' _ _ ⟨_, rfl, Same.new hc _⟩⟩⟩) ?_
  · have e : cutV (ns.map V.int) none (some 63) = (ns.take 63).map V.int := by rw [show (63 : Int) = ((63 : Nat) : Int) from rfl, cut_to, List.map_take]
    rw [e]
    exact SqL.of upd_same
  rintro _ H1 ⟨w, rfl, s1⟩
  refine ⟨2, rfl, by decide, by decide, ?_⟩
  refine for_range (fun i σ H2 => ∃ (x2 x3 x4 x6 x7 x8 x9 x10 x11 : Option V), σ = [some (.ref a), some (.int w), x2, x3, x4, none, x6, x7, x8, x9, x10, x11, none, none, none] ∧ Same H H2) ?_ ?_ ?_
  · exact ⟨_, _, _, _, _, _, _, _, _, rfl, s1⟩
  · rintro b σ H2 hb ⟨x2, x3, x4, x6, x7, x8, x9, x10, x11, rfl, s2⟩
    have hb : b < 2 := hb
    refine q_setR (R := fun v H3 => ∃ p us, v = .ref p ∧ Lo H2 H3 [(p, intsO us)] ∧ UpsOk us ∧ us.length < 40) (fun Q' q' => ⟨_, rfl, _, rfl, _, rfl, _, _, rfl, rfl, (by decide : (0 : Int) < 8), _, rfl, rfl, _, rfl, ?_⟩) ?_
    · have g : ∀ most : Int, 0 < most → most ≤ 40 → sp__law_ups K [.ref a, .int (0 + (b : Int)), .int most] H2 Q' E0 := fun most h0 h1 => ⟨a, ns, _, most, rfl, s2.seq ha, by omega, by omega, h0, by omega, fun p H3 L => q' _ _ ⟨p, _, rfl, L, upsM_ok _ _ _, by have := upsM_len ns (0 + (b : Int)) h0; omega⟩⟩
      refine ite2 (fun _ => ?_) (fun _ => ?_)
      · exact g 40 (by decide) (by decide)
      · exact g 10 (by decide) (by decide)
    rintro _ H3 ⟨pu, us, rfl, L3, hu, hul⟩
    have hpu := L3.get List.mem_cons_self
    refine q_setR (R := fun v H4 => ∃ x dx p ps q, v = .ref x ∧ Lo H3 H4 (fewC C x dx p ps (bestM us).1 q (bestM us).2) ∧ ps.length = us.length + 1) (fun Q' q' => ⟨_, rfl, pu, us, rfl, hpu, hul, hu, fun x dx p ps q H3 L3 hps => q' _ _ ⟨x, dx, p, ps, q, rfl, L3, hps⟩⟩) ?_
    rintro _ H4 ⟨x, dx, p, ps, q, rfl, L4, hps⟩
    obtain ⟨b1, b2⟩ := bestM_len us
    have rr : ∀ r ∈ (bestM us).1, r.length ≤ us.length := (bestGo_rows us (us.length + 1)).2
    have F4 := FewR.of0' L4 (by omega)
    generalize (bestM us).1 = rows at L4 F4 b1 rr
    generalize (bestM us).2 = marks at L4 F4 b2
    refine q_par (R := fun v H5 => ∃ p2 ps2, v = .ref p2 ∧ Lo H4 H5 (llC p2 ps2 rows) ∧ ps2.length = rows.length) (R2 := fun v u H6 => ∃ p2 ps2 m2, v = .ref p2 ∧ u = .ref m2 ∧ Rows H6 p2 ps2 rows ∧ H6 m2 = some (intsO marks) ∧ Same H4 H6) (vr_copy (va_fld rfl F4.x T.cl T.nO (fewF_orders _ _)) F4.R (by omega) (by show 5 < 15; decide)) ?_ ?_
    · rintro _ H5 ⟨p2, ps2, rfl, L5, hl5⟩ Q' q'
      refine vr_list (va_fld rfl (L5.same _ _ F4.x) T.cl T.nM (fewF_marks _ _)) (SqL.of (L5.same _ _ F4.q)) _ ?_
      rintro _ H6 ⟨m2, rfl, hm2, rfl⟩
      exact q' _ _ ⟨p2, ps2, m2, rfl, rfl, (Rows.of_mem L5.get hl5).same (Same.new hm2 _), upd_same, L5.sm.trans (Same.new hm2 _)⟩
    rintro _ _ H6 ⟨po, pso, pm, rfl, rfl, R6, hm6, s6⟩
    have hpu6 := s6 _ _ (L4.same _ _ hpu)
    have sH6 : Same H H6 := s2.trans (L3.sm.trans (L4.sm.trans s6))
    have sO : IsS sRow 100 H6 (.ref po) := is_rows R6 (by omega) fun r hr => by have := rr r hr; omega
    -- lots
    refine q_setR ((vt_eL1 rfl rfl sO hm6 (by omega)).r (mono_s mo_pr) (Same.refl _)) ?_
    rintro l1 H7 ⟨s7, pl1⟩
    refine q_setR ((vt_cat mo_pr (by decide) (vt_var rfl pl1) (vt_eL2 rfl rfl (mono_s mo_row sO s7) (s7 _ _ hm6) (by omega))).r (mono_s mo_pr) (Same.refl _)) ?_
    rintro l2 H8 ⟨s8, pl2⟩
    have s68 := s7.trans s8
    refine q_setR ((vt_cat mo_pr (by decide) (vt_var rfl pl2) (vt_eL3 rfl rfl (s68 _ _ hpu6) (by omega) (s68 _ _ hm6) (by omega) (by show 5 < 15; decide))).r (mono_s mo_pr) (Same.refl _)) ?_
    rintro l3 H9 ⟨s9, pl3⟩
    have s69 := s68.trans s9
    refine q_forT ((vt_eAts rfl rfl rfl (s69 _ _ hpu6) hu (R6.same s69) (by omega)).r (mono_tp mo_at) (Same.refl _)) ?_
    rintro _ H10 ⟨s10, Tt, ts, rfl, hT, htl, hts⟩
    refine ⟨Tt, rfl, ⟨_, SqT.of hT⟩, ?_⟩
    refine for_tup (xs := ts) (fun i σ H11 => ∃ (x9 : Option V) (l : V), σ = [some (.ref a), some (.int w), some (.int (0 + (b : Int))), some (.ref pu), some (.ref x), none, some (.ref po), some (.ref pm), some l, x9, x10, x11, none, none, none] ∧ Same H10 H11 ∧ IsS IsPr (11 + 12 * i) H11 l) ?_ ?_ ?_ ?_
    · exact ⟨_, l3, rfl, Same.refl _, mono_s mo_pr pl3 s10⟩
    · rintro i σ H11 _ ⟨x9, l, rfl, s11, _⟩
      exact SqT.of (s11 _ _ hT)
    · rintro i v σ H11 hv ⟨x9, l, rfl, s11, pl⟩
      have hi := lt_of_get hv
      rw [htl] at hi
      obtain ⟨at', rfl, hat⟩ := hts v (List.mem_of_getElem? hv)
      have s611 := s69.trans (s10.trans s11)
      refine s_setR (R := fun v H12 => Same H11 H12 ∧ IsS IsPr (11 + 12 * (i + 1)) H12 v) (fun Q' q' => ⟨_, rfl, _, rfl, _, rfl, _, rfl, _, rfl, po, pso, rows, pm, marks, at', w, rfl, R6.same s611, s611 _ _ hm6, by omega, by omega, fun r hr => by have := rr r hr; omega, hat, by omega, fun lv H12 s12 plv => ?_⟩) ?_
      · obtain ⟨c1, ws1, rfl, g1, n1, p1⟩ := mono_s mo_pr pl s12
        obtain ⟨c2, ws2, rfl, g2, n2, p2⟩ := plv
        refine ⟨c1, c2, ws1, ws2, rfl, rfl, g1, g2, sz (by omega), fun c hc => q' _ _ ⟨s12.trans (Same.new hc _), c, _, rfl, upd_same, by simp; omega, fun y hy => ?_⟩⟩
        rcases List.mem_append.mp hy with hy | hy
        · exact mo_pr (p1 y hy) (Same.new hc _)
        · exact mo_pr (p2 y hy) (Same.new hc _)
      · rintro lv H12 ⟨s12, plv⟩
        exact ⟨_, lv, rfl, s11.trans s12, plv⟩
    · rintro σ H11 ⟨x9, l, rfl, s11, pl⟩
      dsimp only
      obtain ⟨c, ws, rfl, g, nl, pw⟩ := pl
      have s611 := s69.trans (s10.trans s11)
      refine s_forL (va_var rfl).r ?_
      rintro v0 H0 ⟨e1, e2⟩
      rw [e1, e2]
      clear e1 e2 v0 H0
      refine ⟨c, rfl, ⟨_, SqL.of g⟩, ?_⟩
      refine for_list (xs := ws) (fun i σ H12 => ∃ (x10 x11 : Option V), σ = [some (.ref a), some (.int w), some (.int (0 + (b : Int))), some (.ref pu), some (.ref x), none, some (.ref po), some (.ref pm), some (.ref c), x9, x10, x11, none, none, none] ∧ Same H11 H12) ?_ ?_ ?_ ?_
      · exact ⟨_, _, rfl, Same.refl _⟩
      · rintro i σ H12 _ ⟨y10, y11, rfl, s12⟩
        exact SqL.of (s12 _ _ g)
      · rintro i v σ H12 hv ⟨y10, y11, rfl, s12⟩
        obtain ⟨t, v1, v2, rfl, ht, q1, q2⟩ := mo_pr (pw v (List.mem_of_getElem? hv)) s12
        obtain ⟨o1, os1, orows, rfl, OR, on, om⟩ := isS_rows q1
        obtain ⟨m1, mr, rfl, om1, oml⟩ := isS_int q2
        refine ⟨t, _, rfl, SqT.of ht, rfl, _, _, rfl, _, _, rfl, rfl, ?_⟩
        refine s_no (fun Q' q' => ⟨_, rfl, _, rfl, _, rfl, pu, us, o1, os1, orows, m1, mr, rfl, s12 _ _ (s611 _ _ hpu6), by omega, hu, OR, om1, by omega, by omega, fun r hr => by have := om r hr; omega, fun H13 s13 => ⟨_, rfl, q' _ s13⟩⟩) ?_
        intro H13 s13
        exact ⟨_, _, rfl, s12.trans s13⟩
      · rintro σ H12 ⟨y10, y11, rfl, s12⟩
        exact ⟨_, _, _, _, _, _, _, _, _, rfl, sH6.trans (s611.trans s12)⟩
  · rintro σ H2 ⟨x2, x3, x4, x6, x7, x8, x9, x10, x11, rfl, s2⟩
    dsimp only
    -- few
    refine q_setR (R := fun v H3 => ∃ p ps, v = .ref p ∧ Rows H3 p ps fewK02) (fun Q' q' => ⟨by show 2 ≤ sizeLine; decide, fun l1 h1 => ⟨by show 1 ≤ sizeLine; decide, fun l2 h2 => ⟨by show 0 ≤ sizeLine; decide, fun l3 h3 => ⟨by show 0 ≤ sizeLine; decide, fun l4 h4 => ⟨by show 4 ≤ sizeLine; decide, fun l h => ?_⟩⟩⟩⟩⟩) ?_
    · refine q' _ _ ⟨l, [l1, l2, l3, l4], rfl, rows4 upd_same ?_ ?_ ?_ ?_⟩
      · exact Same.new h _ _ _ (Same.new h4 _ _ _ (Same.new h3 _ _ _ (Same.new h2 _ _ _ upd_same)))
      · exact Same.new h _ _ _ (Same.new h4 _ _ _ (Same.new h3 _ _ _ upd_same))
      · exact Same.new h _ _ _ (Same.new h4 _ _ _ upd_same)
      · exact Same.new h _ _ _ upd_same
    rintro _ H3 ⟨pf, psf, rfl, Rf⟩
    refine q_setR (R := fun v H4 => ∃ l ws, v = .ref l ∧ Same H3 H4 ∧ H4 l = some (.lst ws) ∧ PrsK H4 ws pairsK02) (fun Q' q' => ?_) ?_
    · refine ⟨by show 4 ≤ sizeLine; decide, fun a1 h1 => ⟨by show 2 ≤ sizeLine; decide, fun t1 g1 => ⟨by show 4 ≤ sizeLine; decide, fun a2 h2 => ⟨by show 2 ≤ sizeLine; decide, fun t2 g2 => ⟨by show 4 ≤ sizeLine; decide, fun a3 h3 => ⟨by show 2 ≤ sizeLine; decide, fun t3 g3 => ⟨by show 4 ≤ sizeLine; decide, fun a4 h4 => ⟨by show 2 ≤ sizeLine; decide, fun t4 g4 => ⟨by show 4 ≤ sizeLine; decide, fun l hl => ?_⟩⟩⟩⟩⟩⟩⟩⟩⟩
      have M := ((((((((Lo.nil H3).al h1 (intsO [2, 1, 0, 0])).al g1 (.tup [.ref a1, .bl true])).al h2 (intsO [2, 0, 0, 0])).al g2 (.tup [.ref a2, .bl true])).al h3 (intsO [2, 1, 0, 1])).al g3 (.tup [.ref a3, .bl false])).al h4 (intsO [2, 2, 0, 0])).al g4 (.tup [.ref a4, .bl false])
      have M2 := M.al hl (.lst [.ref t1, .ref t2, .ref t3, .ref t4])
      refine q' _ _ ⟨l, _, rfl, M2.sm, M2.get List.mem_cons_self, rfl, fun {i v p} e1 e2 => ?_⟩
      have hi := lt_of_get e1
      have : i = 0 ∨ i = 1 ∨ i = 2 ∨ i = 3 := by simp at hi; omega
      rcases this with rfl | rfl | rfl | rfl <;> cases e1 <;> cases e2
      · exact ⟨t1, a1, rfl, M2.get (by simp), M2.get (by simp)⟩
      · exact ⟨t2, a2, rfl, M2.get (by simp), M2.get (by simp)⟩
      · exact ⟨t3, a3, rfl, M2.get (by simp), M2.get (by simp)⟩
      · exact ⟨t4, a4, rfl, M2.get (by simp), M2.get (by simp)⟩
    rintro _ H4 ⟨l, ws, rfl, s4, hl, hP⟩
    have Rf4 := Rf.same s4
    have hwl : ws.length = 4 := hP.len
    refine q_no (fun Q' q' => ?_) ?_
    · refine ⟨_, rfl, l, rfl, ⟨_, SqL.of hl⟩, fun D hD => ?_⟩
      refine lcV ((pairsK02.map fun p => showsM [0, 0, 1] fewK02 p.1).map V.bl) (by rw [hwl]; rfl) (wk_list (SqL.of hl)) (by omega) hD ?_ ?_ (gT2_mono _ _ _)
      · rintro i x C' y H5 s5 ⟨hx, rfl⟩ _ hy Q'' kq
        have hi := lt_of_get hx
        have ep := get_some (xs := pairsK02) (i := i) (by rw [← hP.len]; exact hi)
        generalize pairsK02[i]'(by rw [← hP.len]; exact hi) = p at ep
        obtain ⟨t, m, rfl, ht, hm⟩ := hP.row hx ep
        rw [List.getElem?_map, List.getElem?_map, ep] at hy
        have hy : V.bl (showsM [0, 0, 1] fewK02 p.1) = y := Option.some.inj hy
        subst hy
        have hp1 : p.1.length ≤ 900 := by
          have : ∀ p ∈ pairsK02, p.1.length ≤ 900 := by decide
          exact this p (List.mem_of_getElem? ep)
        refine ⟨t, _, rfl, SqT.of (s5 _ _ ht), rfl, _, _, rfl, _, _, rfl, rfl, rfl, ?_⟩
        refine vr_fewS T (rows := fewK02) (marks := p.1) (us := [0, 0, 1]) (by decide) hp1 (by decide) upsOk_001 (fun QA qA => ⟨_, rfl, _, rfl, qA pf psf m _ (Same.refl _) (Rf4.same s5) (s5 _ _ hm)⟩) (fun H6 => vr_001) _ ?_
        rintro _ H6 ⟨rfl, s6⟩
        exact kq _ s6
      · intro H5 L5
        refine ⟨_, rfl, l, rfl, ⟨_, SqL.of (L5.same _ _ hl)⟩, fun D2 hD2 => ?_⟩
        refine lcV ((pairsK02.map (·.2)).map V.bl) (by rw [hwl]; rfl) (wk_list (SqL.of (L5.same _ _ hl))) (by omega) hD2 ?_ ?_ (gT2_mono _ _ _)
        · rintro i x C' y H6 s6 ⟨hx, rfl⟩ _ hy Q'' kq
          have hi := lt_of_get hx
          have ep := get_some (xs := pairsK02) (i := i) (by rw [← hP.len]; exact hi)
          generalize pairsK02[i]'(by rw [← hP.len]; exact hi) = p at ep
          obtain ⟨t, m, rfl, ht, hm⟩ := hP.row hx ep
          rw [List.getElem?_map, List.getElem?_map, ep] at hy
          have hy : V.bl p.2 = y := Option.some.inj hy
          subst hy
          exact ⟨t, _, rfl, SqT.of (s6 _ _ (L5.same _ _ ht)), rfl, _, _, rfl, _, _, rfl, rfl, rfl, _, rfl, kq _ (Same.refl _)⟩
        · intro H6 L6
          refine ⟨_, _, .lst (SqL.of (L6.same _ _ (L5.get List.mem_cons_self))) (dp_bls _), .lst (SqL.of (L6.get List.mem_cons_self)) (dp_bls _), shB _, shB _, _, rfl, ?_⟩
          rw [eqv_B, handK02, decide_eq_true rfl]
          exact q' _ (L5.sm.trans L6.sm)
    intro H5 s5
    -- the last ones
    refine vr_fewS T (rows := [[2, 1], [3], [], []]) (marks := [3, 1, 0, 0]) (us := [0, 0, 1]) (by decide) (by decide) (by decide) upsOk_001 (fun QA qA => ⟨by show 2 ≤ sizeLine; decide, fun l1 h1 => ⟨by show 1 ≤ sizeLine; decide, fun l2 h2 => ⟨by show 0 ≤ sizeLine; decide, fun l3 h3 => ⟨by show 0 ≤ sizeLine; decide, fun l4 h4 => ⟨by show 4 ≤ sizeLine; decide, fun l h => ⟨by show 4 ≤ sizeLine; decide, fun m hm => ?_⟩⟩⟩⟩⟩⟩) (fun H6 => vr_001) _ ?_
    rotate_left
    · have s1' := Same.new h1 (.lst [.int 2, .int 1])
      refine qA l [l1, l2, l3, l4] m _ (s1'.trans ((Same.new h2 _).trans ((Same.new h3 _).trans ((Same.new h4 _).trans ((Same.new h _).trans (Same.new hm _)))))) ((rows4 upd_same ?_ ?_ ?_ ?_).same (Same.new hm _)) upd_same
      · exact Same.new h _ _ _ (Same.new h4 _ _ _ (Same.new h3 _ _ _ (Same.new h2 _ _ _ upd_same)))
      · exact Same.new h _ _ _ (Same.new h4 _ _ _ (Same.new h3 _ _ _ upd_same))
      · exact Same.new h _ _ _ (Same.new h4 _ _ _ upd_same)
      · exact Same.new h _ _ _ upd_same
    rintro _ H6 ⟨rfl, s6⟩
    refine ⟨_, _, rfl, rfl, _, rfl, ?_⟩
    rw [show decide (showsM [0, 0, 1] [[2, 1], [3], [], []] [3, 1, 0, 0] = false) = true by decide +kernel]
    refine iteT ?_
    refine vr_fewS T (rows := [[]]) (marks := [0]) (us := []) (by decide) (by decide) (by decide) upsOk_nil (fun QA qA => ⟨by show 0 ≤ sizeLine; decide, fun l1 h1 => ⟨by show 1 ≤ sizeLine; decide, fun l h => ⟨by show 1 ≤ sizeLine; decide, fun m hm => ?_⟩⟩⟩) (fun H7 Q' q' => ⟨by show 0 ≤ sizeLine; decide, fun l hl => q' _ _ ⟨l, rfl, Same.new hl _, upd_same⟩⟩) _ ?_
    rotate_left
    · refine qA l [l1] m _ ((Same.new h1 _).trans ((Same.new h _).trans (Same.new hm _))) ⟨Same.new hm _ _ _ upd_same, rfl, fun {i q r} e1 e2 => ?_⟩ upd_same
      have hi := lt_of_get e1
      have : i = 0 := by simp at hi; omega
      subst this
      cases e1
      cases e2
      exact Same.new hm _ _ _ (Same.new h _ _ _ upd_same)
    rintro _ H7 ⟨rfl, s7⟩
    refine ⟨_, _, rfl, rfl, ?_⟩
    rw [show decide (showsM [] [[]] [0] = true) = true by decide +kernel]
    exact k _
end Cc
namespace Cc
open PySem L2
def topS (i : Nat) : Stmt := PySem.Challenge.pw_callchain_k02_fewest_by_hand.main.body.getD i (.Pass ⟨0, 0, 0, 0⟩)
abbrev s__law_number : Stmt := topS 19
abbrev s__law_ups : Stmt := topS 21
abbrev s_is_whole : Stmt := topS 13
abbrev s_is_between : Stmt := topS 14
abbrev s_check_ups : Stmt := topS 15
abbrev s_called_by : Stmt := topS 1
abbrev s_best_orders : Stmt := topS 2
abbrev s_Fewest___init__ : Stmt := inClass (topS 7) 0
abbrev s_fewest : Stmt := topS 17
abbrev s__law_called : Stmt := topS 22
abbrev s__law_lots : Stmt := topS 27
abbrev s__law_are_marks : Stmt := topS 24
abbrev s__law_last : Stmt := topS 23
abbrev s__law_is_fewest : Stmt := topS 25
abbrev s__law_says : Stmt := topS 20
abbrev s_is_mark : Stmt := topS 4
abbrev s_last_known : Stmt := topS 3
abbrev s_Fewest_shows : Stmt := inClass (topS 7) 1
abbrev s__law_right : Stmt := topS 26
abbrev s_law : Stmt := topS 28
theorem sc__law_number : FnScope ["_law_cell", "_law_at", "_law_whole", "_law_mixed", "_law_more"] ["_law_cell", "_law_at", "_law_whole"] (defScope s__law_number) := ⟨rfl, rfl, rfl, by decide +kernel, rfl, by decide +kernel, by decide +kernel⟩
theorem sc__law_ups : FnScope ["_law_script", "_law_by", "_law_most", "_law_cells", "_law_whole", "_law_found", "_law_many", "_law_kind", "_law_at", "_law_number_here"] ["_law_script", "_law_by", "_law_most"] (defScope s__law_ups) := ⟨rfl, rfl, rfl, by decide +kernel, rfl, by decide +kernel, by decide +kernel⟩
theorem sc_is_whole : FnScope ["thing"] ["thing"] (defScope s_is_whole) := ⟨rfl, rfl, rfl, by decide +kernel, rfl, by decide +kernel, by decide +kernel⟩
theorem sc_is_between : FnScope ["thing", "least", "most"] ["thing", "least", "most"] (defScope s_is_between) := ⟨rfl, rfl, rfl, by decide +kernel, rfl, by decide +kernel, by decide +kernel⟩
theorem sc_check_ups : FnScope ["ups", "at", "up"] ["ups"] (defScope s_check_ups) := ⟨rfl, rfl, rfl, by decide +kernel, rfl, by decide +kernel, by decide +kernel⟩
theorem sc_called_by : FnScope ["ups", "person", "found", "at", "up"] ["ups"] (defScope s_called_by) := ⟨rfl, rfl, rfl, by decide +kernel, rfl, by decide +kernel, by decide +kernel⟩
theorem sc_best_orders : FnScope ["ups", "rows", "needs", "back", "person", "one", "turn", "need", "at"] ["ups"] (defScope s_best_orders) := ⟨rfl, rfl, rfl, by decide +kernel, rfl, by decide +kernel, by decide +kernel⟩
theorem sc_Fewest___init__ : FnScope ["self", "orders", "marks", "row"] ["self", "orders", "marks"] (defScope s_Fewest___init__) := ⟨rfl, rfl, rfl, by decide +kernel, rfl, by decide +kernel, by decide +kernel⟩
theorem sc_fewest : FnScope ["ups", "orders", "needs"] ["ups"] (defScope s_fewest) := ⟨rfl, rfl, rfl, by decide +kernel, rfl, by decide +kernel, by decide +kernel⟩
theorem sc__law_called : FnScope ["_law_ups_here", "_law_person", "_law_at", "_law_up"] ["_law_ups_here"] (defScope s__law_called) := ⟨rfl, rfl, rfl, by decide +kernel, rfl, by decide +kernel, by decide +kernel⟩
theorem sc__law_lots : FnScope ["_law_orders", "_law_marks", "_law_at", "_law_whole", "_law_row", "_law_lots_here", "_law_some", "_law_more"] ["_law_orders", "_law_marks", "_law_at", "_law_whole"] (defScope s__law_lots) := ⟨rfl, rfl, rfl, by decide +kernel, rfl, by decide +kernel, by decide +kernel⟩
theorem sc__law_are_marks : FnScope ["_law_orders", "_law_marks", "_law_person", "_law_row", "_law_one", "_law_tops", "_law_at", "_law_top", "_law_least"] ["_law_orders", "_law_marks"] (defScope s__law_are_marks) := ⟨rfl, rfl, rfl, by decide +kernel, rfl, by decide +kernel, by decide +kernel⟩
theorem sc__law_last : FnScope ["_law_orders", "_law_row", "_law_knows", "_law_rows", "_law_rounds", "_law_person", "_law_told"] ["_law_orders"] (defScope s__law_last) := ⟨rfl, rfl, rfl, by decide +kernel, rfl, by decide +kernel, by decide +kernel⟩
theorem sc__law_is_fewest : FnScope ["_law_ups_here", "_law_orders", "_law_marks", "_law_row"] ["_law_ups_here", "_law_orders", "_law_marks"] (defScope s__law_is_fewest) := ⟨rfl, rfl, rfl, by decide +kernel, rfl, by decide +kernel, by decide +kernel⟩
theorem sc__law_says : FnScope ["_law_said", "_law_due"] ["_law_said", "_law_due"] (defScope s__law_says) := ⟨rfl, rfl, rfl, by decide +kernel, rfl, by decide +kernel, by decide +kernel⟩
theorem sc_is_mark : FnScope ["orders", "marks", "person", "mark", "many", "one"] ["orders", "marks", "person"] (defScope s_is_mark) := ⟨rfl, rfl, rfl, by decide +kernel, rfl, by decide +kernel, by decide +kernel⟩
theorem sc_last_known : FnScope ["orders", "ends", "line", "spot", "at", "one"] ["orders"] (defScope s_last_known) := ⟨rfl, rfl, rfl, by decide +kernel, rfl, by decide +kernel, by decide +kernel⟩
theorem sc_Fewest_shows : FnScope ["self", "ups", "row", "person"] ["self", "ups"] (defScope s_Fewest_shows) := ⟨rfl, rfl, rfl, by decide +kernel, rfl, by decide +kernel, by decide +kernel⟩
theorem sc__law_right : FnScope ["_law_ups_here", "_law_orders", "_law_marks", "_law_row", "_law_handed", "_law_built", "_law_again", "_law_due"] ["_law_ups_here", "_law_orders", "_law_marks"] (defScope s__law_right) := ⟨rfl, rfl, rfl, by decide +kernel, rfl, by decide +kernel, by decide +kernel⟩
theorem sc_law : FnScope ["_law_script", "_law_whole", "_law_by", "_law_ups_here", "_law_found", "_law_row", "_law_orders", "_law_marks", "_law_lots_here", "_law_at", "_law_some", "_law_others", "_law_few", "_law_rows", "_law_due"] ["_law_script"] (defScope s_law) := ⟨rfl, rfl, rfl, by decide +kernel, rfl, by decide +kernel, by decide +kernel⟩
section
variable {P : Program} {w : World} {K : PySem.W.Frag} {mg : Str → Option Value} {base : Heap}
theorem ok__law_number {f : Addr} {fd : FuncData} (F : Fun K "_law_number" "_law_number" s__law_number f fd) (T : Blt mg) : FnOk P w K mg base CX0 1 f fd ["_law_cell", "_law_at", "_law_whole"] sp__law_number := by
  refine F.ok sc__law_number (fun vs H Q E h => ?_) (fun cdv A outer s H vs Q E hr h => ?_)
  · (repeat (obtain ⟨_, h⟩ := h)); subst_vars; rfl
  · refine ⟨t__law_number K,
    (pss_cons (ps_if (PW.pt (pw_or (pt_cmpR op_ge (pv 0) (pe_op op_pow pe_int pe_int) (nomark _)) (pw_or1 (pt_cmpR op_le (pv 0) (pe_op op_sub pe_int (pe_op op_pow pe_int pe_int)) (nomark _)))))
    (pss_one (ps_ret (pe_op op_mod (pv 0) (pe_op op_pow pe_int pe_int))))
    pss_nil)
    (pss_cons (ps_set (i := 3) sc__law_number.nd rfl (by first | exact Or.inl rfl | exact Or.inr rfl) (pe_op op_mod (pe_op op_add (pe_op op_mul (pe_op op_add (pv 0) (pe_op op_mul pe_int (pv 1))) pe_int) (pv 2)) pe_int))
    (pss_cons (ps_set (i := 4) sc__law_number.nd rfl (by first | exact Or.inl rfl | exact Or.inr rfl) (pe_op op_mul (pe_op op_mul (pv 3) (pe_op op_add (pe_op op_add (pv 3) (pe_op op_mul pe_int (pv 1))) pe_int)) (pe_op op_add (pe_op op_add (pv 3) (pv 0)) pe_int)))
    (pss_one (ps_ret (pe_op op_fdiv (pe_op op_mulW (pv 4) (pe_op op_add (pv 4) pe_int)) pe_int)))))), v__law_number h⟩
theorem ok__law_ups {f : Addr} {fd : FuncData} (F : Fun K "_law_ups" "_law_ups" s__law_ups f fd) (T : Blt mg) (c__law_number : Dfn P w K mg base "_law_number" 1 ["_law_cell", "_law_at", "_law_whole"] sp__law_number) : FnOk P w K mg base CX0 2 f fd ["_law_script", "_law_by", "_law_most"] (sp__law_ups K) := by
  refine F.ok sc__law_ups (fun vs H Q E h => ?_) (fun cdv A outer s H vs Q E hr h => ?_)
  · (repeat (obtain ⟨_, h⟩ := h)); subst_vars; rfl
  · refine ⟨t__law_ups K,
    (pss_cons (ps_set (i := 3) sc__law_ups.nd rfl (by first | exact Or.inl rfl | exact Or.inr rfl) (pe_ifExp (pt_cmpR (op_neD hr.units) (pv 0) (pe_lst pa_nil) (nomark _)) (pe_slice sl_list (pv 0) po_none (po_some pe_int)) (pe_lst (pa_cons pe_int pa_nil))))
    (pss_cons (ps_par (i := 4) (j := 5) (by rfl) sc__law_ups.nd rfl rfl (by decide) rfl rfl (pa_cons (pe_op op_add (pe_callB (cr_sum (by rfl)) (by rfl) T.sum (by decide +kernel) (pa_cons (pv 3) pa_nil)) (pv 1)) (pa_cons (pe_lst pa_nil) pa_nil)) (by rfl))
    (pss_cons (ps_par (i := 6) (j := 7) (by rfl) sc__law_ups.nd rfl rfl (by decide) rfl rfl (pa_cons (pe_op op_mod (pe_op op_fdiv (pe_callD c__law_number hr (by decide) (by rfl) (pa_cons (pv 4) (pa_cons (pe_op op_add (pv 1) pe_int) (pa_cons pe_int pa_nil)))) pe_int) (pv 2)) (pa_cons (pe_op op_mod (pe_op op_fdiv (pe_callD c__law_number hr (by decide) (by rfl) (pa_cons (pv 4) (pa_cons (pe_op op_add (pv 1) pe_int) (pa_cons pe_int pa_nil)))) pe_int) pe_int) pa_nil)) (by rfl))
    (pss_cons (ps_for PassesOwn.never rfl (pi_range1 (by rfl) T.range (pa_cons (pv 6) pa_nil)) (pg_name (i := 8) sc__law_ups.nd rfl (by first | exact Or.inl rfl | exact Or.inr rfl))
    (pss_cons (ps_set (i := 9) sc__law_ups.nd rfl (by first | exact Or.inl rfl | exact Or.inr rfl) (pe_op op_fdiv (pe_callD c__law_number hr (by decide) (by rfl) (pa_cons (pe_op op_add (pe_ix ix_list (pv 3) (pe_op op_mod (pe_op op_add (pv 8) (pv 1)) (pe_callB call_len_seq (by rfl) T.len PySem.boot_len (pa_cons (pv 3) pa_nil))) (fun _ _ => rfl)) (pv 8)) (pa_cons (pe_op op_add (pv 8) (pv 1)) (pa_cons (pv 4) pa_nil)))) pe_int))
      (pss_one (ps_expr (pe_bm PySem.F.plainAttrs_list PySem.F.slot_list_append PySem.F.type_list_append mt_append (pv 5) (pa_cons (pe_ix ix_tup (pe_tup (pa_cons (pe_op op_mod (pv 9) (pe_op op_add (pv 8) pe_int)) (pa_cons (pv 8) (pa_cons pe_int (pa_cons (pe_op op_mod (pv 9) (pe_callB (call_min2 (by rfl)) (by rfl) T.min (by decide +kernel) (pa_cons (pe_op op_add (pv 8) pe_int) (pa_cons pe_int pa_nil)))) (pa_cons (pe_op op_fdiv (pv 8) pe_int) pa_nil)))))) (pv 7) (fun _ _ => rfl)) pa_nil))))))
    (pss_one (ps_ret (pv 5))))))), v__law_ups h⟩
theorem ok_is_whole {f : Addr} {fd : FuncData} (F : Fun K "is_whole" "is_whole" s_is_whole f fd) (T : Blt mg) : FnOk P w K mg base CX0 1 f fd ["thing"] sp_is_whole := by
  refine F.ok sc_is_whole (fun vs H Q E h => ?_) (fun cdv A outer s H vs Q E hr h => ?_)
  · (repeat (obtain ⟨_, h⟩ := h)); subst_vars; rfl
  · refine ⟨t_is_whole K,
    (pss_one (ps_ret (pe_and (pe_callB call_isi (by rfl) T.isinstance (by decide +kernel) (pa_cons (pv 0) (pa_cons (pe_bltn (v := .ty "int") (by rfl) T.int (by decide +kernel) rfl) pa_nil))) (pe_one (pe_not (pe_callB call_isi (by rfl) T.isinstance (by decide +kernel) (pa_cons (pv 0) (pa_cons (pe_bltn (v := .ty "bool") (by rfl) T.bool (by decide +kernel) rfl) pa_nil)))))))), v_is_whole h⟩
theorem ok_is_between {f : Addr} {fd : FuncData} (F : Fun K "is_between" "is_between" s_is_between f fd) (T : Blt mg) (c_is_whole : Dfn P w K mg base "is_whole" 1 ["thing"] sp_is_whole) : FnOk P w K mg base CX0 2 f fd ["thing", "least", "most"] sp_is_between := by
  refine F.ok sc_is_between (fun vs H Q E h => ?_) (fun cdv A outer s H vs Q E hr h => ?_)
  · (repeat (obtain ⟨_, h⟩ := h)); subst_vars; rfl
  · refine ⟨t_is_between K,
    (pss_one (ps_ret (pe_and (pe_callD c_is_whole hr (by decide) (by rfl) (pa_cons (pv 0) pa_nil)) (pe_one (pe_chain op_le op_le (pv 1) (pv 0) (pv 2)))))), v_is_between h⟩
theorem ok_check_ups {tk_MOST_PEOPLE : Tok} {f : Addr} {fd : FuncData} (F : Fun K "check_ups" "check_ups" s_check_ups f fd) (T : Blt mg) (M_MOST_PEOPLE : mg "MOST_PEOPLE" = some (.int 40 tk_MOST_PEOPLE)) (c_is_between : Dfn P w K mg base "is_between" 2 ["thing", "least", "most"] sp_is_between) : FnOk P w K mg base CX0 3 f fd ["ups"] sp_check_ups := by
  refine F.ok sc_check_ups (fun vs H Q E h => ?_) (fun cdv A outer s H vs Q E hr h => ?_)
  · (repeat (obtain ⟨_, h⟩ := h)); subst_vars; rfl
  · refine ⟨t_check_ups K,
    (pss_cons (ps_if (PW.pt (pw_or (pt_not (pt_val (pe_callB call_isi (by rfl) T.isinstance (by decide +kernel) (pa_cons (pv 0) (pa_cons (pe_bltn (v := .ty "list") (by rfl) T.list (by decide +kernel) rfl) pa_nil))))) (pw_or1 (pt_cmpR op_ge (pe_callB call_len_seq (by rfl) T.len PySem.boot_len (pa_cons (pv 0) pa_nil)) (pe_glob (by rfl) M_MOST_PEOPLE ⟨_, rfl⟩) (nomark _)))))
    (pss_one ps_never)
    pss_nil)
    (pss_one (ps_if (pt_not (pt_val (pe_callB (cr_all (by rfl)) (by rfl) T.all (by decide +kernel) (pa_cons (pe_lc (own := [("at", 1), ("up", 2)]) (by rfl) sc_check_ups.nd (pi_enum (by rfl) T.enumerate (pa_cons (pv 0) pa_nil)) (blkOk_by (own := [("at", 1), ("up", 2)]) (N := ["ups", "at", "up"]) (sc := defScope s_check_ups) (by decide +kernel)) (fun _ _ _ _ _ => (pg_tup (n := 2) rfl (pgs_cons (pg_name (i := 1) sc_check_ups.nd rfl (by first | exact Or.inl rfl | exact Or.inr rfl)) (pgs_cons (pg_name (i := 2) sc_check_ups.nd rfl (by first | exact Or.inl rfl | exact Or.inr rfl)) pgs_nil)))) (fun _ _ _ _ _ => pts_nil) (fun _ _ _ _ _ => (pe_callD c_is_between hr (by decide) (by rfl) (pa_cons (pv 2) (pa_cons pe_int (pa_cons (pv 1) pa_nil)))))) pa_nil))))
    (pss_one ps_never)
    pss_nil))), v_check_ups h⟩
theorem ok_called_by {f : Addr} {fd : FuncData} (F : Fun K "called_by" "called_by" s_called_by f fd) (T : Blt mg) : FnOk P w K mg base CX0 1 f fd ["ups"] sp_called_by := by
  refine F.ok sc_called_by (fun vs H Q E h => ?_) (fun cdv A outer s H vs Q E hr h => ?_)
  · (repeat (obtain ⟨_, h⟩ := h)); subst_vars; rfl
  · refine ⟨t_called_by K,
    (pss_cons (ps_setLc (i := 2) (own := [("person", 1)]) (by rfl) sc_called_by.nd rfl rfl (sw_true rfl rfl rfl (by decide +kernel)) (pi_range1 (by rfl) T.range (pa_cons (pe_op op_add (pe_callB call_len_seq (by rfl) T.len PySem.boot_len (pa_cons (pv 0) pa_nil)) pe_int) pa_nil)) (blkOk_by (own := [("person", 1)]) (N := ["ups", "person", "found", "at", "up"]) (sc := defScope s_called_by) (by decide +kernel)) (fun _ _ _ _ _ => (pg_name (i := 1) sc_called_by.nd rfl (by first | exact Or.inl rfl | exact Or.inr rfl))) (fun _ _ _ _ _ => pts_nil) (fun _ _ _ _ _ => (pe_lst pa_nil)))
    (pss_cons (ps_for PassesOwn.never rfl (pi_enum (by rfl) T.enumerate (pa_cons (pv 0) pa_nil)) (pg_tup (n := 2) rfl (pgs_cons (pg_name (i := 3) sc_called_by.nd rfl (by first | exact Or.inl rfl | exact Or.inr rfl)) (pgs_cons (pg_name (i := 4) sc_called_by.nd rfl (by first | exact Or.inl rfl | exact Or.inr rfl)) pgs_nil)))
    (pss_one (ps_expr (pe_bm PySem.F.plainAttrs_list PySem.F.slot_list_append PySem.F.type_list_append mt_append (pe_ix ix_list (pv 2) (pv 4) (fun _ _ => rfl)) (pa_cons (pe_op op_add (pv 3) pe_int) pa_nil)))))
    (pss_one (ps_ret (pv 2))))), v_called_by h⟩
theorem ok_best_orders {f : Addr} {fd : FuncData} (F : Fun K "best_orders" "best_orders" s_best_orders f fd) (T : Blt mg) (c_called_by : Dfn P w K mg base "called_by" 1 ["ups"] sp_called_by) : FnOk P w K mg base CX0 2 f fd ["ups"] sp_best_orders := by
  refine F.ok sc_best_orders (fun vs H Q E h => ?_) (fun cdv A outer s H vs Q E hr h => ?_)
  · (repeat (obtain ⟨_, h⟩ := h)); subst_vars; rfl
  · refine ⟨t_best_orders K,
    (pss_cons (ps_asg (pe_tup (pa_cons (pe_callD c_called_by hr (by decide) (by rfl) (pa_cons (pv 0) pa_nil)) (pa_cons (pe_op op_rep (pe_lst (pa_cons pe_int pa_nil)) (pe_op op_add (pe_callB call_len_seq (by rfl) T.len PySem.boot_len (pa_cons (pv 0) pa_nil)) pe_int)) pa_nil))) (pg_tup (n := 2) rfl (pgs_cons (pg_name (i := 1) sc_best_orders.nd rfl (by first | exact Or.inl rfl | exact Or.inr rfl)) (pgs_cons (pg_name (i := 2) sc_best_orders.nd rfl (by first | exact Or.inl rfl | exact Or.inr rfl)) pgs_nil))))
    (pss_cons (ps_for PassesOwn.never rfl (pi_range1 (by rfl) T.range (pa_cons (pe_callB call_len_seq (by rfl) T.len PySem.boot_len (pa_cons (pv 1) pa_nil)) pa_nil)) (pg_name (i := 3) sc_best_orders.nd rfl (by first | exact Or.inl rfl | exact Or.inr rfl))
    (pss_cons (ps_set (i := 4) sc_best_orders.nd rfl (by first | exact Or.inl rfl | exact Or.inr rfl) (pe_op op_sub (pe_op op_sub (pe_callB call_len_seq (by rfl) T.len PySem.boot_len (pa_cons (pv 1) pa_nil)) pe_int) (pv 3)))
      (pss_cons (ps_set (i := 6) sc_best_orders.nd rfl (by first | exact Or.inl rfl | exact Or.inr rfl) (pe_callB cr_sortedPO (by rfl) T.sorted (by decide +kernel) (pa_cons (pe_lc (own := [("one", 5)]) (by rfl) sc_best_orders.nd (pi_list (pe_ix ix_list (pv 1) (pv 4) (fun _ _ => rfl))) (blkOk_by (own := [("one", 5)]) (N := ["ups", "rows", "needs", "back", "person", "one", "turn", "need", "at"]) (sc := defScope s_best_orders) (by decide +kernel)) (fun _ _ _ _ _ => (pg_name (i := 5) sc_best_orders.nd rfl (by first | exact Or.inl rfl | exact Or.inr rfl))) (fun _ _ _ _ _ => pts_nil) (fun _ _ _ _ _ => (pe_tup (pa_cons (pe_un un_neg (pe_ix ix_list (pv 2) (pv 5) (fun _ _ => rfl))) (pa_cons (pv 5) pa_nil))))) pa_nil)))
      (pss_cons (ps_asg (pe_lc (own := [("need", 7), ("one", 5)]) (by rfl) sc_best_orders.nd (pi_list (pv 6)) (blkOk_by (own := [("need", 7), ("one", 5)]) (N := ["ups", "rows", "needs", "back", "person", "one", "turn", "need", "at"]) (sc := defScope s_best_orders) (by decide +kernel)) (fun _ _ _ _ _ => (pg_tup (n := 2) rfl (pgs_cons (pg_name (i := 7) sc_best_orders.nd rfl (by first | exact Or.inl rfl | exact Or.inr rfl)) (pgs_cons (pg_name (i := 5) sc_best_orders.nd rfl (by first | exact Or.inl rfl | exact Or.inr rfl)) pgs_nil)))) (fun _ _ _ _ _ => pts_nil) (fun _ _ _ _ _ => (pv 5))) (pg_sub (pv 1) (pv 4) set_list))
      (pss_one (ps_asg (pe_callB (cr_max (by rfl)) (by rfl) T.max (by decide +kernel) (pa_cons (pe_op op_cat (pe_lst (pa_cons pe_int pa_nil)) (pe_lc (own := [("at", 8), ("need", 7), ("one", 5)]) (by rfl) sc_best_orders.nd (pi_enum (by rfl) T.enumerate (pa_cons (pv 6) pa_nil)) (blkOk_by (own := [("at", 8), ("need", 7), ("one", 5)]) (N := ["ups", "rows", "needs", "back", "person", "one", "turn", "need", "at"]) (sc := defScope s_best_orders) (by decide +kernel)) (fun _ _ _ _ _ => (pg_tup (n := 2) rfl (pgs_cons (pg_name (i := 8) sc_best_orders.nd rfl (by first | exact Or.inl rfl | exact Or.inr rfl)) (pgs_cons (pg_tup (n := 2) rfl (pgs_cons (pg_name (i := 7) sc_best_orders.nd rfl (by first | exact Or.inl rfl | exact Or.inr rfl)) (pgs_cons (pg_name (i := 5) sc_best_orders.nd rfl (by first | exact Or.inl rfl | exact Or.inr rfl)) pgs_nil))) pgs_nil)))) (fun _ _ _ _ _ => pts_nil) (fun _ _ _ _ _ => (pe_op op_sub (pe_op op_add (pv 8) pe_int) (pv 7))))) pa_nil)) (pg_sub (pv 2) (pv 4) set_list)))))))
    (pss_one (ps_ret (pe_tup (pa_cons (pv 1) (pa_cons (pv 2) pa_nil))))))), v_best_orders h⟩
theorem ok_Fewest___init__ {C_Fewest : Addr} {f : Addr} {fd : FuncData} (F : Fun K "__init__" "Fewest.__init__" s_Fewest___init__ f fd) (T : Blt mg) (T_Fewest : KFewest K C_Fewest) : FnOk P w K mg base CX0 1 f fd ["self", "orders", "marks"] (sp_Fewest___init__ C_Fewest) := by
  refine F.ok sc_Fewest___init__ (fun vs H Q E h => ?_) (fun cdv A outer s H vs Q E hr h => ?_)
  · (repeat (obtain ⟨_, h⟩ := h)); subst_vars; rfl
  · refine ⟨t_Fewest___init__ K,
    (pss_cons (ps_fld (pv 0) (pe_lc (own := [("row", 3)]) (by rfl) sc_Fewest___init__.nd (pi_list (pv 1)) (blkOk_by (own := [("row", 3)]) (N := ["self", "orders", "marks", "row"]) (sc := defScope s_Fewest___init__) (by decide +kernel)) (fun _ _ _ _ _ => (pg_name (i := 3) sc_Fewest___init__.nd rfl (by first | exact Or.inl rfl | exact Or.inr rfl))) (fun _ _ _ _ _ => pts_nil) (fun _ _ _ _ _ => (pe_callTy call_list_of (by rfl) T.list (by decide +kernel) (pa_cons (pv 3) pa_nil)))) rfl)
    (pss_one (ps_fld (pv 0) (pe_callTy call_list_of (by rfl) T.list (by decide +kernel) (pa_cons (pv 2) pa_nil)) rfl))), v_Fewest___init__ T_Fewest h⟩
theorem ok_fewest {C_Fewest : Addr} {f : Addr} {fd : FuncData} (F : Fun K "fewest" "fewest" s_fewest f fd) (T : Blt mg) (c_check_ups : Dfn P w K mg base "check_ups" 3 ["ups"] sp_check_ups) (c_best_orders : Dfn P w K mg base "best_orders" 2 ["ups"] sp_best_orders) (c_Fewest : Ctr P w K mg base "Fewest" C_Fewest 1 ["self", "orders", "marks"] (sp_Fewest___init__ C_Fewest)) : FnOk P w K mg base CX0 4 f fd ["ups"] (sp_fewest C_Fewest) := by
  refine F.ok sc_fewest (fun vs H Q E h => ?_) (fun cdv A outer s H vs Q E hr h => ?_)
  · (repeat (obtain ⟨_, h⟩ := h)); subst_vars; rfl
  · refine ⟨t_fewest K C_Fewest,
    (pss_cons (ps_expr (pe_callD c_check_ups hr (by decide) (by rfl) (pa_cons (pv 0) pa_nil)))
    (pss_cons (ps_asg (pe_callD c_best_orders hr (by decide) (by rfl) (pa_cons (pv 0) pa_nil)) (pg_tup (n := 2) rfl (pgs_cons (pg_name (i := 1) sc_fewest.nd rfl (by first | exact Or.inl rfl | exact Or.inr rfl)) (pgs_cons (pg_name (i := 2) sc_fewest.nd rfl (by first | exact Or.inl rfl | exact Or.inr rfl)) pgs_nil))))
    (pss_one (ps_ret (pe_makeD c_Fewest hr (by decide) (by rfl) (pa_cons (pv 1) (pa_cons (pv 2) pa_nil))))))), v_fewest h⟩
theorem ok__law_called {f : Addr} {fd : FuncData} (F : Fun K "_law_called" "_law_called" s__law_called f fd) (T : Blt mg) : FnOk P w K mg base CX0 1 f fd ["_law_ups_here"] sp__law_called := by
  refine F.ok sc__law_called (fun vs H Q E h => ?_) (fun cdv A outer s H vs Q E hr h => ?_)
  · (repeat (obtain ⟨_, h⟩ := h)); subst_vars; rfl
  · refine ⟨t__law_called K,
    (pss_one (ps_ret (pe_lc (own := [("_law_person", 1)]) (by rfl) sc__law_called.nd (pi_range1 (by rfl) T.range (pa_cons (pe_op op_add (pe_callB call_len_seq (by rfl) T.len PySem.boot_len (pa_cons (pv 0) pa_nil)) pe_int) pa_nil)) (blkOk_by (own := [("_law_person", 1)]) (N := ["_law_ups_here", "_law_person", "_law_at", "_law_up"]) (sc := defScope s__law_called) (by decide +kernel)) (fun _ _ _ _ _ => (pg_name (i := 1) sc__law_called.nd rfl (by first | exact Or.inl rfl | exact Or.inr rfl))) (fun _ _ _ _ _ => pts_nil) (fun _ _ _ _ _ => (pe_lc (own := [("_law_at", 2), ("_law_up", 3)]) (by rfl) sc__law_called.nd (pi_enum (by rfl) T.enumerate (pa_cons (pv 0) pa_nil)) (blkOk_by (own := [("_law_at", 2), ("_law_up", 3)]) (N := ["_law_ups_here", "_law_person", "_law_at", "_law_up"]) (sc := xRel (defScope s__law_called) (xLcSc (xRet ((defBody s__law_called).getD 0 (.Pass ⟨0, 0, 0, 0⟩))))) (by decide +kernel)) (fun _ _ _ _ _ => (pg_tup (n := 2) rfl (pgs_cons (pg_name (i := 2) sc__law_called.nd rfl (by first | exact Or.inl rfl | exact Or.inr rfl)) (pgs_cons (pg_name (i := 3) sc__law_called.nd rfl (by first | exact Or.inl rfl | exact Or.inr rfl)) pgs_nil)))) (fun _ _ _ _ _ => (pts_one (pt_cmpR op_eq (pv 3) (pv 1) (nomark _)))) (fun _ _ _ _ _ => (pe_op op_add (pv 2) pe_int))))))), v__law_called h⟩
theorem ok__law_lots {f : Addr} {fd : FuncData} (F : Fun K "_law_lots" "_law_lots" s__law_lots f fd) (T : Blt mg) : FnOk P w K mg base CX0 1 f fd ["_law_orders", "_law_marks", "_law_at", "_law_whole"] sp__law_lots := by
  refine F.ok sc__law_lots (fun vs H Q E h => ?_) (fun cdv A outer s H vs Q E hr h => ?_)
  · (repeat (obtain ⟨_, h⟩ := h)); subst_vars; rfl
  · refine ⟨t__law_lots K,
    (pss_cons (ps_par (i := 4) (j := 5) (by rfl) sc__law_lots.nd rfl rfl (by decide) rfl rfl (pa_cons (pe_ix ix_list (pv 0) (pv 2) (fun _ _ => rfl)) (pa_cons (pe_lst pa_nil) pa_nil)) (by rfl))
    (pss_cons (ps_for PassesOwn.never rfl (pi_tup (pe_tup (pa_cons (pe_revL (pv 4)) (pa_cons (pe_slice sl_list (pv 4) (po_some pe_int) po_none) (pa_cons (pe_op op_cat (pe_slice sl_list (pv 4) (po_some pe_int) po_none) (pe_slice sl_list (pv 4) po_none (po_some pe_int))) (pa_cons (pe_op op_cat (pv 4) (pe_slice sl_list (pv 4) po_none (po_some pe_int))) (pa_cons (pe_op op_cat (pv 4) (pe_lst (pa_cons pe_int pa_nil))) (pa_cons (pe_op op_cat (pv 4) (pe_lst (pa_cons (pe_un un_neg pe_int) pa_nil))) (pa_cons (pe_op op_cat (pv 4) (pe_lst (pa_cons (pe_op op_pow pe_int pe_int) pa_nil))) pa_nil))))))))) (pg_name (i := 6) sc__law_lots.nd rfl (by first | exact Or.inl rfl | exact Or.inr rfl))
    (pss_one (ps_expr (pe_bm PySem.F.plainAttrs_list PySem.F.slot_list_append PySem.F.type_list_append mt_append (pv 5) (pa_cons (pe_tup (pa_cons (pe_op op_cat (pe_op op_cat (pe_slice sl_list (pv 0) po_none (po_some (pv 2))) (pe_lst (pa_cons (pv 6) pa_nil))) (pe_slice sl_list (pv 0) (po_some (pe_op op_add (pv 2) pe_int)) po_none)) (pa_cons (pv 1) pa_nil))) pa_nil)))))
    (pss_cons (ps_for PassesOwn.never rfl (pi_tup (pe_tup (pa_cons pe_int (pa_cons (pe_un un_neg pe_int) (pa_cons (pe_op op_mod (pv 3) pe_int) (pa_cons (pe_op op_pow pe_int pe_int) (pa_cons (pe_un un_neg (pe_op op_pow pe_int pe_int)) pa_nil))))))) (pg_name (i := 7) sc__law_lots.nd rfl (by first | exact Or.inl rfl | exact Or.inr rfl))
    (pss_one (ps_expr (pe_bm PySem.F.plainAttrs_list PySem.F.slot_list_append PySem.F.type_list_append mt_append (pv 5) (pa_cons (pe_tup (pa_cons (pv 0) (pa_cons (pe_op op_cat (pe_op op_cat (pe_slice sl_list (pv 1) po_none (po_some (pv 2))) (pe_lst (pa_cons (pe_op op_add (pe_ix ix_list (pv 1) (pv 2) (fun _ _ => rfl)) (pv 7)) pa_nil))) (pe_slice sl_list (pv 1) (po_some (pe_op op_add (pv 2) pe_int)) po_none)) pa_nil))) pa_nil)))))
    (pss_one (ps_ret (pv 5)))))), v__law_lots h⟩
theorem ok__law_are_marks {f : Addr} {fd : FuncData} (F : Fun K "_law_are_marks" "_law_are_marks" s__law_are_marks f fd) (T : Blt mg) : FnOk P w K mg base CX0 1 f fd ["_law_orders", "_law_marks"] sp__law_are_marks := by
  refine F.ok sc__law_are_marks (fun vs H Q E h => ?_) (fun cdv A outer s H vs Q E hr h => ?_)
  · (repeat (obtain ⟨_, h⟩ := h)); subst_vars; rfl
  · refine ⟨t__law_are_marks K,
    (pss_cons (ps_for PassesOwn.never rfl (pi_enum (by rfl) T.enumerate (pa_cons (pv 0) pa_nil)) (pg_tup (n := 2) rfl (pgs_cons (pg_name (i := 2) sc__law_are_marks.nd rfl (by first | exact Or.inl rfl | exact Or.inr rfl)) (pgs_cons (pg_name (i := 3) sc__law_are_marks.nd rfl (by first | exact Or.inl rfl | exact Or.inr rfl)) pgs_nil)))
    (pss_cons (ps_set (i := 5) sc__law_are_marks.nd rfl (by first | exact Or.inl rfl | exact Or.inr rfl) (pe_revL (pe_callB cr_sortedI (by rfl) T.sorted (by decide +kernel) (pa_cons (pe_lc (own := [("_law_one", 4)]) (by rfl) sc__law_are_marks.nd (pi_list (pv 3)) (blkOk_by (own := [("_law_one", 4)]) (N := ["_law_orders", "_law_marks", "_law_person", "_law_row", "_law_one", "_law_tops", "_law_at", "_law_top", "_law_least"]) (sc := defScope s__law_are_marks) (by decide +kernel)) (fun _ _ _ _ _ => (pg_name (i := 4) sc__law_are_marks.nd rfl (by first | exact Or.inl rfl | exact Or.inr rfl))) (fun _ _ _ _ _ => pts_nil) (fun _ _ _ _ _ => (pe_ix ix_list (pv 1) (pv 4) (fun _ _ => rfl)))) pa_nil))))
      (pss_cons (ps_set (i := 8) sc__law_are_marks.nd rfl (by first | exact Or.inl rfl | exact Or.inr rfl) (pe_op op_cat (pe_lst (pa_cons pe_int pa_nil)) (pe_lc (own := [("_law_at", 6), ("_law_top", 7)]) (by rfl) sc__law_are_marks.nd (pi_enum (by rfl) T.enumerate (pa_cons (pv 5) pa_nil)) (blkOk_by (own := [("_law_at", 6), ("_law_top", 7)]) (N := ["_law_orders", "_law_marks", "_law_person", "_law_row", "_law_one", "_law_tops", "_law_at", "_law_top", "_law_least"]) (sc := defScope s__law_are_marks) (by decide +kernel)) (fun _ _ _ _ _ => (pg_tup (n := 2) rfl (pgs_cons (pg_name (i := 6) sc__law_are_marks.nd rfl (by first | exact Or.inl rfl | exact Or.inr rfl)) (pgs_cons (pg_name (i := 7) sc__law_are_marks.nd rfl (by first | exact Or.inl rfl | exact Or.inr rfl)) pgs_nil)))) (fun _ _ _ _ _ => pts_nil) (fun _ _ _ _ _ => (pe_op op_add (pe_op op_add (pv 6) pe_int) (pv 7))))))
      (pss_one (ps_if (pt_not (pt_chain op_le op_le pe_int (pe_ix ix_list (pv 1) (pv 2) (fun _ _ => rfl)) (pe_callB (cr_max (by rfl)) (by rfl) T.max (by decide +kernel) (pa_cons (pv 8) pa_nil))))
      (pss_one (ps_ret pe_bl))
      pss_nil)))))
    (pss_one (ps_ret pe_bl))), v__law_are_marks h⟩
theorem ok__law_last {f : Addr} {fd : FuncData} (F : Fun K "_law_last" "_law_last" s__law_last f fd) (T : Blt mg) : FnOk P w K mg base CX0 1 f fd ["_law_orders"] sp__law_last := by
  refine F.ok sc__law_last (fun vs H Q E h => ?_) (fun cdv A outer s H vs Q E hr h => ?_)
  · (repeat (obtain ⟨_, h⟩ := h)); subst_vars; rfl
  · refine ⟨t__law_last K,
    (pss_cons (ps_asg (pe_tup (pa_cons (pe_lst (pa_cons pe_int pa_nil)) (pa_cons (pe_lc (own := [("_law_row", 1)]) (by rfl) sc__law_last.nd (pi_list (pv 0)) (blkOk_by (own := [("_law_row", 1)]) (N := ["_law_orders", "_law_row", "_law_knows", "_law_rows", "_law_rounds", "_law_person", "_law_told"]) (sc := defScope s__law_last) (by decide +kernel)) (fun _ _ _ _ _ => (pg_name (i := 1) sc__law_last.nd rfl (by first | exact Or.inl rfl | exact Or.inr rfl))) (fun _ _ _ _ _ => pts_nil) (fun _ _ _ _ _ => (pe_callTy call_list_of (by rfl) T.list (by decide +kernel) (pa_cons (pv 1) pa_nil)))) (pa_cons pe_int pa_nil)))) (pg_tup (n := 3) rfl (pgs_cons (pg_name (i := 2) sc__law_last.nd rfl (by first | exact Or.inl rfl | exact Or.inr rfl)) (pgs_cons (pg_name (i := 3) sc__law_last.nd rfl (by first | exact Or.inl rfl | exact Or.inr rfl)) (pgs_cons (pg_name (i := 4) sc__law_last.nd rfl (by first | exact Or.inl rfl | exact Or.inr rfl)) pgs_nil)))))
    (pss_cons (ps_while PassesOwn.never (pt_cmpR op_lt (pe_callB call_len_seq (by rfl) T.len PySem.boot_len (pa_cons (pv 2) pa_nil)) (pe_callB call_len_seq (by rfl) T.len PySem.boot_len (pa_cons (pv 0) pa_nil)) (nomark _))
    (pss_cons (ps_setLc (i := 6) (own := [("_law_person", 5)]) (by rfl) sc__law_last.nd rfl rfl (sw_true rfl rfl rfl (by decide +kernel)) (pi_list (pv 2)) (blkOk_by (own := [("_law_person", 5)]) (N := ["_law_orders", "_law_row", "_law_knows", "_law_rows", "_law_rounds", "_law_person", "_law_told"]) (sc := defScope s__law_last) (by decide +kernel)) (fun _ _ _ _ _ => (pg_name (i := 5) sc__law_last.nd rfl (by first | exact Or.inl rfl | exact Or.inr rfl))) (fun _ _ _ _ _ => (pts_one (pt_cmpR (op_neD hr.units) (pe_ix ix_list (pv 3) (pv 5) (fun _ _ => rfl)) (pe_lst pa_nil) (nomark _)))) (fun _ _ _ _ _ => (pe_bm PySem.F.plainAttrs_list PySem.F.slot_list_pop PySem.F.type_list_pop mt_popAt (pe_ix ix_list (pv 3) (pv 5) (fun _ _ => rfl)) (pa_cons pe_int pa_nil))))
      (pss_cons (ps_if (pt_cmpR (op_eqD hr.units) (pv 6) (pe_lst pa_nil) (nomark _))
      (pss_one (ps_ret (pe_un un_neg pe_int)))
      pss_nil)
      (pss_one (ps_par (i := 2) (j := 4) (by rfl) sc__law_last.nd rfl rfl (by decide) rfl rfl (pa_cons (pe_op op_cat (pv 2) (pv 6)) (pa_cons (pe_op op_add (pv 4) pe_int) pa_nil)) (by rfl))))))
    (pss_one (ps_ret (pv 4))))), v__law_last h⟩
theorem ok__law_is_fewest {f : Addr} {fd : FuncData} (F : Fun K "_law_is_fewest" "_law_is_fewest" s__law_is_fewest f fd) (T : Blt mg) (c__law_called : Dfn P w K mg base "_law_called" 1 ["_law_ups_here"] sp__law_called) (c__law_are_marks : Dfn P w K mg base "_law_are_marks" 1 ["_law_orders", "_law_marks"] sp__law_are_marks) (c__law_last : Dfn P w K mg base "_law_last" 1 ["_law_orders"] sp__law_last) : FnOk P w K mg base CX0 2 f fd ["_law_ups_here", "_law_orders", "_law_marks"] sp__law_is_fewest := by
  refine F.ok sc__law_is_fewest (fun vs H Q E h => ?_) (fun cdv A outer s H vs Q E hr h => ?_)
  · (repeat (obtain ⟨_, h⟩ := h)); subst_vars; rfl
  · refine ⟨t__law_is_fewest K,
    (pss_cons (ps_if (PW.pt (pw_or (pt_cmpR (op_neD hr.units) (pe_lc (own := [("_law_row", 3)]) (by rfl) sc__law_is_fewest.nd (pi_list (pv 1)) (blkOk_by (own := [("_law_row", 3)]) (N := ["_law_ups_here", "_law_orders", "_law_marks", "_law_row"]) (sc := defScope s__law_is_fewest) (by decide +kernel)) (fun _ _ _ _ _ => (pg_name (i := 3) sc__law_is_fewest.nd rfl (by first | exact Or.inl rfl | exact Or.inr rfl))) (fun _ _ _ _ _ => pts_nil) (fun _ _ _ _ _ => (pe_callB cr_sortedI (by rfl) T.sorted (by decide +kernel) (pa_cons (pv 3) pa_nil)))) (pe_callD c__law_called hr (by decide) (by rfl) (pa_cons (pv 0) pa_nil)) (nomark _)) (pw_or1 (pt_cmpR op_ne (pe_callB call_len_seq (by rfl) T.len PySem.boot_len (pa_cons (pv 2) pa_nil)) (pe_callB call_len_seq (by rfl) T.len PySem.boot_len (pa_cons (pv 1) pa_nil)) (nomark _)))))
    (pss_one (ps_ret pe_bl))
    pss_nil)
    (pss_one (ps_ret (pe_and (pe_callD c__law_are_marks hr (by decide) (by rfl) (pa_cons (pv 1) (pa_cons (pv 2) pa_nil))) (pe_one (pe_cmpR op_eq (pe_callD c__law_last hr (by decide) (by rfl) (pa_cons (pv 1) pa_nil)) (pe_ix ix_list (pv 2) pe_int (fun _ _ => rfl)) (nomark _))))))), v__law_is_fewest h⟩
theorem ok__law_says {f : Addr} {fd : FuncData} (F : Fun K "_law_says" "_law_says" s__law_says f fd) (T : Blt mg) : FnOk P w K mg base CX0 1 f fd ["_law_said", "_law_due"] sp__law_says := by
  refine F.ok sc__law_says (fun vs H Q E h => ?_) (fun cdv A outer s H vs Q E hr h => ?_)
  · (repeat (obtain ⟨_, h⟩ := h)); subst_vars; rfl
  · refine ⟨t__law_says K,
    (pss_one (ps_ret (pe_and (pe_callB call_isi (by rfl) T.isinstance (by decide +kernel) (pa_cons (pv 0) (pa_cons (pe_bltn (v := .ty "bool") (by rfl) T.bool (by decide +kernel) rfl) pa_nil))) (pe_one (pe_cmpR op_eq (pv 0) (pv 1) (nomark _)))))), v__law_says h⟩
theorem ok_is_mark {f : Addr} {fd : FuncData} (F : Fun K "is_mark" "is_mark" s_is_mark f fd) (T : Blt mg) : FnOk P w K mg base CX0 1 f fd ["orders", "marks", "person"] sp_is_mark := by
  refine F.ok sc_is_mark (fun vs H Q E h => ?_) (fun cdv A outer s H vs Q E hr h => ?_)
  · (repeat (obtain ⟨_, h⟩ := h)); subst_vars; rfl
  · refine ⟨t_is_mark K,
    (pss_cons (ps_set (i := 3) sc_is_mark.nd rfl (by first | exact Or.inl rfl | exact Or.inr rfl) (pe_ix ix_list (pv 1) (pv 2) (fun _ _ => rfl)))
    (pss_cons (ps_if (pt_cmpR op_eq (pv 3) pe_int (nomark _))
    (pss_one (ps_ret pe_bl))
    pss_nil)
    (pss_cons (ps_for PassesOwn.never rfl (pi_range2 (by rfl) T.range (pa_cons pe_int (pa_cons (pe_op op_add (pe_callB call_len_seq (by rfl) T.len PySem.boot_len (pa_cons (pe_ix ix_list (pv 0) (pv 2) (fun _ _ => rfl)) pa_nil)) pe_int) pa_nil))) (pg_name (i := 4) sc_is_mark.nd rfl (by first | exact Or.inl rfl | exact Or.inr rfl))
    (pss_one (ps_if (pt_cmpR op_ge (pe_callB call_len_seq (by rfl) T.len PySem.boot_len (pa_cons (pe_lc (own := [("one", 5)]) (by rfl) sc_is_mark.nd (pi_list (pe_ix ix_list (pv 0) (pv 2) (fun _ _ => rfl))) (blkOk_by (own := [("one", 5)]) (N := ["orders", "marks", "person", "mark", "many", "one"]) (sc := defScope s_is_mark) (by decide +kernel)) (fun _ _ _ _ _ => (pg_name (i := 5) sc_is_mark.nd rfl (by first | exact Or.inl rfl | exact Or.inr rfl))) (fun _ _ _ _ _ => (pts_one (pt_cmpR op_ge (pe_ix ix_list (pv 1) (pv 5) (fun _ _ => rfl)) (pe_op op_sub (pv 3) (pv 4)) (nomark _)))) (fun _ _ _ _ _ => (pv 5))) pa_nil)) (pv 4) (nomark _))
      (pss_one (ps_ret (pe_cmpR op_gt (pv 3) pe_int (nomark _))))
      pss_nil)))
    (pss_one (ps_ret pe_bl))))), v_is_mark h⟩
theorem ok_last_known {f : Addr} {fd : FuncData} (F : Fun K "last_known" "last_known" s_last_known f fd) (T : Blt mg) : FnOk P w K mg base CX0 1 f fd ["orders"] sp_last_known := by
  refine F.ok sc_last_known (fun vs H Q E h => ?_) (fun cdv A outer s H vs Q E hr h => ?_)
  · (repeat (obtain ⟨_, h⟩ := h)); subst_vars; rfl
  · refine ⟨t_last_known K,
    (pss_cons (ps_par3 (i := 1) (j := 2) (l := 3) (by rfl) sc_last_known.nd rfl rfl rfl (by decide) (by decide) (by decide) rfl rfl rfl (pa_cons pe_dnewK (pa_cons (pe_lst (pa_cons pe_int pa_nil)) (pa_cons pe_int pa_nil))) (by rfl))
    (pss_cons (ps_dput (hu_of hr) (pv 1) pe_int pe_int rfl)
    (pss_cons (ps_while PassesOwn.never (pt_cmpR op_lt (pv 3) (pe_callB call_len_seq (by rfl) T.len PySem.boot_len (pa_cons (pv 2) pa_nil)) (nomark _))
    (pss_cons (ps_for PassesOwn.never rfl (pi_enum (by rfl) T.enumerate (pa_cons (pe_ix ix_list (pv 0) (pe_ix ix_list (pv 2) (pv 3) (fun _ _ => rfl)) (fun _ _ => rfl)) pa_nil)) (pg_tup (n := 2) rfl (pgs_cons (pg_name (i := 4) sc_last_known.nd rfl (by first | exact Or.inl rfl | exact Or.inr rfl)) (pgs_cons (pg_name (i := 5) sc_last_known.nd rfl (by first | exact Or.inl rfl | exact Or.inr rfl)) pgs_nil)))
      (pss_cons (ps_dput (hu_of hr) (pv 1) (pv 5) (pe_op op_add (pe_op op_add (pe_dget (hu_of hr) (pv 1) (pe_ix ix_list (pv 2) (pv 3) (fun _ _ => rfl)) (fun _ _ => rfl)) (pv 4)) pe_int) rfl)
        (pss_one (ps_expr (pe_bm PySem.F.plainAttrs_list PySem.F.slot_list_append PySem.F.type_list_append mt_append (pv 2) (pa_cons (pv 5) pa_nil))))))
      (pss_one (ps_aug (i := 3) sc_last_known.nd rfl (by first | exact Or.inl rfl | exact Or.inr rfl) pe_int ip_add))))
    (pss_one (ps_ret (pe_callB (cr_max (by rfl)) (by rfl) T.max (by decide +kernel) (pa_cons (pe_listVals (by rfl) (pv 1) (by rfl) T.list (by decide +kernel)) pa_nil))))))), v_last_known h⟩
theorem ok_Fewest_shows {C_Fewest : Addr} {f : Addr} {fd : FuncData} (F : Fun K "shows" "Fewest.shows" s_Fewest_shows f fd) (T : Blt mg) (T_Fewest : KFewest K C_Fewest) (c_called_by : Dfn P w K mg base "called_by" 1 ["ups"] sp_called_by) (c_is_mark : Dfn P w K mg base "is_mark" 1 ["orders", "marks", "person"] sp_is_mark) (c_last_known : Dfn P w K mg base "last_known" 1 ["orders"] sp_last_known) : FnOk P w K mg base CX0 2 f fd ["self", "ups"] (sp_Fewest_shows C_Fewest) := by
  refine F.ok sc_Fewest_shows (fun vs H Q E h => ?_) (fun cdv A outer s H vs Q E hr h => ?_)
  · (repeat (obtain ⟨_, h⟩ := h)); subst_vars; rfl
  · refine ⟨t_Fewest_shows K,
    (pss_cons (ps_if (PW.pt (pw_or (pt_cmpR (op_neD hr.units) (pe_lc (own := [("row", 2)]) (by rfl) sc_Fewest_shows.nd (pi_list (pe_fld (pv 0) rfl)) (blkOk_by (own := [("row", 2)]) (N := ["self", "ups", "row", "person"]) (sc := defScope s_Fewest_shows) (by decide +kernel)) (fun _ _ _ _ _ => (pg_name (i := 2) sc_Fewest_shows.nd rfl (by first | exact Or.inl rfl | exact Or.inr rfl))) (fun _ _ _ _ _ => pts_nil) (fun _ _ _ _ _ => (pe_callB cr_sortedI (by rfl) T.sorted (by decide +kernel) (pa_cons (pv 2) pa_nil)))) (pe_callD c_called_by hr (by decide) (by rfl) (pa_cons (pv 1) pa_nil)) (nomark _)) (pw_or1 (pt_cmpR op_ne (pe_callB call_len_seq (by rfl) T.len PySem.boot_len (pa_cons (pe_fld (pv 0) rfl) pa_nil)) (pe_callB call_len_seq (by rfl) T.len PySem.boot_len (pa_cons (pe_fld (pv 0) rfl) pa_nil)) (nomark _)))))
    (pss_one (ps_ret pe_bl))
    pss_nil)
    (pss_cons (ps_if (pt_not (pt_val (pe_callB (cr_all (by rfl)) (by rfl) T.all (by decide +kernel) (pa_cons (pe_lc (own := [("person", 3)]) (by rfl) sc_Fewest_shows.nd (pi_range1 (by rfl) T.range (pa_cons (pe_callB call_len_seq (by rfl) T.len PySem.boot_len (pa_cons (pe_fld (pv 0) rfl) pa_nil)) pa_nil)) (blkOk_by (own := [("person", 3)]) (N := ["self", "ups", "row", "person"]) (sc := defScope s_Fewest_shows) (by decide +kernel)) (fun _ _ _ _ _ => (pg_name (i := 3) sc_Fewest_shows.nd rfl (by first | exact Or.inl rfl | exact Or.inr rfl))) (fun _ _ _ _ _ => pts_nil) (fun _ _ _ _ _ => (pe_callD c_is_mark hr (by decide) (by rfl) (pa_cons (pe_fld (pv 0) rfl) (pa_cons (pe_fld (pv 0) rfl) (pa_cons (pv 3) pa_nil)))))) pa_nil))))
    (pss_one (ps_ret pe_bl))
    pss_nil)
    (pss_one (ps_ret (pe_cmpR op_eq (pe_callD c_last_known hr (by decide) (by rfl) (pa_cons (pe_fld (pv 0) rfl) pa_nil)) (pe_ix ix_list (pe_fld (pv 0) rfl) pe_int (fun _ _ => rfl)) (nomark _)))))), v_Fewest_shows T_Fewest h⟩
theorem ok__law_right {C_Fewest : Addr} {f : Addr} {fd : FuncData} (F : Fun K "_law_right" "_law_right" s__law_right f fd) (T : Blt mg) (T_Fewest : KFewest K C_Fewest) (c_Fewest : Ctr P w K mg base "Fewest" C_Fewest 1 ["self", "orders", "marks"] (sp_Fewest___init__ C_Fewest)) (c__law_is_fewest : Dfn P w K mg base "_law_is_fewest" 2 ["_law_ups_here", "_law_orders", "_law_marks"] sp__law_is_fewest) (c__law_says : Dfn P w K mg base "_law_says" 1 ["_law_said", "_law_due"] sp__law_says) (c_Fewest_shows : Mth P w K mg base C_Fewest "shows" 2 ["self", "ups"] (sp_Fewest_shows C_Fewest)) : FnOk P w K mg base CX0 3 f fd ["_law_ups_here", "_law_orders", "_law_marks"] sp__law_right_k02 := by
  refine F.ok sc__law_right (fun vs H Q E h => ?_) (fun cdv A outer s H vs Q E hr h => ?_)
  · (repeat (obtain ⟨_, h⟩ := h)); subst_vars; rfl
  · obtain ⟨f_Fewest_shows, fd_Fewest_shows, m_Fewest_shows, b_Fewest_shows, G_Fewest_shows⟩ := c_Fewest_shows.ex
    refine ⟨t__law_right_k02 K C_Fewest,
    (pss_cons (ps_set (i := 4) sc__law_right.nd rfl (by first | exact Or.inl rfl | exact Or.inr rfl) (pe_lst (pa_cons (pe_lc (own := [("_law_row", 3)]) (by rfl) sc__law_right.nd (pi_list (pv 1)) (blkOk_by (own := [("_law_row", 3)]) (N := ["_law_ups_here", "_law_orders", "_law_marks", "_law_row", "_law_handed", "_law_built", "_law_again", "_law_due"]) (sc := defScope s__law_right) (by decide +kernel)) (fun _ _ _ _ _ => (pg_name (i := 3) sc__law_right.nd rfl (by first | exact Or.inl rfl | exact Or.inr rfl))) (fun _ _ _ _ _ => pts_nil) (fun _ _ _ _ _ => (pe_callTy call_list_of (by rfl) T.list (by decide +kernel) (pa_cons (pv 3) pa_nil)))) (pa_cons (pe_callTy call_list_of (by rfl) T.list (by decide +kernel) (pa_cons (pv 2) pa_nil)) pa_nil))))
    (pss_cons (ps_par (i := 5) (j := 6) (by rfl) sc__law_right.nd rfl rfl (by decide) rfl rfl (pa_cons (pe_makeD c_Fewest hr (by decide) (by rfl) (pa_cons (pe_ix ix_list (pv 4) pe_int (fun _ _ => rfl)) (pa_cons (pe_ix ix_list (pv 4) pe_int (fun _ _ => rfl)) pa_nil))) (pa_cons (pe_makeD c_Fewest hr (by decide) (by rfl) (pa_cons (pe_lst pa_nil) (pa_cons (pe_lst pa_nil) pa_nil))) pa_nil)) (by rfl))
    (pss_cons (ps_for PassesOwn.never rfl (pi_list (pe_op op_cat (pe_ix ix_list (pv 4) pe_int (fun _ _ => rfl)) (pe_slice sl_list (pv 4) (po_some pe_int) po_none))) (pg_name (i := 3) sc__law_right.nd rfl (by first | exact Or.inl rfl | exact Or.inr rfl))
    (pss_one (ps_expr (pe_bm PySem.F.plainAttrs_list PySem.F.slot_list_append PySem.F.type_list_append mt_append (pv 3) (pa_cons pe_int pa_nil)))))
    (pss_cons (ps_expr (pe_bm PySem.F.plainAttrs_list PySem.F.slot_list_append PySem.F.type_list_append mt_append (pe_ix ix_list (pv 4) pe_int (fun _ _ => rfl)) (pa_cons (pe_lst pa_nil) pa_nil)))
    (pss_cons (ps_expr (pe_bm PySem.F.plainAttrs_list PySem.F.slot_list_extend PySem.F.type_list_extend mt_extend (pe_fld (pv 6) rfl) (pa_cons (pv 1) pa_nil)))
    (pss_cons (ps_expr (pe_bm PySem.F.plainAttrs_list PySem.F.slot_list_extend PySem.F.type_list_extend mt_extend (pe_fld (pv 6) rfl) (pa_cons (pv 2) pa_nil)))
    (pss_cons (ps_set (i := 7) sc__law_right.nd rfl (by first | exact Or.inl rfl | exact Or.inr rfl) (pe_callD c__law_is_fewest hr (by decide) (by rfl) (pa_cons (pv 0) (pa_cons (pv 1) (pa_cons (pv 2) pa_nil)))))
    (pss_cons (ps_if (PW.pt (pw_or (pt_cmpR (op_neD hr.units) (pe_lst (pa_cons (pe_fld (pv 5) rfl) (pa_cons (pe_fld (pv 5) rfl) pa_nil))) (pe_lst (pa_cons (pv 1) (pa_cons (pv 2) pa_nil))) (nomark _)) (pw_or1 (pt_not (pt_val (pe_callD c__law_says hr (by decide) (by rfl) (pa_cons (pe_meth (pv 5) c_Fewest_shows.cl m_Fewest_shows G_Fewest_shows (hr.mono (by decide)) b_Fewest_shows .nil pass0 (pa_cons (pv 0) pa_nil)) (pa_cons (pv 7) pa_nil))))))))
    (pss_one (ps_ret pe_bl))
    pss_nil)
    (pss_one (ps_ret (pe_callD c__law_says hr (by decide) (by rfl) (pa_cons (pe_meth (pv 6) c_Fewest_shows.cl m_Fewest_shows G_Fewest_shows (hr.mono (by decide)) b_Fewest_shows .nil pass0 (pa_cons (pv 0) pa_nil)) (pa_cons (pv 7) pa_nil))))))))))))), v__law_right_k02 T_Fewest h⟩
theorem ok_law {C_Fewest : Addr} {f : Addr} {fd : FuncData} (F : Fun K "law" "law" s_law f fd) (T : Blt mg) (T_Fewest : KFewest K C_Fewest) (c__law_ups : Dfn P w K mg base "_law_ups" 2 ["_law_script", "_law_by", "_law_most"] (sp__law_ups K)) (c_fewest : Dfn P w K mg base "fewest" 4 ["ups"] (sp_fewest C_Fewest)) (c__law_called : Dfn P w K mg base "_law_called" 1 ["_law_ups_here"] sp__law_called) (c__law_lots : Dfn P w K mg base "_law_lots" 1 ["_law_orders", "_law_marks", "_law_at", "_law_whole"] sp__law_lots) (c__law_right : Dfn P w K mg base "_law_right" 3 ["_law_ups_here", "_law_orders", "_law_marks"] sp__law_right_k02) (c_Fewest : Ctr P w K mg base "Fewest" C_Fewest 1 ["self", "orders", "marks"] (sp_Fewest___init__ C_Fewest)) (c_Fewest_shows : Mth P w K mg base C_Fewest "shows" 2 ["self", "ups"] (sp_Fewest_shows C_Fewest)) : FnOk P w K mg base CX0 5 f fd ["_law_script"] (sp_law K) := by
  refine F.ok sc_law (fun vs H Q E h => ?_) (fun cdv A outer s H vs Q E hr h => ?_)
  · (repeat (obtain ⟨_, h⟩ := h)); subst_vars; rfl
  · obtain ⟨f_Fewest_shows, fd_Fewest_shows, m_Fewest_shows, b_Fewest_shows, G_Fewest_shows⟩ := c_Fewest_shows.ex
    refine ⟨t_law_k02 K C_Fewest,
    (pss_cons (ps_set (i := 1) sc_law.nd rfl (by first | exact Or.inl rfl | exact Or.inr rfl) (pe_callB (cr_sum (by rfl)) (by rfl) T.sum (by decide +kernel) (pa_cons (pe_slice sl_list (pv 0) po_none (po_some pe_int)) pa_nil)))
    (pss_cons (ps_for PassesOwn.never rfl (pi_range1 (by rfl) T.range (pa_cons pe_int pa_nil)) (pg_name (i := 2) sc_law.nd rfl (by first | exact Or.inl rfl | exact Or.inr rfl))
    (pss_cons (ps_set (i := 3) sc_law.nd rfl (by first | exact Or.inl rfl | exact Or.inr rfl) (pe_callD c__law_ups hr (by decide) (by rfl) (pa_cons (pv 0) (pa_cons (pv 2) (pa_cons (pe_ifExp (pt_cmpR op_eq (pe_op op_mod (pv 1) pe_int) (pv 2) (nomark _)) pe_int pe_int) pa_nil)))))
      (pss_cons (ps_set (i := 4) sc_law.nd rfl (by first | exact Or.inl rfl | exact Or.inr rfl) (pe_callD c_fewest hr (by decide) (by rfl) (pa_cons (pv 3) pa_nil)))
      (pss_cons (ps_par (i := 6) (j := 7) (by rfl) sc_law.nd rfl rfl (by decide) rfl rfl (pa_cons (pe_lc (own := [("_law_row", 5)]) (by rfl) sc_law.nd (pi_list (pe_fld (pv 4) rfl)) (blkOk_by (own := [("_law_row", 5)]) (N := ["_law_script", "_law_whole", "_law_by", "_law_ups_here", "_law_found", "_law_row", "_law_orders", "_law_marks", "_law_lots_here", "_law_at", "_law_some", "_law_others", "_law_few", "_law_rows", "_law_due"]) (sc := defScope s_law) (by decide +kernel)) (fun _ _ _ _ _ => (pg_name (i := 5) sc_law.nd rfl (by first | exact Or.inl rfl | exact Or.inr rfl))) (fun _ _ _ _ _ => pts_nil) (fun _ _ _ _ _ => (pe_callTy call_list_of (by rfl) T.list (by decide +kernel) (pa_cons (pv 5) pa_nil)))) (pa_cons (pe_callTy call_list_of (by rfl) T.list (by decide +kernel) (pa_cons (pe_fld (pv 4) rfl) pa_nil)) pa_nil)) (by rfl))
      (pss_cons (ps_set (i := 8) sc_law.nd rfl (by first | exact Or.inl rfl | exact Or.inr rfl) (pe_lst (pa_cons (pe_tup (pa_cons (pv 6) (pa_cons (pv 7) pa_nil))) (pa_cons (pe_tup (pa_cons (pv 6) (pa_cons (pe_op op_rep (pe_lst (pa_cons pe_int pa_nil)) (pe_callB call_len_seq (by rfl) T.len PySem.boot_len (pa_cons (pv 7) pa_nil))) pa_nil))) (pa_cons (pe_tup (pa_cons (pv 6) (pa_cons (pe_slice sl_list (pv 7) po_none (po_some (pe_un un_neg pe_int))) pa_nil))) (pa_cons (pe_tup (pa_cons (pv 6) (pa_cons (pe_op op_cat (pv 7) (pe_lst (pa_cons pe_int pa_nil))) pa_nil))) pa_nil))))))
      (pss_cons (ps_set (i := 8) sc_law.nd rfl (by first | exact Or.inl rfl | exact Or.inr rfl) (pe_op op_cat (pv 8) (pe_lst (pa_cons (pe_tup (pa_cons (pe_slice sl_list (pv 6) po_none (po_some (pe_un un_neg pe_int))) (pa_cons (pv 7) pa_nil))) (pa_cons (pe_tup (pa_cons (pe_op op_cat (pv 6) (pe_lst (pa_cons (pe_lst pa_nil) pa_nil))) (pa_cons (pv 7) pa_nil))) (pa_cons (pe_tup (pa_cons (pe_revL (pv 6)) (pa_cons (pv 7) pa_nil))) (pa_cons (pe_tup (pa_cons (pe_lst pa_nil) (pa_cons (pe_lst pa_nil) pa_nil))) (pa_cons (pe_tup (pa_cons (pe_lst pa_nil) (pa_cons (pv 7) pa_nil))) pa_nil))))))))
      (pss_cons (ps_set (i := 8) sc_law.nd rfl (by first | exact Or.inl rfl | exact Or.inr rfl) (pe_op op_cat (pv 8) (pe_lst (pa_cons (pe_tup (pa_cons (pe_callD c__law_called hr (by decide) (by rfl) (pa_cons (pv 3) pa_nil)) (pa_cons (pv 7) pa_nil))) (pa_cons (pe_tup (pa_cons (pe_lc (own := [("_law_row", 5)]) (by rfl) sc_law.nd (pi_list (pe_callD c__law_called hr (by decide) (by rfl) (pa_cons (pv 3) pa_nil))) (blkOk_by (own := [("_law_row", 5)]) (N := ["_law_script", "_law_whole", "_law_by", "_law_ups_here", "_law_found", "_law_row", "_law_orders", "_law_marks", "_law_lots_here", "_law_at", "_law_some", "_law_others", "_law_few", "_law_rows", "_law_due"]) (sc := defScope s_law) (by decide +kernel)) (fun _ _ _ _ _ => (pg_name (i := 5) sc_law.nd rfl (by first | exact Or.inl rfl | exact Or.inr rfl))) (fun _ _ _ _ _ => pts_nil) (fun _ _ _ _ _ => (pe_revL (pv 5)))) (pa_cons (pv 7) pa_nil))) pa_nil)))))
      (pss_cons (ps_for PassesOwn.never rfl (pi_tup (pe_tup (pa_cons pe_int (pa_cons (pe_op op_mod (pe_op op_fdiv (pv 1) pe_int) (pe_callB call_len_seq (by rfl) T.len PySem.boot_len (pa_cons (pv 6) pa_nil))) (pa_cons (pe_op op_sub (pe_callB call_len_seq (by rfl) T.len PySem.boot_len (pa_cons (pv 6) pa_nil)) pe_int) (pa_cons (pe_ifExp (pt_cmpR (op_neD hr.units) (pv 3) (pe_lst pa_nil) (nomark _)) (pe_ix ix_list (pv 3) (pe_un un_neg pe_int) (fun _ _ => rfl)) pe_int) pa_nil)))))) (pg_name (i := 9) sc_law.nd rfl (by first | exact Or.inl rfl | exact Or.inr rfl))
      (pss_one (ps_set (i := 8) sc_law.nd rfl (by first | exact Or.inl rfl | exact Or.inr rfl) (pe_op op_cat (pv 8) (pe_callD c__law_lots hr (by decide) (by rfl) (pa_cons (pv 6) (pa_cons (pv 7) (pa_cons (pv 9) (pa_cons (pv 1) pa_nil)))))))))
      (pss_one (ps_for PassesOwn.never rfl (pi_list (pv 8)) (pg_tup (n := 2) rfl (pgs_cons (pg_name (i := 10) sc_law.nd rfl (by first | exact Or.inl rfl | exact Or.inr rfl)) (pgs_cons (pg_name (i := 11) sc_law.nd rfl (by first | exact Or.inl rfl | exact Or.inr rfl)) pgs_nil)))
      (pss_one (ps_if (pt_not (pt_val (pe_callD c__law_right hr (by decide) (by rfl) (pa_cons (pv 3) (pa_cons (pv 10) (pa_cons (pv 11) pa_nil))))))
        (pss_one (ps_ret pe_bl))
        pss_nil))))))))))))
    (pss_cons (ps_set (i := 12) sc_law.nd rfl (by first | exact Or.inl rfl | exact Or.inr rfl) (pe_lst (pa_cons (pe_lst (pa_cons pe_int (pa_cons pe_int pa_nil))) (pa_cons (pe_lst (pa_cons pe_int pa_nil)) (pa_cons (pe_lst pa_nil) (pa_cons (pe_lst pa_nil) pa_nil))))))
    (pss_cons (ps_set (i := 13) sc_law.nd rfl (by first | exact Or.inl rfl | exact Or.inr rfl) (pe_lst (pa_cons (pe_tup (pa_cons (pe_lst (pa_cons pe_int (pa_cons pe_int (pa_cons pe_int (pa_cons pe_int pa_nil))))) (pa_cons pe_bl pa_nil))) (pa_cons (pe_tup (pa_cons (pe_lst (pa_cons pe_int (pa_cons pe_int (pa_cons pe_int (pa_cons pe_int pa_nil))))) (pa_cons pe_bl pa_nil))) (pa_cons (pe_tup (pa_cons (pe_lst (pa_cons pe_int (pa_cons pe_int (pa_cons pe_int (pa_cons pe_int pa_nil))))) (pa_cons pe_bl pa_nil))) (pa_cons (pe_tup (pa_cons (pe_lst (pa_cons pe_int (pa_cons pe_int (pa_cons pe_int (pa_cons pe_int pa_nil))))) (pa_cons pe_bl pa_nil))) pa_nil))))))
    (pss_cons (ps_if (pt_cmpR (op_neD hr.units) (pe_lc (own := [("_law_marks", 7), ("_law_due", 14)]) (by rfl) sc_law.nd (pi_list (pv 13)) (blkOk_by (own := [("_law_marks", 7), ("_law_due", 14)]) (N := ["_law_script", "_law_whole", "_law_by", "_law_ups_here", "_law_found", "_law_row", "_law_orders", "_law_marks", "_law_lots_here", "_law_at", "_law_some", "_law_others", "_law_few", "_law_rows", "_law_due"]) (sc := defScope s_law) (by decide +kernel)) (fun _ _ _ _ _ => (pg_tup (n := 2) rfl (pgs_cons (pg_name (i := 7) sc_law.nd rfl (by first | exact Or.inl rfl | exact Or.inr rfl)) (pgs_cons (pg_name (i := 14) sc_law.nd rfl (by first | exact Or.inl rfl | exact Or.inr rfl)) pgs_nil)))) (fun _ _ _ _ _ => pts_nil) (fun _ _ _ _ _ => (pe_meth (pe_makeD c_Fewest hr (by decide) (by rfl) (pa_cons (pv 12) (pa_cons (pv 7) pa_nil))) c_Fewest_shows.cl m_Fewest_shows G_Fewest_shows (hr.mono (by decide)) b_Fewest_shows .nil pass0 (pa_cons (pe_lst (pa_cons pe_int (pa_cons pe_int (pa_cons pe_int pa_nil)))) pa_nil)))) (pe_lc (own := [("_law_marks", 7), ("_law_due", 14)]) (by rfl) sc_law.nd (pi_list (pv 13)) (blkOk_by (own := [("_law_marks", 7), ("_law_due", 14)]) (N := ["_law_script", "_law_whole", "_law_by", "_law_ups_here", "_law_found", "_law_row", "_law_orders", "_law_marks", "_law_lots_here", "_law_at", "_law_some", "_law_others", "_law_few", "_law_rows", "_law_due"]) (sc := defScope s_law) (by decide +kernel)) (fun _ _ _ _ _ => (pg_tup (n := 2) rfl (pgs_cons (pg_name (i := 7) sc_law.nd rfl (by first | exact Or.inl rfl | exact Or.inr rfl)) (pgs_cons (pg_name (i := 14) sc_law.nd rfl (by first | exact Or.inl rfl | exact Or.inr rfl)) pgs_nil)))) (fun _ _ _ _ _ => pts_nil) (fun _ _ _ _ _ => (pv 14))) (nomark _))
    (pss_one (ps_ret pe_bl))
    pss_nil)
    (pss_one (ps_ret (pe_and (pe_cmpR op_isBl (pe_meth (pe_makeD c_Fewest hr (by decide) (by rfl) (pa_cons (pe_lst (pa_cons (pe_lst (pa_cons pe_int (pa_cons pe_int pa_nil))) (pa_cons (pe_lst (pa_cons pe_int pa_nil)) (pa_cons (pe_lst pa_nil) (pa_cons (pe_lst pa_nil) pa_nil))))) (pa_cons (pe_lst (pa_cons pe_int (pa_cons pe_int (pa_cons pe_int (pa_cons pe_int pa_nil))))) pa_nil))) c_Fewest_shows.cl m_Fewest_shows G_Fewest_shows (hr.mono (by decide)) b_Fewest_shows .nil pass0 (pa_cons (pe_lst (pa_cons pe_int (pa_cons pe_int (pa_cons pe_int pa_nil)))) pa_nil)) pe_bl (nomark _)) (pe_one (pe_cmpR op_isBl (pe_meth (pe_makeD c_Fewest hr (by decide) (by rfl) (pa_cons (pe_lst (pa_cons (pe_lst pa_nil) pa_nil)) (pa_cons (pe_lst (pa_cons pe_int pa_nil)) pa_nil))) c_Fewest_shows.cl m_Fewest_shows G_Fewest_shows (hr.mono (by decide)) b_Fewest_shows .nil pass0 (pa_cons (pe_lst pa_nil) pa_nil)) pe_bl (nomark _))))))))))), v_law_k02 T_Fewest h⟩
end
theorem all_mk {l : PySem.W.OpenLaw} {w : World} {K : PySem.W.Frag} {h : Heap} {mg : Str → Option Value} {fa : Addr} (X : K.In h) (G : h.Ns mainGlobals mg) (hfa : mg "law" = some (.ref fa)) {C_Fewest : Addr} {tk_MOST_PEOPLE : Tok} {f__law_number : Addr} {od__law_number an__law_number : Option Addr} {sl__law_number : Array (Option Value)} {oc__law_number kV__law_number dc__law_number pm__law_number cd__law_number ct__law_number : Value} {f__law_ups : Addr} {od__law_ups an__law_ups : Option Addr} {sl__law_ups : Array (Option Value)} {oc__law_ups kV__law_ups dc__law_ups pm__law_ups cd__law_ups ct__law_ups : Value} {f_is_whole : Addr} {od_is_whole an_is_whole : Option Addr} {sl_is_whole : Array (Option Value)} {oc_is_whole kV_is_whole dc_is_whole pm_is_whole cd_is_whole ct_is_whole : Value} {f_is_between : Addr} {od_is_between an_is_between : Option Addr} {sl_is_between : Array (Option Value)} {oc_is_between kV_is_between dc_is_between pm_is_between cd_is_between ct_is_between : Value} {f_check_ups : Addr} {od_check_ups an_check_ups : Option Addr} {sl_check_ups : Array (Option Value)} {oc_check_ups kV_check_ups dc_check_ups pm_check_ups cd_check_ups ct_check_ups : Value} {f_called_by : Addr} {od_called_by an_called_by : Option Addr} {sl_called_by : Array (Option Value)} {oc_called_by kV_called_by dc_called_by pm_called_by cd_called_by ct_called_by : Value} {f_best_orders : Addr} {od_best_orders an_best_orders : Option Addr} {sl_best_orders : Array (Option Value)} {oc_best_orders kV_best_orders dc_best_orders pm_best_orders cd_best_orders ct_best_orders : Value} {f_Fewest___init__ : Addr} {od_Fewest___init__ an_Fewest___init__ : Option Addr} {sl_Fewest___init__ : Array (Option Value)} {oc_Fewest___init__ kV_Fewest___init__ dc_Fewest___init__ pm_Fewest___init__ cd_Fewest___init__ ct_Fewest___init__ : Value} {f_fewest : Addr} {od_fewest an_fewest : Option Addr} {sl_fewest : Array (Option Value)} {oc_fewest kV_fewest dc_fewest pm_fewest cd_fewest ct_fewest : Value} {f__law_called : Addr} {od__law_called an__law_called : Option Addr} {sl__law_called : Array (Option Value)} {oc__law_called kV__law_called dc__law_called pm__law_called cd__law_called ct__law_called : Value} {f__law_lots : Addr} {od__law_lots an__law_lots : Option Addr} {sl__law_lots : Array (Option Value)} {oc__law_lots kV__law_lots dc__law_lots pm__law_lots cd__law_lots ct__law_lots : Value} {f__law_are_marks : Addr} {od__law_are_marks an__law_are_marks : Option Addr} {sl__law_are_marks : Array (Option Value)} {oc__law_are_marks kV__law_are_marks dc__law_are_marks pm__law_are_marks cd__law_are_marks ct__law_are_marks : Value} {f__law_last : Addr} {od__law_last an__law_last : Option Addr} {sl__law_last : Array (Option Value)} {oc__law_last kV__law_last dc__law_last pm__law_last cd__law_last ct__law_last : Value} {f__law_is_fewest : Addr} {od__law_is_fewest an__law_is_fewest : Option Addr} {sl__law_is_fewest : Array (Option Value)} {oc__law_is_fewest kV__law_is_fewest dc__law_is_fewest pm__law_is_fewest cd__law_is_fewest ct__law_is_fewest : Value} {f__law_says : Addr} {od__law_says an__law_says : Option Addr} {sl__law_says : Array (Option Value)} {oc__law_says kV__law_says dc__law_says pm__law_says cd__law_says ct__law_says : Value} {f_is_mark : Addr} {od_is_mark an_is_mark : Option Addr} {sl_is_mark : Array (Option Value)} {oc_is_mark kV_is_mark dc_is_mark pm_is_mark cd_is_mark ct_is_mark : Value} {f_last_known : Addr} {od_last_known an_last_known : Option Addr} {sl_last_known : Array (Option Value)} {oc_last_known kV_last_known dc_last_known pm_last_known cd_last_known ct_last_known : Value} {f_Fewest_shows : Addr} {od_Fewest_shows an_Fewest_shows : Option Addr} {sl_Fewest_shows : Array (Option Value)} {oc_Fewest_shows kV_Fewest_shows dc_Fewest_shows pm_Fewest_shows cd_Fewest_shows ct_Fewest_shows : Value} {f__law_right : Addr} {od__law_right an__law_right : Option Addr} {sl__law_right : Array (Option Value)} {oc__law_right kV__law_right dc__law_right pm__law_right cd__law_right ct__law_right : Value} {f_law : Addr} {od_law an_law : Option Addr} {sl_law : Array (Option Value)} {oc_law kV_law dc_law pm_law cd_law ct_law : Value}
    (aC_Fewest : PySem.W.nsIn K mainGlobals "Fewest" = some (some (.ref C_Fewest)))
    (pg_Fewest : PySem.W.plainGet K C_Fewest Str.empty = true)
    (hd_Fewest : PySem.W.hasDictIn K C_Fewest = true)
    (po_Fewest : PySem.W.plainOver K C_Fewest = true)
    (sa_Fewest : PySem.W.findIn K (.ref C_Fewest) "__setattr__" = some (some (.builtin "object.__setattr__")))
    (mk_Fewest : PySem.W.makesIn K C_Fewest = true)
    (kc_Fewest : PySem.W.keepIn K (.ref C_Fewest) = true)
    (n_Fewest_orders : PySem.W.findIn K (.ref C_Fewest) "orders" = some none)
    (n_Fewest_marks : PySem.W.findIn K (.ref C_Fewest) "marks" = some none)
    (a__law_number : PySem.W.nsIn K mainGlobals "_law_number" = some (some (.ref f__law_number)))
    (l__law_number : K.lookup f__law_number = some ⟨oc__law_number, od__law_number, .func (PySem.W.fnOf "_law_number" "_law_number" (defArgs s__law_number) (defBody s__law_number) (defScope s__law_number) .none kV__law_number dc__law_number pm__law_number an__law_number cd__law_number ct__law_number), sl__law_number⟩)
    (c__law_number : PySem.W.codeIn K cd__law_number "_law_number" = true)
    (k__law_number : PySem.W.keepIn K (.ref f__law_number) = true)
    (a__law_ups : PySem.W.nsIn K mainGlobals "_law_ups" = some (some (.ref f__law_ups)))
    (l__law_ups : K.lookup f__law_ups = some ⟨oc__law_ups, od__law_ups, .func (PySem.W.fnOf "_law_ups" "_law_ups" (defArgs s__law_ups) (defBody s__law_ups) (defScope s__law_ups) .none kV__law_ups dc__law_ups pm__law_ups an__law_ups cd__law_ups ct__law_ups), sl__law_ups⟩)
    (c__law_ups : PySem.W.codeIn K cd__law_ups "_law_ups" = true)
    (k__law_ups : PySem.W.keepIn K (.ref f__law_ups) = true)
    (a_is_whole : PySem.W.nsIn K mainGlobals "is_whole" = some (some (.ref f_is_whole)))
    (l_is_whole : K.lookup f_is_whole = some ⟨oc_is_whole, od_is_whole, .func (PySem.W.fnOf "is_whole" "is_whole" (defArgs s_is_whole) (defBody s_is_whole) (defScope s_is_whole) .none kV_is_whole dc_is_whole pm_is_whole an_is_whole cd_is_whole ct_is_whole), sl_is_whole⟩)
    (c_is_whole : PySem.W.codeIn K cd_is_whole "is_whole" = true)
    (k_is_whole : PySem.W.keepIn K (.ref f_is_whole) = true)
    (a_is_between : PySem.W.nsIn K mainGlobals "is_between" = some (some (.ref f_is_between)))
    (l_is_between : K.lookup f_is_between = some ⟨oc_is_between, od_is_between, .func (PySem.W.fnOf "is_between" "is_between" (defArgs s_is_between) (defBody s_is_between) (defScope s_is_between) .none kV_is_between dc_is_between pm_is_between an_is_between cd_is_between ct_is_between), sl_is_between⟩)
    (c_is_between : PySem.W.codeIn K cd_is_between "is_between" = true)
    (k_is_between : PySem.W.keepIn K (.ref f_is_between) = true)
    (a_check_ups : PySem.W.nsIn K mainGlobals "check_ups" = some (some (.ref f_check_ups)))
    (l_check_ups : K.lookup f_check_ups = some ⟨oc_check_ups, od_check_ups, .func (PySem.W.fnOf "check_ups" "check_ups" (defArgs s_check_ups) (defBody s_check_ups) (defScope s_check_ups) .none kV_check_ups dc_check_ups pm_check_ups an_check_ups cd_check_ups ct_check_ups), sl_check_ups⟩)
    (c_check_ups : PySem.W.codeIn K cd_check_ups "check_ups" = true)
    (k_check_ups : PySem.W.keepIn K (.ref f_check_ups) = true)
    (a_called_by : PySem.W.nsIn K mainGlobals "called_by" = some (some (.ref f_called_by)))
    (l_called_by : K.lookup f_called_by = some ⟨oc_called_by, od_called_by, .func (PySem.W.fnOf "called_by" "called_by" (defArgs s_called_by) (defBody s_called_by) (defScope s_called_by) .none kV_called_by dc_called_by pm_called_by an_called_by cd_called_by ct_called_by), sl_called_by⟩)
    (c_called_by : PySem.W.codeIn K cd_called_by "called_by" = true)
    (k_called_by : PySem.W.keepIn K (.ref f_called_by) = true)
    (a_best_orders : PySem.W.nsIn K mainGlobals "best_orders" = some (some (.ref f_best_orders)))
    (l_best_orders : K.lookup f_best_orders = some ⟨oc_best_orders, od_best_orders, .func (PySem.W.fnOf "best_orders" "best_orders" (defArgs s_best_orders) (defBody s_best_orders) (defScope s_best_orders) .none kV_best_orders dc_best_orders pm_best_orders an_best_orders cd_best_orders ct_best_orders), sl_best_orders⟩)
    (c_best_orders : PySem.W.codeIn K cd_best_orders "best_orders" = true)
    (k_best_orders : PySem.W.keepIn K (.ref f_best_orders) = true)
    (a_Fewest___init__ : PySem.W.findIn K (.ref C_Fewest) "__init__" = some (some (.ref f_Fewest___init__)))
    (i_Fewest___init__ : PySem.W.isFn K (.ref f_Fewest___init__) = true)
    (l_Fewest___init__ : K.lookup f_Fewest___init__ = some ⟨oc_Fewest___init__, od_Fewest___init__, .func (PySem.W.fnOf "__init__" "Fewest.__init__" (defArgs s_Fewest___init__) (defBody s_Fewest___init__) (defScope s_Fewest___init__) .none kV_Fewest___init__ dc_Fewest___init__ pm_Fewest___init__ an_Fewest___init__ cd_Fewest___init__ ct_Fewest___init__), sl_Fewest___init__⟩)
    (c_Fewest___init__ : PySem.W.codeIn K cd_Fewest___init__ "Fewest.__init__" = true)
    (k_Fewest___init__ : PySem.W.keepIn K (.ref f_Fewest___init__) = true)
    (a_fewest : PySem.W.nsIn K mainGlobals "fewest" = some (some (.ref f_fewest)))
    (l_fewest : K.lookup f_fewest = some ⟨oc_fewest, od_fewest, .func (PySem.W.fnOf "fewest" "fewest" (defArgs s_fewest) (defBody s_fewest) (defScope s_fewest) .none kV_fewest dc_fewest pm_fewest an_fewest cd_fewest ct_fewest), sl_fewest⟩)
    (c_fewest : PySem.W.codeIn K cd_fewest "fewest" = true)
    (k_fewest : PySem.W.keepIn K (.ref f_fewest) = true)
    (a__law_called : PySem.W.nsIn K mainGlobals "_law_called" = some (some (.ref f__law_called)))
    (l__law_called : K.lookup f__law_called = some ⟨oc__law_called, od__law_called, .func (PySem.W.fnOf "_law_called" "_law_called" (defArgs s__law_called) (defBody s__law_called) (defScope s__law_called) .none kV__law_called dc__law_called pm__law_called an__law_called cd__law_called ct__law_called), sl__law_called⟩)
    (c__law_called : PySem.W.codeIn K cd__law_called "_law_called" = true)
    (k__law_called : PySem.W.keepIn K (.ref f__law_called) = true)
    (a__law_lots : PySem.W.nsIn K mainGlobals "_law_lots" = some (some (.ref f__law_lots)))
    (l__law_lots : K.lookup f__law_lots = some ⟨oc__law_lots, od__law_lots, .func (PySem.W.fnOf "_law_lots" "_law_lots" (defArgs s__law_lots) (defBody s__law_lots) (defScope s__law_lots) .none kV__law_lots dc__law_lots pm__law_lots an__law_lots cd__law_lots ct__law_lots), sl__law_lots⟩)
    (c__law_lots : PySem.W.codeIn K cd__law_lots "_law_lots" = true)
    (k__law_lots : PySem.W.keepIn K (.ref f__law_lots) = true)
    (a__law_are_marks : PySem.W.nsIn K mainGlobals "_law_are_marks" = some (some (.ref f__law_are_marks)))
    (l__law_are_marks : K.lookup f__law_are_marks = some ⟨oc__law_are_marks, od__law_are_marks, .func (PySem.W.fnOf "_law_are_marks" "_law_are_marks" (defArgs s__law_are_marks) (defBody s__law_are_marks) (defScope s__law_are_marks) .none kV__law_are_marks dc__law_are_marks pm__law_are_marks an__law_are_marks cd__law_are_marks ct__law_are_marks), sl__law_are_marks⟩)
    (c__law_are_marks : PySem.W.codeIn K cd__law_are_marks "_law_are_marks" = true)
    (k__law_are_marks : PySem.W.keepIn K (.ref f__law_are_marks) = true)
    (a__law_last : PySem.W.nsIn K mainGlobals "_law_last" = some (some (.ref f__law_last)))
    (l__law_last : K.lookup f__law_last = some ⟨oc__law_last, od__law_last, .func (PySem.W.fnOf "_law_last" "_law_last" (defArgs s__law_last) (defBody s__law_last) (defScope s__law_last) .none kV__law_last dc__law_last pm__law_last an__law_last cd__law_last ct__law_last), sl__law_last⟩)
    (c__law_last : PySem.W.codeIn K cd__law_last "_law_last" = true)
    (k__law_last : PySem.W.keepIn K (.ref f__law_last) = true)
    (a__law_is_fewest : PySem.W.nsIn K mainGlobals "_law_is_fewest" = some (some (.ref f__law_is_fewest)))
    (l__law_is_fewest : K.lookup f__law_is_fewest = some ⟨oc__law_is_fewest, od__law_is_fewest, .func (PySem.W.fnOf "_law_is_fewest" "_law_is_fewest" (defArgs s__law_is_fewest) (defBody s__law_is_fewest) (defScope s__law_is_fewest) .none kV__law_is_fewest dc__law_is_fewest pm__law_is_fewest an__law_is_fewest cd__law_is_fewest ct__law_is_fewest), sl__law_is_fewest⟩)
    (c__law_is_fewest : PySem.W.codeIn K cd__law_is_fewest "_law_is_fewest" = true)
    (k__law_is_fewest : PySem.W.keepIn K (.ref f__law_is_fewest) = true)
    (a__law_says : PySem.W.nsIn K mainGlobals "_law_says" = some (some (.ref f__law_says)))
    (l__law_says : K.lookup f__law_says = some ⟨oc__law_says, od__law_says, .func (PySem.W.fnOf "_law_says" "_law_says" (defArgs s__law_says) (defBody s__law_says) (defScope s__law_says) .none kV__law_says dc__law_says pm__law_says an__law_says cd__law_says ct__law_says), sl__law_says⟩)
    (c__law_says : PySem.W.codeIn K cd__law_says "_law_says" = true)
    (k__law_says : PySem.W.keepIn K (.ref f__law_says) = true)
    (a_is_mark : PySem.W.nsIn K mainGlobals "is_mark" = some (some (.ref f_is_mark)))
    (l_is_mark : K.lookup f_is_mark = some ⟨oc_is_mark, od_is_mark, .func (PySem.W.fnOf "is_mark" "is_mark" (defArgs s_is_mark) (defBody s_is_mark) (defScope s_is_mark) .none kV_is_mark dc_is_mark pm_is_mark an_is_mark cd_is_mark ct_is_mark), sl_is_mark⟩)
    (c_is_mark : PySem.W.codeIn K cd_is_mark "is_mark" = true)
    (k_is_mark : PySem.W.keepIn K (.ref f_is_mark) = true)
    (a_last_known : PySem.W.nsIn K mainGlobals "last_known" = some (some (.ref f_last_known)))
    (l_last_known : K.lookup f_last_known = some ⟨oc_last_known, od_last_known, .func (PySem.W.fnOf "last_known" "last_known" (defArgs s_last_known) (defBody s_last_known) (defScope s_last_known) .none kV_last_known dc_last_known pm_last_known an_last_known cd_last_known ct_last_known), sl_last_known⟩)
    (c_last_known : PySem.W.codeIn K cd_last_known "last_known" = true)
    (k_last_known : PySem.W.keepIn K (.ref f_last_known) = true)
    (a_Fewest_shows : PySem.W.findIn K (.ref C_Fewest) "shows" = some (some (.ref f_Fewest_shows)))
    (i_Fewest_shows : PySem.W.isFn K (.ref f_Fewest_shows) = true)
    (l_Fewest_shows : K.lookup f_Fewest_shows = some ⟨oc_Fewest_shows, od_Fewest_shows, .func (PySem.W.fnOf "shows" "Fewest.shows" (defArgs s_Fewest_shows) (defBody s_Fewest_shows) (defScope s_Fewest_shows) .none kV_Fewest_shows dc_Fewest_shows pm_Fewest_shows an_Fewest_shows cd_Fewest_shows ct_Fewest_shows), sl_Fewest_shows⟩)
    (c_Fewest_shows : PySem.W.codeIn K cd_Fewest_shows "Fewest.shows" = true)
    (k_Fewest_shows : PySem.W.keepIn K (.ref f_Fewest_shows) = true)
    (a__law_right : PySem.W.nsIn K mainGlobals "_law_right" = some (some (.ref f__law_right)))
    (l__law_right : K.lookup f__law_right = some ⟨oc__law_right, od__law_right, .func (PySem.W.fnOf "_law_right" "_law_right" (defArgs s__law_right) (defBody s__law_right) (defScope s__law_right) .none kV__law_right dc__law_right pm__law_right an__law_right cd__law_right ct__law_right), sl__law_right⟩)
    (c__law_right : PySem.W.codeIn K cd__law_right "_law_right" = true)
    (k__law_right : PySem.W.keepIn K (.ref f__law_right) = true)
    (a_law : PySem.W.nsIn K mainGlobals "law" = some (some (.ref f_law)))
    (l_law : K.lookup f_law = some ⟨oc_law, od_law, .func (PySem.W.fnOf "law" "law" (defArgs s_law) (defBody s_law) (defScope s_law) .none kV_law dc_law pm_law an_law cd_law ct_law), sl_law⟩)
    (c_law : PySem.W.codeIn K cd_law "law" = true)
    (k_law : PySem.W.keepIn K (.ref f_law) = true)
    (mT_MOST_PEOPLE : PySem.W.nsIn K mainGlobals "MOST_PEOPLE" = some (some (.int 40 tk_MOST_PEOPLE)))
    (z_len : PySem.W.nsIn K mainGlobals "len" = some none)
    (z_range : PySem.W.nsIn K mainGlobals "range" = some none)
    (z_enumerate : PySem.W.nsIn K mainGlobals "enumerate" = some none)
    (z_sorted : PySem.W.nsIn K mainGlobals "sorted" = some none)
    (z_max : PySem.W.nsIn K mainGlobals "max" = some none)
    (z_min : PySem.W.nsIn K mainGlobals "min" = some none)
    (z_sum : PySem.W.nsIn K mainGlobals "sum" = some none)
    (z_list : PySem.W.nsIn K mainGlobals "list" = some none)
    (z_all : PySem.W.nsIn K mainGlobals "all" = some none)
    (z_any : PySem.W.nsIn K mainGlobals "any" = some none)
    (z_isinstance : PySem.W.nsIn K mainGlobals "isinstance" = some none)
    (z_zip : PySem.W.nsIn K mainGlobals "zip" = some none)
    (z_abs : PySem.W.nsIn K mainGlobals "abs" = some none)
    (z_int : PySem.W.nsIn K mainGlobals "int" = some none)
    (z_bool : PySem.W.nsIn K mainGlobals "bool" = some none)
    (z_tuple : PySem.W.nsIn K mainGlobals "tuple" = some none)
    (z_set : PySem.W.nsIn K mainGlobals "set" = some none)
    (z_str : PySem.W.nsIn K mainGlobals "str" = some none) :
    ∃ fd : FuncData, (∀ (s : Shared) (v : Value), BindsTo s fd ⟨[v], []⟩ [("_law_script", v)]) ∧ ∀ base : Heap, K.In base → base.Ns mainGlobals mg → FnOk l.prog w K mg base CX0 5 fa fd ["_law_script"] (sp_law K) := by
  have e := hfa.symm.trans (PySem.W.mg_of X G a_law)
  cases e
  have T : Blt mg := ⟨PySem.W.mg_none_of X G z_len, PySem.W.mg_none_of X G z_range, PySem.W.mg_none_of X G z_enumerate, PySem.W.mg_none_of X G z_sorted, PySem.W.mg_none_of X G z_max, PySem.W.mg_none_of X G z_min, PySem.W.mg_none_of X G z_sum, PySem.W.mg_none_of X G z_list, PySem.W.mg_none_of X G z_all, PySem.W.mg_none_of X G z_any, PySem.W.mg_none_of X G z_isinstance, PySem.W.mg_none_of X G z_zip, PySem.W.mg_none_of X G z_abs, PySem.W.mg_none_of X G z_int, PySem.W.mg_none_of X G z_bool, PySem.W.mg_none_of X G z_tuple, PySem.W.mg_none_of X G z_set, PySem.W.mg_none_of X G z_str⟩
  have M_Fewest : mg "Fewest" = some (.ref C_Fewest) := PySem.W.mg_of X G aC_Fewest
  have cl_Fewest : Cls K C_Fewest := ⟨pg_Fewest, hd_Fewest, po_Fewest, sa_Fewest⟩
  have T_Fewest : KFewest K C_Fewest := ⟨cl_Fewest, n_Fewest_orders, n_Fewest_marks⟩
  have M_MOST_PEOPLE : mg "MOST_PEOPLE" = some (.int 40 tk_MOST_PEOPLE) := PySem.W.mg_of X G mT_MOST_PEOPLE
  have F__law_number := fun_mk (st := s__law_number) l__law_number c__law_number k__law_number
  have b__law_number := F__law_number.binds (ps := ["_law_cell", "_law_at", "_law_whole"]) fun _ _ _ _ _ _ us hl => match us, hl with | [_, _, _], _ => rfl
  have F__law_ups := fun_mk (st := s__law_ups) l__law_ups c__law_ups k__law_ups
  have b__law_ups := F__law_ups.binds (ps := ["_law_script", "_law_by", "_law_most"]) fun _ _ _ _ _ _ us hl => match us, hl with | [_, _, _], _ => rfl
  have F_is_whole := fun_mk (st := s_is_whole) l_is_whole c_is_whole k_is_whole
  have b_is_whole := F_is_whole.binds (ps := ["thing"]) fun _ _ _ _ _ _ us hl => match us, hl with | [_], _ => rfl
  have F_is_between := fun_mk (st := s_is_between) l_is_between c_is_between k_is_between
  have b_is_between := F_is_between.binds (ps := ["thing", "least", "most"]) fun _ _ _ _ _ _ us hl => match us, hl with | [_, _, _], _ => rfl
  have F_check_ups := fun_mk (st := s_check_ups) l_check_ups c_check_ups k_check_ups
  have b_check_ups := F_check_ups.binds (ps := ["ups"]) fun _ _ _ _ _ _ us hl => match us, hl with | [_], _ => rfl
  have F_called_by := fun_mk (st := s_called_by) l_called_by c_called_by k_called_by
  have b_called_by := F_called_by.binds (ps := ["ups"]) fun _ _ _ _ _ _ us hl => match us, hl with | [_], _ => rfl
  have F_best_orders := fun_mk (st := s_best_orders) l_best_orders c_best_orders k_best_orders
  have b_best_orders := F_best_orders.binds (ps := ["ups"]) fun _ _ _ _ _ _ us hl => match us, hl with | [_], _ => rfl
  have F_Fewest___init__ := fun_mk (st := s_Fewest___init__) l_Fewest___init__ c_Fewest___init__ k_Fewest___init__
  have b_Fewest___init__ := F_Fewest___init__.binds (ps := ["self", "orders", "marks"]) fun _ _ _ _ _ _ us hl => match us, hl with | [_, _, _], _ => rfl
  have F_fewest := fun_mk (st := s_fewest) l_fewest c_fewest k_fewest
  have b_fewest := F_fewest.binds (ps := ["ups"]) fun _ _ _ _ _ _ us hl => match us, hl with | [_], _ => rfl
  have F__law_called := fun_mk (st := s__law_called) l__law_called c__law_called k__law_called
  have b__law_called := F__law_called.binds (ps := ["_law_ups_here"]) fun _ _ _ _ _ _ us hl => match us, hl with | [_], _ => rfl
  have F__law_lots := fun_mk (st := s__law_lots) l__law_lots c__law_lots k__law_lots
  have b__law_lots := F__law_lots.binds (ps := ["_law_orders", "_law_marks", "_law_at", "_law_whole"]) fun _ _ _ _ _ _ us hl => match us, hl with | [_, _, _, _], _ => rfl
  have F__law_are_marks := fun_mk (st := s__law_are_marks) l__law_are_marks c__law_are_marks k__law_are_marks
  have b__law_are_marks := F__law_are_marks.binds (ps := ["_law_orders", "_law_marks"]) fun _ _ _ _ _ _ us hl => match us, hl with | [_, _], _ => rfl
  have F__law_last := fun_mk (st := s__law_last) l__law_last c__law_last k__law_last
  have b__law_last := F__law_last.binds (ps := ["_law_orders"]) fun _ _ _ _ _ _ us hl => match us, hl with | [_], _ => rfl
  have F__law_is_fewest := fun_mk (st := s__law_is_fewest) l__law_is_fewest c__law_is_fewest k__law_is_fewest
  have b__law_is_fewest := F__law_is_fewest.binds (ps := ["_law_ups_here", "_law_orders", "_law_marks"]) fun _ _ _ _ _ _ us hl => match us, hl with | [_, _, _], _ => rfl
  have F__law_says := fun_mk (st := s__law_says) l__law_says c__law_says k__law_says
  have b__law_says := F__law_says.binds (ps := ["_law_said", "_law_due"]) fun _ _ _ _ _ _ us hl => match us, hl with | [_, _], _ => rfl
  have F_is_mark := fun_mk (st := s_is_mark) l_is_mark c_is_mark k_is_mark
  have b_is_mark := F_is_mark.binds (ps := ["orders", "marks", "person"]) fun _ _ _ _ _ _ us hl => match us, hl with | [_, _, _], _ => rfl
  have F_last_known := fun_mk (st := s_last_known) l_last_known c_last_known k_last_known
  have b_last_known := F_last_known.binds (ps := ["orders"]) fun _ _ _ _ _ _ us hl => match us, hl with | [_], _ => rfl
  have F_Fewest_shows := fun_mk (st := s_Fewest_shows) l_Fewest_shows c_Fewest_shows k_Fewest_shows
  have b_Fewest_shows := F_Fewest_shows.binds (ps := ["self", "ups"]) fun _ _ _ _ _ _ us hl => match us, hl with | [_, _], _ => rfl
  have F__law_right := fun_mk (st := s__law_right) l__law_right c__law_right k__law_right
  have b__law_right := F__law_right.binds (ps := ["_law_ups_here", "_law_orders", "_law_marks"]) fun _ _ _ _ _ _ us hl => match us, hl with | [_, _, _], _ => rfl
  have F_law := fun_mk (st := s_law) l_law c_law k_law
  refine ⟨PySem.W.fnOf "law" "law" (defArgs s_law) (defBody s_law) (defScope s_law) .none kV_law dc_law pm_law an_law cd_law ct_law, fun s v => .of_eq rfl, fun base _ _ => ?_⟩
  have o__law_number := ok__law_number (P := l.prog) (w := w) (base := base) F__law_number T
  have c__law_number : Dfn l.prog w K mg base "_law_number" 1 ["_law_cell", "_law_at", "_law_whole"] sp__law_number := ⟨_, _, PySem.W.mg_of X G a__law_number, k__law_number, b__law_number, o__law_number⟩
  have o__law_ups := ok__law_ups (P := l.prog) (w := w) (base := base) F__law_ups T c__law_number
  have c__law_ups : Dfn l.prog w K mg base "_law_ups" 2 ["_law_script", "_law_by", "_law_most"] (sp__law_ups K) := ⟨_, _, PySem.W.mg_of X G a__law_ups, k__law_ups, b__law_ups, o__law_ups⟩
  have o_is_whole := ok_is_whole (P := l.prog) (w := w) (base := base) F_is_whole T
  have c_is_whole : Dfn l.prog w K mg base "is_whole" 1 ["thing"] sp_is_whole := ⟨_, _, PySem.W.mg_of X G a_is_whole, k_is_whole, b_is_whole, o_is_whole⟩
  have o_is_between := ok_is_between (P := l.prog) (w := w) (base := base) F_is_between T c_is_whole
  have c_is_between : Dfn l.prog w K mg base "is_between" 2 ["thing", "least", "most"] sp_is_between := ⟨_, _, PySem.W.mg_of X G a_is_between, k_is_between, b_is_between, o_is_between⟩
  have o_check_ups := ok_check_ups (P := l.prog) (w := w) (base := base) F_check_ups T M_MOST_PEOPLE c_is_between
  have c_check_ups : Dfn l.prog w K mg base "check_ups" 3 ["ups"] sp_check_ups := ⟨_, _, PySem.W.mg_of X G a_check_ups, k_check_ups, b_check_ups, o_check_ups⟩
  have o_called_by := ok_called_by (P := l.prog) (w := w) (base := base) F_called_by T
  have c_called_by : Dfn l.prog w K mg base "called_by" 1 ["ups"] sp_called_by := ⟨_, _, PySem.W.mg_of X G a_called_by, k_called_by, b_called_by, o_called_by⟩
  have o_best_orders := ok_best_orders (P := l.prog) (w := w) (base := base) F_best_orders T c_called_by
  have c_best_orders : Dfn l.prog w K mg base "best_orders" 2 ["ups"] sp_best_orders := ⟨_, _, PySem.W.mg_of X G a_best_orders, k_best_orders, b_best_orders, o_best_orders⟩
  have o_Fewest___init__ := ok_Fewest___init__ (P := l.prog) (w := w) (base := base) F_Fewest___init__ T T_Fewest
  have c_Fewest : Ctr l.prog w K mg base "Fewest" C_Fewest 1 ["self", "orders", "marks"] (sp_Fewest___init__ C_Fewest) := ⟨M_Fewest, _, _, ⟨mk_Fewest, a_Fewest___init__, i_Fewest___init__, kc_Fewest⟩, b_Fewest___init__, o_Fewest___init__⟩
  have o_fewest := ok_fewest (P := l.prog) (w := w) (base := base) F_fewest T c_check_ups c_best_orders c_Fewest
  have c_fewest : Dfn l.prog w K mg base "fewest" 4 ["ups"] (sp_fewest C_Fewest) := ⟨_, _, PySem.W.mg_of X G a_fewest, k_fewest, b_fewest, o_fewest⟩
  have o__law_called := ok__law_called (P := l.prog) (w := w) (base := base) F__law_called T
  have c__law_called : Dfn l.prog w K mg base "_law_called" 1 ["_law_ups_here"] sp__law_called := ⟨_, _, PySem.W.mg_of X G a__law_called, k__law_called, b__law_called, o__law_called⟩
  have o__law_lots := ok__law_lots (P := l.prog) (w := w) (base := base) F__law_lots T
  have c__law_lots : Dfn l.prog w K mg base "_law_lots" 1 ["_law_orders", "_law_marks", "_law_at", "_law_whole"] sp__law_lots := ⟨_, _, PySem.W.mg_of X G a__law_lots, k__law_lots, b__law_lots, o__law_lots⟩
  have o__law_are_marks := ok__law_are_marks (P := l.prog) (w := w) (base := base) F__law_are_marks T
  have c__law_are_marks : Dfn l.prog w K mg base "_law_are_marks" 1 ["_law_orders", "_law_marks"] sp__law_are_marks := ⟨_, _, PySem.W.mg_of X G a__law_are_marks, k__law_are_marks, b__law_are_marks, o__law_are_marks⟩
  have o__law_last := ok__law_last (P := l.prog) (w := w) (base := base) F__law_last T
  have c__law_last : Dfn l.prog w K mg base "_law_last" 1 ["_law_orders"] sp__law_last := ⟨_, _, PySem.W.mg_of X G a__law_last, k__law_last, b__law_last, o__law_last⟩
  have o__law_is_fewest := ok__law_is_fewest (P := l.prog) (w := w) (base := base) F__law_is_fewest T c__law_called c__law_are_marks c__law_last
  have c__law_is_fewest : Dfn l.prog w K mg base "_law_is_fewest" 2 ["_law_ups_here", "_law_orders", "_law_marks"] sp__law_is_fewest := ⟨_, _, PySem.W.mg_of X G a__law_is_fewest, k__law_is_fewest, b__law_is_fewest, o__law_is_fewest⟩
  have o__law_says := ok__law_says (P := l.prog) (w := w) (base := base) F__law_says T
  have c__law_says : Dfn l.prog w K mg base "_law_says" 1 ["_law_said", "_law_due"] sp__law_says := ⟨_, _, PySem.W.mg_of X G a__law_says, k__law_says, b__law_says, o__law_says⟩
  have o_is_mark := ok_is_mark (P := l.prog) (w := w) (base := base) F_is_mark T
  have c_is_mark : Dfn l.prog w K mg base "is_mark" 1 ["orders", "marks", "person"] sp_is_mark := ⟨_, _, PySem.W.mg_of X G a_is_mark, k_is_mark, b_is_mark, o_is_mark⟩
  have o_last_known := ok_last_known (P := l.prog) (w := w) (base := base) F_last_known T
  have c_last_known : Dfn l.prog w K mg base "last_known" 1 ["orders"] sp_last_known := ⟨_, _, PySem.W.mg_of X G a_last_known, k_last_known, b_last_known, o_last_known⟩
  have o_Fewest_shows := ok_Fewest_shows (P := l.prog) (w := w) (base := base) F_Fewest_shows T T_Fewest c_called_by c_is_mark c_last_known
  have c_Fewest_shows : Mth l.prog w K mg base C_Fewest "shows" 2 ["self", "ups"] (sp_Fewest_shows C_Fewest) := ⟨cl_Fewest, _, _, ⟨a_Fewest_shows, i_Fewest_shows, k_Fewest_shows⟩, b_Fewest_shows, o_Fewest_shows⟩
  have o__law_right := ok__law_right (P := l.prog) (w := w) (base := base) F__law_right T T_Fewest c_Fewest c__law_is_fewest c__law_says c_Fewest_shows
  have c__law_right : Dfn l.prog w K mg base "_law_right" 3 ["_law_ups_here", "_law_orders", "_law_marks"] sp__law_right_k02 := ⟨_, _, PySem.W.mg_of X G a__law_right, k__law_right, b__law_right, o__law_right⟩
  exact ok_law F_law T T_Fewest c__law_ups c_fewest c__law_called c__law_lots c__law_right c_Fewest c_Fewest_shows
theorem walk {l : PySem.W.OpenLaw} {q : Program} {loose : List Str} {XP : (Str → Option Value) → Heap → Prop} {YP : World → Heap → Prop} {d : DefRec} {K : Params → PySem.W.Frag} (hn : l.most = some 63) (hdf : d.params.defaults = [])
    (hY : ∀ (w : World) (h : Heap), YP w h → (K w.params).In h)
    (F : ∀ (w : World) (mg : Str → Option Value) (fa : Addr) (h : Heap), (K w.params).In h → h.Ns mainGlobals mg → mg d.name = some (.ref fa) →
      ∃ fd : FuncData, (∀ (s : Shared) (u : Value), BindsTo s fd ⟨[u], []⟩ [("_law_script", u)]) ∧ ∀ base : Heap, (K w.params).In base → base.Ns mainGlobals mg → FnOk l.prog w (K w.params) mg base CX0 5 fa fd ["_law_script"] (sp_law (K w.params))) :
    PySem.W.WalkO q loose XP YP l.row.toRowW d [] (fun f vs => PySem.call f vs) :=
  L2.walk_of (n := 63) (k := 5) (x := "_law_script") (CX := fun _ => CX0) (sp := fun w => sp_law (K w.params)) hn (by decide) hdf ⟨rfl, by decide, by decide⟩ hY F (fun _ _ a ns hl _ hS => ⟨a, ns, rfl, hS, hl, fun _ => rfl⟩) fun _ _ _ _ _ z => z
end Cc
open PySem PySem.W PyProof.Rows
set_option maxRecDepth 100000 in
set_option maxHeartbeats 0 in
theorem PySem.Challenge.cw_callchain_k02_fewest_by_hand_holds : PySem.Challenge.rw_callchain_k02_fewest_by_hand.Holds := by
  w_on; o_law; k_head; (case hw => w_witness2)
  k_fill
  refine Cc.walk (l := PySem.Challenge.rw_callchain_k02_fewest_by_hand) rfl rfl (fun w h Y => PySem.W.kIn_of Y) ?F
  case F =>
    intro w mg fa h KX G hmg
    refine' Cc.all_mk KX G hmg ?aC_Fewest ?pg_Fewest ?hd_Fewest ?po_Fewest ?sa_Fewest ?mk_Fewest ?kc_Fewest ?n_Fewest_orders ?n_Fewest_marks ?a__law_number ?l__law_number ?c__law_number ?k__law_number ?a__law_ups ?l__law_ups ?c__law_ups ?k__law_ups ?a_is_whole ?l_is_whole ?c_is_whole ?k_is_whole ?a_is_between ?l_is_between ?c_is_between ?k_is_between ?a_check_ups ?l_check_ups ?c_check_ups ?k_check_ups ?a_called_by ?l_called_by ?c_called_by ?k_called_by ?a_best_orders ?l_best_orders ?c_best_orders ?k_best_orders ?a_Fewest___init__ ?i_Fewest___init__ ?l_Fewest___init__ ?c_Fewest___init__ ?k_Fewest___init__ ?a_fewest ?l_fewest ?c_fewest ?k_fewest ?a__law_called ?l__law_called ?c__law_called ?k__law_called ?a__law_lots ?l__law_lots ?c__law_lots ?k__law_lots ?a__law_are_marks ?l__law_are_marks ?c__law_are_marks ?k__law_are_marks ?a__law_last ?l__law_last ?c__law_last ?k__law_last ?a__law_is_fewest ?l__law_is_fewest ?c__law_is_fewest ?k__law_is_fewest ?a__law_says ?l__law_says ?c__law_says ?k__law_says ?a_is_mark ?l_is_mark ?c_is_mark ?k_is_mark ?a_last_known ?l_last_known ?c_last_known ?k_last_known ?a_Fewest_shows ?i_Fewest_shows ?l_Fewest_shows ?c_Fewest_shows ?k_Fewest_shows ?a__law_right ?l__law_right ?c__law_right ?k__law_right ?a_law ?l_law ?c_law ?k_law ?mT_MOST_PEOPLE ?z_len ?z_range ?z_enumerate ?z_sorted ?z_max ?z_min ?z_sum ?z_list ?z_all ?z_any ?z_isinstance ?z_zip ?z_abs ?z_int ?z_bool ?z_tuple ?z_set ?z_str
    (case aC_Fewest => k_is)
    (case pg_Fewest => k_is)
    (case hd_Fewest => k_is)
    (case po_Fewest => k_is)
    (case sa_Fewest => k_is)
    (case mk_Fewest => k_is)
    (case kc_Fewest => k_is)
    (case n_Fewest_orders => k_is)
    (case n_Fewest_marks => k_is)
    (case a__law_number => k_is)
    (case l__law_number => k_is)
    (case c__law_number => k_is)
    (case k__law_number => k_is)
    (case a__law_ups => k_is)
    (case l__law_ups => k_is)
    (case c__law_ups => k_is)
    (case k__law_ups => k_is)
    (case a_is_whole => k_is)
    (case l_is_whole => k_is)
    (case c_is_whole => k_is)
    (case k_is_whole => k_is)
    (case a_is_between => k_is)
    (case l_is_between => k_is)
    (case c_is_between => k_is)
    (case k_is_between => k_is)
    (case a_check_ups => k_is)
    (case l_check_ups => k_is)
    (case c_check_ups => k_is)
    (case k_check_ups => k_is)
    (case a_called_by => k_is)
    (case l_called_by => k_is)
    (case c_called_by => k_is)
    (case k_called_by => k_is)
    (case a_best_orders => k_is)
    (case l_best_orders => k_is)
    (case c_best_orders => k_is)
    (case k_best_orders => k_is)
    (case a_Fewest___init__ => k_is)
    (case i_Fewest___init__ => k_is)
    (case l_Fewest___init__ => k_is)
    (case c_Fewest___init__ => k_is)
    (case k_Fewest___init__ => k_is)
    (case a_fewest => k_is)
    (case l_fewest => k_is)
    (case c_fewest => k_is)
    (case k_fewest => k_is)
    (case a__law_called => k_is)
    (case l__law_called => k_is)
    (case c__law_called => k_is)
    (case k__law_called => k_is)
    (case a__law_lots => k_is)
    (case l__law_lots => k_is)
    (case c__law_lots => k_is)
    (case k__law_lots => k_is)
    (case a__law_are_marks => k_is)
    (case l__law_are_marks => k_is)
    (case c__law_are_marks => k_is)
    (case k__law_are_marks => k_is)
    (case a__law_last => k_is)
    (case l__law_last => k_is)
    (case c__law_last => k_is)
    (case k__law_last => k_is)
    (case a__law_is_fewest => k_is)
    (case l__law_is_fewest => k_is)
    (case c__law_is_fewest => k_is)
    (case k__law_is_fewest => k_is)
    (case a__law_says => k_is)
    (case l__law_says => k_is)
    (case c__law_says => k_is)
    (case k__law_says => k_is)
    (case a_is_mark => k_is)
    (case l_is_mark => k_is)
    (case c_is_mark => k_is)
    (case k_is_mark => k_is)
    (case a_last_known => k_is)
    (case l_last_known => k_is)
    (case c_last_known => k_is)
    (case k_last_known => k_is)
    (case a_Fewest_shows => k_is)
    (case i_Fewest_shows => k_is)
    (case l_Fewest_shows => k_is)
    (case c_Fewest_shows => k_is)
    (case k_Fewest_shows => k_is)
    (case a__law_right => k_is)
    (case l__law_right => k_is)
    (case c__law_right => k_is)
    (case k__law_right => k_is)
    (case a_law => k_is)
    (case l_law => k_is)
    (case c_law => k_is)
    (case k_law => k_is)
    (case mT_MOST_PEOPLE => k_is)
    (case z_len => k_is)
    (case z_range => k_is)
    (case z_enumerate => k_is)
    (case z_sorted => k_is)
    (case z_max => k_is)
    (case z_min => k_is)
    (case z_sum => k_is)
    (case z_list => k_is)
    (case z_all => k_is)
    (case z_any => k_is)
    (case z_isinstance => k_is)
    (case z_zip => k_is)
    (case z_abs => k_is)
    (case z_int => k_is)
    (case z_bool => k_is)
    (case z_tuple => k_is)
    (case z_set => k_is)
    (case z_str => k_is)
#print axioms PySem.Challenge.cw_callchain_k02_fewest_by_hand_holds
