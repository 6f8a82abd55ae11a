import PyProof.Rows.All
import Wide.All
import OpenK.AllK
import Wide.FinOn
import HandS.ForMost
import HandS.Walk
import HandS.AnyAll
import KE.SortData
import KE.SortKeyHeap
import HandS.SortKw
import HandS.TupAny
import HandS.Deep
import HandS.IsInst
import HandS.Flow
import KE.GoesEnum
import HandS.Zip
import HandS.GenOver
import HandS.EndTab
import HandS.EndOwn
import PySem.Challenge.RW_kindhall_k53_whole_counts_of_marks
section
set_option Elab.async false
set_option linter.all false
set_option maxRecDepth 100000
/-! Pure data over the hand layer: what is frozen, how the heap grows, what a name's cell holds. -/
namespace Pi
open PySem PySem.Spec PyProof.Rows L2

/-- a name's cell: unbound; frozen data; a list that only this name holds -/
inductive Cell where
  | un
  | fr (d : PyData)
  | ow (ds : List PyData)
/-- what an expression gives: frozen data; a list that nobody else holds -/
inductive Res where
  | val (d : PyData)
  | new (ds : List PyData)
def Res.dat : Res → PyData
  | .val d => d
  | .new ds => .list ds
def Res.cell : Res → Cell
  | .val d => .fr d
  | .new ds => .ow ds
def Cell.isOw : Cell → Bool
  | .ow _ => true
  | _ => false

theorem str_ext {a b : Str} (h : a.cps = b.cps) : a = b := by cases a; cases b; cases h; rfl

/-! ### monotone readings -/
theorem Rd_mono {F F' : Hp} (h : ∀ a o, F a = some o → F' a = some o) {a : Addr} {u : HO} (r : Rd F a u) : Rd F' a u := by
  rcases r with r | ⟨o, r⟩
  · exact .inl (h _ _ r)
  · exact .inr ⟨o, h _ _ r⟩
theorem SqL_mono {K : PySem.W.Frag} {F F' : Hp} (h : ∀ a o, F a = some o → F' a = some o) {a : Addr} {xs : List V} (r : SqL K F a xs) : SqL K F' a xs := by
  rcases r with r | r
  · exact .inl (Rd_mono h r)
  · exact .inr r
theorem SqT_mono {K : PySem.W.Frag} {F F' : Hp} (h : ∀ a o, F a = some o → F' a = some o) {a : Addr} {xs : List V} (r : SqT K F a xs) : SqT K F' a xs := by
  rcases r with r | r
  · exact .inl (Rd_mono h r)
  · exact .inr r
mutual
/-- v reads as d in the frozen heap; the locked list (a script) is told as a dict of one entry -/
inductive Fd (F : Hp) : V → PyData → Prop
  | non : Fd F .non .none
  | bl (b : Bool) : Fd F (.bl b) (.bool b)
  | int (i : Int) : Fd F (.int i) (.int i)
  | str (x : Str) : Fd F (.str x) (.str x)
  | lst {a : Addr} {xs : List V} {ds : List PyData} : F a = some (.lst xs) → FdAll F xs ds → Fd F (.ref a) (.list ds)
  | tup {a : Addr} {xs : List V} {ds : List PyData} : F a = some (.tup xs) → FdAll F xs ds → Fd F (.ref a) (.tuple ds)
  | scr {a : Addr} {o : Obj} {xs : List V} {ds : List PyData} : F a = some (.frz o (.lst xs)) → FdAll F xs ds → Fd F (.ref a) (.dict [(.none, .list ds)])
inductive FdAll (F : Hp) : List V → List PyData → Prop
  | nil : FdAll F [] []
  | cons {v : V} {vs : List V} {d : PyData} {ds : List PyData} : Fd F v d → FdAll F vs ds → FdAll F (v :: vs) (d :: ds)
end
mutual
theorem Fd_mono {F F' : Hp} (h : ∀ a o, F a = some o → F' a = some o) : ∀ {v : V} {d : PyData}, Fd F v d → Fd F' v d
  | _, _, .non => .non
  | _, _, .bl b => .bl b
  | _, _, .int i => .int i
  | _, _, .str x => .str x
  | _, _, .lst a b => .lst (h _ _ a) (FdAll_mono h b)
  | _, _, .tup a b => .tup (h _ _ a) (FdAll_mono h b)
  | _, _, .scr a b => .scr (h _ _ a) (FdAll_mono h b)
theorem FdAll_mono {F F' : Hp} (h : ∀ a o, F a = some o → F' a = some o) : ∀ {vs : List V} {ds : List PyData}, FdAll F vs ds → FdAll F' vs ds
  | _, _, .nil => .nil
  | _, _, .cons a b => .cons (Fd_mono h a) (FdAll_mono h b)
end
mutual
/-- as the layer's own data, where there is no dict -/
theorem Fd_dp {K : PySem.W.Frag} {F H : Hp} (h : ∀ a o, F a = some o → H a = some o) : ∀ {v : V} {d : PyData}, Fd F v d → PyData.canLay0 d = true → Dp K H v d
  | _, _, .non, _ => .non
  | _, _, .bl b, _ => .bl b
  | _, _, .int i, _ => .int i
  | _, _, .str x, _ => .str x
  | _, _, .lst a b, c => .lst (SqL.of (h _ _ a)) (FdAll_dp h b (by simpa [PyData.canLay0] using c))
  | _, _, .tup a b, c => .tup (SqT.of (h _ _ a)) (FdAll_dp h b (by simpa [PyData.canLay0] using c))
  | _, _, .scr a b, c => by simp [PyData.canLay0] at c
theorem FdAll_dp {K : PySem.W.Frag} {F H : Hp} (h : ∀ a o, F a = some o → H a = some o) : ∀ {vs : List V} {ds : List PyData}, FdAll F vs ds → PyData.canLayAll0 ds = true → DpAll K H vs ds
  | _, _, .nil, _ => .nil
  | _, _, .cons a b, c => by
    simp only [PyData.canLayAll0, Bool.and_eq_true] at c
    exact .cons (Fd_dp h a c.1) (FdAll_dp h b c.2)
end
section
variable {F : Hp}
theorem dp_length : ∀ {vs : List V} {ds : List PyData}, FdAll F vs ds → vs.length = ds.length
  | _, _, .nil => rfl
  | _, _, .cons _ t => by simp [dp_length t]
theorem dp_append : ∀ {vs : List V} {ds : List PyData} {ws : List V} {es : List PyData}, FdAll F vs ds → FdAll F ws es → FdAll F (vs ++ ws) (ds ++ es)
  | _, _, _, _, .nil, h => h
  | _, _, _, _, .cons a t, h => .cons a (dp_append t h)
theorem dp_get : ∀ {vs : List V} {ds : List PyData} {i : Nat} {d : PyData}, FdAll F vs ds → ds[i]? = some d → ∃ v, vs[i]? = some v ∧ Fd F v d
  | _, _, _, _, .nil, e => by simp at e
  | _, _, 0, _, .cons a _, e => by simp at e; subst e; exact ⟨_, rfl, a⟩
  | _, _, i + 1, _, .cons _ t, e => by
    obtain ⟨v, h1, h2⟩ := dp_get (i := i) t (by simpa using e)
    exact ⟨v, by simpa using h1, h2⟩
theorem dp_getV : ∀ {vs : List V} {ds : List PyData} {i : Nat} {v : V}, FdAll F vs ds → vs[i]? = some v → ∃ d, ds[i]? = some d ∧ Fd F v d
  | _, _, _, _, .nil, e => by simp at e
  | _, _, 0, _, .cons a _, e => by simp at e; subst e; exact ⟨_, rfl, a⟩
  | _, _, i + 1, _, .cons _ t, e => by
    obtain ⟨v, h1, h2⟩ := dp_getV (i := i) t (by simpa using e)
    exact ⟨v, by simpa using h1, h2⟩
theorem dp_set {v : V} {d : PyData} (r : Fd F v d) : ∀ {vs : List V} {ds : List PyData} (i : Nat), FdAll F vs ds → FdAll F (vs.set i v) (ds.set i d)
  | _, _, _, .nil => .nil
  | _, _, 0, .cons _ t => .cons r t
  | _, _, i + 1, .cons q t => .cons q (dp_set r i t)
theorem dp_take : ∀ {vs : List V} {ds : List PyData} (n : Nat), FdAll F vs ds → FdAll F (vs.take n) (ds.take n)
  | _, _, 0, _ => .nil
  | _, _, _ + 1, .nil => .nil
  | _, _, n + 1, .cons q t => .cons q (dp_take n t)
theorem dp_drop : ∀ {vs : List V} {ds : List PyData} (n : Nat), FdAll F vs ds → FdAll F (vs.drop n) (ds.drop n)
  | _, _, 0, h => h
  | _, _, _ + 1, .nil => .nil
  | _, _, n + 1, .cons _ t => dp_drop n t
theorem dp_reverse : ∀ {vs : List V} {ds : List PyData}, FdAll F vs ds → FdAll F vs.reverse ds.reverse
  | _, _, .nil => .nil
  | _, _, .cons a t => by
    rw [List.reverse_cons, List.reverse_cons]
    exact dp_append (dp_reverse t) (.cons a .nil)
theorem dp_eraseIdx : ∀ {vs : List V} {ds : List PyData} (i : Nat), FdAll F vs ds → FdAll F (vs.eraseIdx i) (ds.eraseIdx i)
  | _, _, _, .nil => .nil
  | _, _, 0, .cons _ t => t
  | _, _, i + 1, .cons q t => .cons q (dp_eraseIdx i t)
theorem dp_rep {vs : List V} {ds : List PyData} (h : FdAll F vs ds) : ∀ k : Nat, FdAll F (List.replicate k vs).flatten (List.replicate k ds).flatten
  | 0 => .nil
  | k + 1 => by
    rw [List.replicate_succ, List.replicate_succ, List.flatten_cons, List.flatten_cons]
    exact dp_append h (dp_rep h k)
theorem dp_ints : ∀ {vs : List V} {ns : List Int}, FdAll F vs (ns.map .int) → vs = ns.map V.int
  | _, [], h => by cases h; rfl
  | _, n :: ns, h => by
    cases h with
    | cons a t => cases a; rw [dp_ints t]; rfl
theorem dp_of_ints : ∀ ns : List Int, FdAll F (ns.map V.int) (ns.map .int)
  | [] => .nil
  | _ :: ns => .cons (.int _) (dp_of_ints ns)
theorem dp_strs : ∀ {vs : List V} {ns : List Str}, FdAll F vs (ns.map .str) → vs = ns.map V.str
  | _, [], h => by cases h; rfl
  | _, n :: ns, h => by
    cases h with
    | cons a t => cases a; rw [dp_strs t]; rfl
theorem dp_bls : ∀ {vs : List V} {ns : List Bool}, FdAll F vs (ns.map .bool) → vs = ns.map V.bl
  | _, [], h => by cases h; rfl
  | _, n :: ns, h => by
    cases h with
    | cons a t => cases a; rw [dp_bls t]; rfl
end

/-! ### the frozen part, and how the heap grows -/
def TabOk (ts : List Addr) (H : Hp) : Prop := ∀ P ∈ ts, GxR.TabG H P
theorem TabOk.ne {ts : List Addr} {H : Hp} (t : TabOk ts H) {a : Addr} (h : a ∈ ts) : H a ≠ none := by
  obtain ⟨ps, e, _⟩ := t a h
  rw [e]; exact fun z => by cases z
theorem TabOk.nl {ts : List Addr} {H : Hp} (t : TabOk ts H) {a : Addr} {o : HO} (h : H a = some o) (ho : ∀ ps, o ≠ .tbl ps) : a ∉ ts := fun m => by
  obtain ⟨ps, e, _⟩ := t a m
  rw [h] at e
  exact ho ps (Option.some.inj e)
/-- F is what is frozen in H -/
structure Fz (ts : List Addr) (F H : Hp) : Prop where
  sub : ∀ a o, F a = some o → H a = some o
  tab : TabOk ts H
  dis : ∀ P ∈ ts, F P = none
/-- nothing that stood is changed but the tables -/
structure Grow (ts : List Addr) (F H F' H' : Hp) : Prop where
  ff : ∀ a o, F a = some o → F' a = some o
  fh : ∀ a o, F' a = some o → H' a = some o
  hh : ∀ a o, a ∉ ts → H a = some o → H' a = some o
  nw : ∀ a o, F' a = some o → F a = some o ∨ H a = none
  tb : TabOk ts H'
section
variable {ts : List Addr} {F H F1 H1 F2 H2 : Hp}
theorem Grow.refl (f : Fz ts F H) : Grow ts F H F H := ⟨fun _ _ e => e, f.sub, fun _ _ _ e => e, fun _ _ e => .inl e, f.tab⟩
theorem Grow.fz (g : Grow ts F H F1 H1) (f : Fz ts F H) : Fz ts F1 H1 :=
  ⟨g.fh, g.tb, fun P hP => by
    cases e : F1 P with
    | none => rfl
    | some o =>
      rcases g.nw P o e with q | q
      · rw [f.dis P hP] at q; cases q
      · exact absurd q (f.tab.ne hP)⟩
theorem Grow.nn (g : Grow ts F H F1 H1) (t : TabOk ts H) {a : Addr} (h : H1 a = none) : H a = none := by
  cases e : H a with
  | none => rfl
  | some o =>
    by_cases hm : a ∈ ts
    · exact absurd h (g.tb.ne hm)
    · rw [g.hh a o hm e] at h; cases h
theorem Grow.trans (t : TabOk ts H) (g : Grow ts F H F1 H1) (k : Grow ts F1 H1 F2 H2) : Grow ts F H F2 H2 :=
  ⟨fun a o e => k.ff a o (g.ff a o e), k.fh, fun a o n e => k.hh a o n (g.hh a o n e), fun a o e => by
    rcases k.nw a o e with q | q
    · exact g.nw a o q
    · exact .inr (g.nn t q), k.tb⟩
theorem Grow.lst (g : Grow ts F H F1 H1) (t : TabOk ts H) {a : Addr} {o : HO} (h : H a = some o) (ho : ∀ ps, o ≠ .tbl ps) : H1 a = some o :=
  g.hh a o (t.nl h ho) h
/-- a tracked object that is not frozen stays so -/
theorem Grow.nof (g : Grow ts F H F1 H1) {a : Addr} {o : HO} (h : H a = some o) (f : F a = none) : F1 a = none := by
  cases e : F1 a with
  | none => rfl
  | some u =>
    rcases g.nw a u e with q | q
    · rw [f] at q; cases q
    · rw [h] at q; cases q
theorem Fz.upd_new (f : Fz ts F H) {p : Addr} {o : HO} (hp : H p = none) : Fz ts (upd F p o) (upd H p o) where
  sub := fun a u e => by
    by_cases h : a = p
    · subst h; rw [upd_same] at e ⊢; exact e
    · rw [upd_ne h] at e ⊢; exact f.sub a u e
  tab := fun P hP => by
    obtain ⟨ps, e, r⟩ := f.tab P hP
    exact ⟨ps, by rw [upd_ne (ne_of_none e hp)]; exact e, r⟩
  dis := fun P hP => by
    rw [upd_ne (fun z => f.tab.ne hP (by rw [z]; exact hp))]
    exact f.dis P hP
theorem Fz.noF (f : Fz ts F H) {p : Addr} (hp : H p = none) : F p = none := by
  cases e : F p with
  | none => rfl
  | some o => rw [f.sub p o e] at hp; cases hp
/-- a new frozen object -/
theorem Grow.frozen (f : Fz ts F H) {p : Addr} {o : HO} (hp : H p = none) : Grow ts F H (upd F p o) (upd H p o) where
  ff := fun a u e => by
    rw [upd_ne (fun z => by subst z; rw [f.noF hp] at e; cases e)]; exact e
  fh := (f.upd_new hp).sub
  hh := fun a u _ e => by rw [upd_ne (ne_of_none e hp)]; exact e
  nw := fun a u e => by
    by_cases h : a = p
    · subst h; exact .inr hp
    · rw [upd_ne h] at e; exact .inl e
  tb := (f.upd_new hp).tab
/-- a new object that is not frozen -/
theorem Grow.fresh (f : Fz ts F H) {p : Addr} {o : HO} (hp : H p = none) : Grow ts F H F (upd H p o) where
  ff := fun _ _ e => e
  fh := fun a u e => by
    rw [upd_ne (fun z => by subst z; rw [f.noF hp] at e; cases e)]; exact f.sub a u e
  hh := fun a u _ e => by rw [upd_ne (ne_of_none e hp)]; exact e
  nw := fun _ _ e => .inl e
  tb := (f.upd_new (o := o) hp).tab
end

/-! ### results -/
/-- v is the result, behind a growth from F, H to F', H' -/
def RR (H F' H' : Hp) (v : V) : Res → Prop
  | .val d => Fd F' v d
  | .new ds => ∃ p vs, v = .ref p ∧ H p = none ∧ F' p = none ∧ H' p = some (.lst vs) ∧ FdAll F' vs ds
/-- v reads as d: frozen, or a list that somebody owns -/
def BR (F H : Hp) (v : V) (d : PyData) : Prop :=
  Fd F v d ∨ ∃ p vs ds, v = .ref p ∧ d = .list ds ∧ H p = some (.lst vs) ∧ FdAll F vs ds
section
variable {ts : List Addr} {F H F1 H1 F2 H2 : Hp} {v : V} {r : Res} {d : PyData}
theorem BR.grow (h : BR F H v d) (t : TabOk ts H) (g : Grow ts F H F1 H1) : BR F1 H1 v d := by
  rcases h with h | ⟨p, vs, ds, e1, e2, e3, e4⟩
  · exact .inl (Fd_mono g.ff h)
  · exact .inr ⟨p, vs, ds, e1, e2, g.lst t e3 (fun _ z => by cases z), FdAll_mono g.ff e4⟩
theorem RR.br (h : RR H F1 H1 v r) : BR F1 H1 v r.dat := by
  cases r with
  | val d => exact .inl h
  | new ds =>
    obtain ⟨p, vs, e1, _, _, e3, e4⟩ := h
    exact .inr ⟨p, vs, ds, e1, rfl, e3, e4⟩
theorem RR.back (t : TabOk ts H) (g : Grow ts F H F1 H1) (h : RR H1 F2 H2 v r) : RR H F2 H2 v r := by
  cases r with
  | val d => exact h
  | new ds =>
    obtain ⟨p, vs, e1, e2, e3⟩ := h
    exact ⟨p, vs, e1, g.nn t e2, e3⟩
/-- a new list is frozen -/
theorem RR.toVal (g : Grow ts F H F1 H1) (f : Fz ts F H) (h : RR H F1 H1 v r) : ∃ F2, Grow ts F H F2 H1 ∧ Fd F2 v r.dat := by
  cases r with
  | val d => exact ⟨F1, g, h⟩
  | new ds =>
    obtain ⟨p, vs, rfl, e2, e3, e4, e5⟩ := h
    have ff : ∀ a o, F1 a = some o → upd F1 p (.lst vs) a = some o := fun a o e => by
      rw [upd_ne (fun z => by subst z; rw [e3] at e; cases e)]; exact e
    refine ⟨upd F1 p (.lst vs), ⟨fun a o e => ff a o (g.ff a o e), fun a o e => ?_, g.hh, fun a o e => ?_, g.tb⟩, .lst upd_same (FdAll_mono ff e5)⟩
    · by_cases h : a = p
      · subst h; rw [upd_same] at e; rw [e4]; exact e
      · rw [upd_ne h] at e; exact g.fh a o e
    · by_cases h : a = p
      · subst h; exact .inr e2
      · rw [upd_ne h] at e; exact g.nw a o e
end

/-! ### the cells and the slots -/
def CellOk (F H : Hp) : Cell → Option V → Prop
  | .un, _ => True
  | .fr d, some v => Fd F v d
  | .ow ds, some v => ∃ p vs, v = .ref p ∧ F p = none ∧ H p = some (.lst vs) ∧ FdAll F vs ds
  | _, none => False
structure Rep (ts : List Addr) (ρ : List Cell) (σ : L2.St) (F H : Hp) : Prop where
  fz : Fz ts F H
  len : ρ.length = σ.length
  cell : ∀ (i : Nat) (c : Cell) (o : Option V), ρ[i]? = some c → σ[i]? = some o → CellOk F H c o
  dis : ∀ (i j : Nat) (ds es : List PyData) (p : Addr), i ≠ j → ρ[i]? = some (.ow ds) → ρ[j]? = some (.ow es) → σ[i]? = some (some (.ref p)) → σ[j]? ≠ some (some (.ref p))
section
variable {ts : List Addr} {F H F1 H1 : Hp} {ρ : List Cell} {σ : L2.St}
theorem CellOk.grow {c : Cell} {o : Option V} (h : CellOk F H c o) (t : TabOk ts H) (g : Grow ts F H F1 H1) : CellOk F1 H1 c o := by
  cases c with
  | un => trivial
  | fr d =>
    cases o with
    | none => exact h
    | some v => exact Fd_mono g.ff h
  | ow ds =>
    cases o with
    | none => exact h
    | some v =>
      obtain ⟨p, vs, e1, e2, e3, e4⟩ := h
      exact ⟨p, vs, e1, g.nof e3 e2, g.lst t e3 (fun _ z => by cases z), FdAll_mono g.ff e4⟩
theorem Rep.grow (r : Rep ts ρ σ F H) (g : Grow ts F H F1 H1) : Rep ts ρ σ F1 H1 :=
  ⟨g.fz r.fz, r.len, fun i c o h1 h2 => (r.cell i c o h1 h2).grow r.fz.tab g, r.dis⟩
theorem Rep.slot (r : Rep ts ρ σ F H) {i : Nat} {c : Cell} (h : ρ[i]? = some c) : ∃ o, σ[i]? = some o ∧ CellOk F H c o := by
  have hi : i < ρ.length := by
    rcases Nat.lt_or_ge i ρ.length with q | q
    · exact q
    · rw [List.getElem?_eq_none q] at h; cases h
  have hs : i < σ.length := by rw [← r.len]; exact hi
  exact ⟨σ[i], List.getElem?_eq_getElem hs, r.cell i c _ h (List.getElem?_eq_getElem hs)⟩
theorem Rep.fr (r : Rep ts ρ σ F H) {i : Nat} {d : PyData} (h : ρ[i]? = some (.fr d)) : ∃ v, σ[i]? = some (some v) ∧ Fd F v d := by
  obtain ⟨o, h1, h2⟩ := r.slot h
  cases o with
  | none => exact h2.elim
  | some v => exact ⟨v, h1, h2⟩
theorem Rep.ow (r : Rep ts ρ σ F H) {i : Nat} {ds : List PyData} (h : ρ[i]? = some (.ow ds)) : ∃ p vs, σ[i]? = some (some (.ref p)) ∧ F p = none ∧ H p = some (.lst vs) ∧ FdAll F vs ds := by
  obtain ⟨o, h1, h2⟩ := r.slot h
  cases o with
  | none => exact h2.elim
  | some v =>
    obtain ⟨p, vs, rfl, e⟩ := h2
    exact ⟨p, vs, h1, e⟩
end

/-! ### the readings -/
def tR (ts : List Addr) (ρ : List Cell) (r : Res) : TE := fun σ H Q => ∃ F, Rep ts ρ σ F H ∧ ∀ v F' H', Grow ts F H F' H' → RR H F' H' v r → Q v H'
def tB' (ts : List Addr) (ρ : List Cell) (d : PyData) : TE := fun σ H Q => ∃ F, Rep ts ρ σ F H ∧ ∀ v F' H', Grow ts F H F' H' → BR F' H' v d → Q v H'
def tT' (ts : List Addr) (ρ : List Cell) (b : Bool) : TT := fun σ H Q => ∃ F, Rep ts ρ σ F H ∧ ∀ F' H', Grow ts F H F' H' → Q b H'
def tA' (ts : List Addr) (ρ : List Cell) (ds : List PyData) : TA := fun σ H Q => ∃ F, Rep ts ρ σ F H ∧ ∀ vs F' H', Grow ts F H F' H' → FdAll F' vs ds → Q vs H'
abbrev OkE (X : Cx) (ts : List Addr) (ρ : List Cell) (e : Expr) (r : Res) : Prop := PE X e (tR ts ρ r)
abbrev OkB (X : Cx) (ts : List Addr) (ρ : List Cell) (e : Expr) (d : PyData) : Prop := PE X e (tB' ts ρ d)
abbrev OkT (X : Cx) (ts : List Addr) (ρ : List Cell) (e : Expr) (b : Bool) : Prop := PT X e (tT' ts ρ b)
abbrev OkA (X : Cx) (ts : List Addr) (ρ : List Cell) (es : List Expr) (ds : List PyData) : Prop := PA X es (tA' ts ρ ds)
theorem pe_weak {X : Cx} {e : Expr} {t u : TE} (h : PE X e t) (w : ∀ σ H Q, u σ H Q → t σ H Q) : PE X e u := ⟨fun pins s σ H Q I q => h.run pins s σ H Q I (w σ H Q q)⟩
theorem pt_weak {X : Cx} {e : Expr} {t u : TT} (h : PT X e t) (w : ∀ σ H Q, u σ H Q → t σ H Q) : PT X e u := ⟨fun pins s σ H Q I q => h.run pins s σ H Q I (w σ H Q q)⟩
theorem pw_weak {X : Cx} {e : Expr} {t u : TT} (h : PW X e t) (w : ∀ σ H Q, u σ H Q → t σ H Q) : PW X e u := ⟨fun wh pins s σ H Q I q => h.run wh pins s σ H Q I (w σ H Q q)⟩
theorem pa_weak {X : Cx} {e : List Expr} {t u : TA} (h : PA X e t) (w : ∀ σ H Q, u σ H Q → t σ H Q) : PA X e u := ⟨fun pos pins s σ H Q I q => h.run pos pins s σ H Q I (w σ H Q q)⟩
theorem ps_weak {X : Cx} {e : Stmt} {t u : TS} (h : PS X e t) (w : ∀ D σ H, u D σ H → t D σ H) : PS X e u := ⟨fun pins s σ H D I q => h.run pins s σ H D I (w D σ H q)⟩
theorem pss_weak {X : Cx} {e : List Stmt} {t u : TS} (h : PSs X e t) (w : ∀ D σ H, u D σ H → t D σ H) : PSs X e u := ⟨fun pins s σ H D I q => h.run pins s σ H D I (w D σ H q)⟩
section
variable {X : Cx} {ts : List Addr} {ρ : List Cell} {e : Expr} {r : Res} {d : PyData}
theorem OkE.toB (h : OkE X ts ρ e r) : OkB X ts ρ e r.dat := pe_weak h fun σ H Q ⟨F, hr, q⟩ => ⟨F, hr, fun v F' H' g k => q v F' H' g k.br⟩
theorem OkE.toV (h : OkE X ts ρ e r) : OkE X ts ρ e (.val r.dat) := pe_weak h fun σ H Q ⟨F, hr, q⟩ => ⟨F, hr, fun v F' H' g k => by
  obtain ⟨F2, g2, k2⟩ := k.toVal g hr.fz
  exact q v F2 H' g2 k2⟩
end
end Pi
end
section
set_option Elab.async false
set_option linter.all false
set_option maxRecDepth 100000
/-! Pure data over the hand layer: a small language for bodies, and what it computes. -/
namespace Pi
open PySem PySem.Spec PyProof.Rows L2

/-! ### operations on data -/
def mulOk (i j : Int) : Bool := (decide (-(2 ^ 64) < i) && decide (i < 2 ^ 64)) || (decide (-(2 ^ 64) < j) && decide (j < 2 ^ 64))
def binD : Operator → PyData → PyData → Option Res
  | .Add, .int i, .int j => some (.val (.int (i + j)))
  | .Add, .str x, .str y => if x.length + y.length ≤ sizeLine then some (.val (.str (x ++ y))) else none
  | .Add, .tuple xs, .tuple ys => if xs.length + ys.length ≤ sizeLine then some (.val (.tuple (xs ++ ys))) else none
  | .Add, .list xs, .list ys => if xs.length + ys.length ≤ sizeLine then some (.new (xs ++ ys)) else none
  | .Sub, .int i, .int j => some (.val (.int (i - j)))
  | .Mult, .int i, .int j => if mulOk i j then some (.val (.int (i * j))) else none
  | .Mult, .list xs, .int k => if decide (-(2 ^ 63) ≤ k) && decide (k < 2 ^ 63) && decide (xs.length * k.toNat ≤ sizeLine) then some (.new (List.replicate k.toNat xs).flatten) else none
  | .FloorDiv, .int i, .int j => if decide (0 < j) && decide (j < 1073741824) then some (.val (.int (i / j))) else none
  | .Mod, .int i, .int j => if decide (0 < j) then some (.val (.int (i % j))) else none
  | .Pow, .int i, .int j => if decide (0 ≤ j) && decide (j ≤ 1000000) && decide (i.natAbs < 2 ^ 64) then some (.val (.int (i ^ j.toNat))) else none
  | .LShift, .int i, .int j => if decide (0 ≤ j) && decide (j ≤ 1000000) && decide (i.natAbs < 2 ^ 64) then some (.val (.int (i * 2 ^ j.toNat))) else none
  | _, _, _ => none
/-- op= of ints and texts -/
def augD : Operator → PyData → PyData → Option PyData
  | .Add, .int i, .int j => some (.int (i + j))
  | .Add, .str x, .str y => if x.length + y.length ≤ sizeLine then some (.str (x ++ y)) else none
  | .Sub, .int i, .int j => some (.int (i - j))
  | .Mult, .int i, .int j => if mulOk i j then some (.int (i * j)) else none
  | .FloorDiv, .int i, .int j => if decide (0 < j) && decide (j < 1073741824) then some (.int (i / j)) else none
  | .Mod, .int i, .int j => if decide (0 < j) then some (.int (i % j)) else none
  | _, _, _ => none
def listD : PyData → Option (List PyData)
  | .list xs => some xs
  | _ => none
def negD : PyData → Option Res
  | .int i => some (.val (.int (-i)))
  | _ => none
def memD (x : PyData) (ds : List PyData) : Bool := ds.any fun z => PyData.eqv z x
def isNoneD : PyData → Bool
  | .none => true
  | _ => false
/-- the alike tuples below, by the library's order -/
def ltD : PyData → PyData → Option Bool
  | .int i, .int j => some (decide (i < j))
  | .str x, .str y => some (decide (x.cps.toList < y.cps.toList))
  | .tuple xs, .tuple ys => if SeqAt.shaped (.tuple xs) && SeqAt.shaped (.tuple ys) && PySem.W.alike (.tuple xs) (.tuple ys) then some (PySem.W.dataLt (.tuple xs) (.tuple ys)) else none
  | _, _ => none
def cmpD : CmpOp → PyData → PyData → Option Bool
  | .Eq, x, y => if SeqAt.shaped x && SeqAt.shaped y then some (PyData.eqv x y) else none
  | .NotEq, x, y => if SeqAt.shaped x && SeqAt.shaped y then some (!PyData.eqv x y) else none
  | .Lt, x, y => ltD x y
  | .Gt, .int i, .int j => some (decide (j < i))
  | .LtE, .int i, .int j => some (decide (i ≤ j))
  | .GtE, .int i, .int j => some (decide (j ≤ i))
  | .Is, x, .none => some (isNoneD x)
  | .IsNot, x, .none => some (!isNoneD x)
  | .In, x, .list ys => if SeqAt.shaped x && SeqAt.shaped (.list ys) then some (memD x ys) else none
  | .In, x, .tuple ys => if SeqAt.shaped x && SeqAt.shaped (.tuple ys) then some (memD x ys) else none
  | .NotIn, x, .list ys => if SeqAt.shaped x && SeqAt.shaped (.list ys) then some (!memD x ys) else none
  | .NotIn, x, .tuple ys => if SeqAt.shaped x && SeqAt.shaped (.tuple ys) then some (!memD x ys) else none
  | _, _, _ => none
def truD : PyData → Option Bool
  | .none => some false
  | .bool b => some b
  | .int i => some (i != 0)
  | .str x => if x.length ≤ sizeLine then some ((x.length : Int) != 0) else none
  | .list xs => some (!xs.isEmpty)
  | .tuple xs => some (!xs.isEmpty)
  | .dict _ => none
def boolD : PyData → Option Bool
  | .bool b => some b
  | _ => none
def intD : PyData → Option Int
  | .int i => some i
  | _ => none
/-- the items that a walk over it gives -/
def itemsD : PyData → Option (List PyData)
  | .list xs => some xs
  | .tuple xs => some xs
  | .str x => some (x.cps.toList.map fun c => .str ⟨#[c]⟩)
  | _ => none
def ixD : PyData → Int → Option PyData
  | .list xs, i => atI xs i
  | .tuple xs, i => atI xs i
  | .dict [(.none, .list xs)], i => atI xs i
  | .str x, i => if x.length ≤ sizeLine then (atI x.cps.toList i).map fun c => .str ⟨#[c]⟩ else none
  | _, _ => none
def cutD {α : Type} (xs : List α) (lo hi : Option Int) : List α := (xs.drop (HT.sIx xs.length 0 lo)).take (HT.sIx xs.length xs.length hi - HT.sIx xs.length 0 lo)
def slD : PyData → Option Int → Option Int → Option Res
  | .list xs, lo, hi => some (.new (cutD xs lo hi))
  | .tuple xs, lo, hi => some (.val (.tuple (cutD xs lo hi)))
  | .str x, lo, hi => if x.length ≤ sizeLine then some (.val (.str (cutS x lo hi))) else none
  | _, _, _ => none
def intsD : List PyData → Option (List Int)
  | [] => some []
  | .int i :: r => (intsD r).map (i :: ·)
  | _ :: _ => none
def strsD : List PyData → Option (List Str)
  | [] => some []
  | .str i :: r => (strsD r).map (i :: ·)
  | _ :: _ => none
def boolsD : List PyData → Option (List Bool)
  | [] => some []
  | .bool i :: r => (boolsD r).map (i :: ·)
  | _ :: _ => none

/-! ### sorting -/
/-- what can be sorted -/
def sortOk (ds : List PyData) : Bool := decide (ds.length ≤ sizeLine) && ds.all (fun d => PyData.canLay0 d && decide (d.depth ≤ 60) && !isNoneD d) && ds.all (fun d => ds.all fun e => PySem.W.alike d e)
def insBy {β : Type} (le : β → β → Bool) (a : β) : List β → List β
  | [] => [a]
  | b :: l => if le a b then a :: b :: l else b :: insBy le a l
def isort {β : Type} (le : β → β → Bool) : List β → List β
  | [] => []
  | a :: l => insBy le a (isort le l)
/-- the stable sort by the library's order of data -/
def sortBy {β : Type} (k : β → PyData) (bs : List β) : List β := isort (PySem.W.dataLe false k) bs
/-- the keys of the items -/
def keysD (f : List PyData → Option Res) : List PyData → Option (List PyData)
  | [] => some []
  | d :: ds => (f [d]).bind fun r => match r with
    | .val k => (keysD f ds).map (k :: ·)
    | .new _ => none
/-- sorted(ds, key=f) -/
def sortKeyD (f : List PyData → Option Res) (ds : List PyData) : Option Res := (keysD f ds).bind fun ks => if sortOk ks then some (.new ((sortBy (fun x : PyData × PyData => x.2) (ds.zip ks)).map (·.1))) else none
/-! ### builtins -/
inductive Bi where
  | len | tuple | list | sorted | sum | max | min | abs | int | str | all | any | isInt | isBool | isStr | isTuple | sortedSet | lenSet | join | count | index | sortedRev
  deriving DecidableEq
def biD : Bi → List PyData → Option Res
  | .len, [.list xs] => some (.val (.int xs.length))
  | .len, [.tuple xs] => some (.val (.int xs.length))
  | .len, [.dict [(.none, .list xs)]] => some (.val (.int xs.length))
  | .len, [.str x] => if x.length ≤ sizeLine then some (.val (.int x.length)) else none
  | .tuple, [.list xs] => some (.val (.tuple xs))
  | .tuple, [.tuple xs] => some (.val (.tuple xs))
  | .list, [.list xs] => some (.new xs)
  | .list, [.tuple xs] => some (.new xs)
  | .abs, [.int i] => some (.val (.int (if i < 0 then -i else i)))
  | .int, [.int i] => some (.val (.int i))
  | .max, [.int i, .int j] => some (.val (.int (if j > i then j else i)))
  | .min, [.int i, .int j] => some (.val (.int (if j < i then j else i)))
  | .sum, [.list xs] => (intsD xs).map fun ns => .val (.int ns.sum)
  | .isInt, [.int _] => some (.val (.bool true))
  | .isInt, [.bool _] => some (.val (.bool true))
  | .isInt, [.none] => some (.val (.bool false))
  | .isInt, [.str _] => some (.val (.bool false))
  | .isInt, [.tuple _] => some (.val (.bool false))
  | .isInt, [.list _] => some (.val (.bool false))
  | .isBool, [.bool _] => some (.val (.bool true))
  | .isBool, [.int _] => some (.val (.bool false))
  | .isBool, [.none] => some (.val (.bool false))
  | .isBool, [.str _] => some (.val (.bool false))
  | .isBool, [.tuple _] => some (.val (.bool false))
  | .isBool, [.list _] => some (.val (.bool false))
  | .isStr, [.str _] => some (.val (.bool true))
  | .isStr, [.int _] => some (.val (.bool false))
  | .isStr, [.bool _] => some (.val (.bool false))
  | .isStr, [.none] => some (.val (.bool false))
  | .isStr, [.tuple _] => some (.val (.bool false))
  | .isStr, [.list _] => some (.val (.bool false))
  | .isTuple, [.tuple _] => some (.val (.bool true))
  | .isTuple, [.int _] => some (.val (.bool false))
  | .isTuple, [.bool _] => some (.val (.bool false))
  | .isTuple, [.none] => some (.val (.bool false))
  | .isTuple, [.str _] => some (.val (.bool false))
  | .isTuple, [.list _] => some (.val (.bool false))
  | .all, [.list xs] => (boolsD xs).map fun bs => .val (.bool (bs.all id))
  | .any, [.list xs] => (boolsD xs).map fun bs => .val (.bool (bs.any id))
  | .sorted, [.list xs] => if sortOk xs then some (.new (sortBy id xs)) else none
  | _, _ => none

/-! ### the language -/
inductive T where
  | name (i : Nat)
  | tup (l : List T)
mutual
inductive E where
  | const (d : PyData)
  | var (i : Nat)
  | bin (op : Operator) (a b : E)
  | neg (a : E)
  | not (a : E)
  | cmp (op : CmpOp) (a b : E)
  | chain (a : E) (h : Ch)
  | and (a b : E)
  | or (a b : E)
  | ite (c a b : E)
  | tup (l : List E)
  | lst (l : List E)
  | ix (a i : E)
  | sl (a : E) (lo hi : Option E)
  | comp (own : List Nat) (elt : E) (cl : List C)
  | gen (stop : Bool) (own : List Nat) (elt : E) (cl : List C)
  | call (f : Nat) (l : List E)
  | bi (b : Bi) (l : List E)
  | sortKey (f : Nat) (a : E)
inductive Ch where
  | one (op : CmpOp) (b : E)
  | more (op : CmpOp) (b : E) (h : Ch)
inductive C where
  | mk (tg : T) (it : I) (ifs : List E)
inductive I where
  | seq (a : E)
  | range (l : List E)
  | enum (a : E)
  | zip (a b : E)
end
inductive S where
  | frz (i : Nat)
  | set (i : Nat) (e : E)
  | unpack (tg : List T) (e : E)
  | append (y : Nat) (e : E)
  | extend (y : Nat) (e : E)
  | pop (x : Option Nat) (y : Nat) (i : Option E)
  | store (y : Nat) (i e : E)
  | aug (x : Nat) (op : Operator) (e : E)
  | ret (e : E)
  | retN
  | ifs (c : E) (a b : List S)
  | loop (tg : T) (it : I) (body : List S)
  | whl (c : E) (body : List S)
  | brk | cont | pass
inductive Out where
  | nx (ρ : List Cell)
  | rt (r : Res)
  | bk (ρ : List Cell)
  | ct (ρ : List Cell)

mutual
def asg : T → PyData → List Cell → Option (List Cell)
  | .name i, d, ρ => some (ρ.set i (.fr d))
  | .tup l, .tuple ds, ρ => asgs l ds ρ
  | .tup _, _, _ => none
def asgs : List T → List PyData → List Cell → Option (List Cell)
  | [], [], ρ => some ρ
  | t :: ts, d :: ds, ρ => (asg t d ρ).bind fun ρ' => asgs ts ds ρ'
  | _, _, _ => none
end
def wipeC (ρ : List Cell) : List Nat → List Cell
  | [] => ρ
  | v :: vs => (wipeC ρ vs).set v .un

mutual
def slotsL : T → List Nat
  | .name i => [i]
  | .tup l => slotsLs l
def slotsLs : List T → List Nat
  | [] => []
  | t :: l => slotsL t ++ slotsLs l
end
structure Gm where
  call : Nat → List PyData → Option Res
  wh : Nat

def bor (ρ : List Cell) : E → Option Res → Option PyData
  | .var i, r => match ρ[i]? with
    | some (.ow ds) => some (.list ds)
    | _ => r.map Res.dat
  | _, r => r.map Res.dat
def src (fz : Bool) (ρ : List Cell) (e : E) (r : Option Res) : Option PyData := if fz then r.map Res.dat else bor ρ e r
def rangeI : List Int → Option (List Int)
  | [j] => if decide (-(2 ^ 62) ≤ j) && decide (j < 2 ^ 62) then some ((List.range j.toNat).map fun (k : Nat) => (k : Int)) else none
  | [i, j] => if decide (-(2 ^ 62) ≤ i) && decide (i < 2 ^ 62) && decide (-(2 ^ 62) ≤ j) && decide (j < 2 ^ 62) then some ((List.range (j - i).toNat).map fun (k : Nat) => i + (k : Int)) else none
  | _ => none
def enumI (xs : List PyData) : List PyData := xs.zipIdx.map fun p => .tuple [.int p.2, p.1]
def zipI (xs ys : List PyData) : List PyData := (xs.zip ys).map fun p => .tuple [p.1, p.2]
def seek (stop : Bool) (f : PyData → Option Bool) : List PyData → Option Bool
  | [] => some (!stop)
  | d :: ds => (f d).bind fun b => if b = stop then some stop else seek stop f ds
def collect (f : PyData → Option (List PyData)) : List PyData → Option (List PyData)
  | [] => some []
  | d :: ds => (f d).bind fun xs => (collect f ds).bind fun ys => if xs.length + ys.length ≤ sizeLine then some (xs ++ ys) else none
mutual
def evE (Γ : Gm) : List Cell → E → Option Res
  | _, .const d => some (.val d)
  | ρ, .var i => match ρ[i]? with
    | some (.fr d) => some (.val d)
    | _ => none
  | ρ, .bin op a b => (bor ρ a (evE Γ ρ a)).bind fun x => (bor ρ b (evE Γ ρ b)).bind fun y => binD op x y
  | ρ, .neg a => (bor ρ a (evE Γ ρ a)).bind negD
  | ρ, .not a => ((bor ρ a (evE Γ ρ a)).bind truD).map fun b => .val (.bool (!b))
  | ρ, .cmp op a b => (bor ρ a (evE Γ ρ a)).bind fun x => (bor ρ b (evE Γ ρ b)).bind fun y => (cmpD op x y).map fun c => .val (.bool c)
  | ρ, .chain a h => (bor ρ a (evE Γ ρ a)).bind fun x => (evH Γ ρ x h).map fun c => .val (.bool c)
  | ρ, .and a b => ((bor ρ a (evE Γ ρ a)).bind boolD).bind fun c => if c then evE Γ ρ b else some (.val (.bool false))
  | ρ, .or a b => ((bor ρ a (evE Γ ρ a)).bind boolD).bind fun c => if c then some (.val (.bool true)) else evE Γ ρ b
  | ρ, .ite c a b => ((bor ρ c (evE Γ ρ c)).bind truD).bind fun c => if c then evE Γ ρ a else evE Γ ρ b
  | ρ, .tup l => (evA Γ ρ l).bind fun ds => if ds.length ≤ sizeLine then some (.val (.tuple ds)) else none
  | ρ, .lst l => (evA Γ ρ l).bind fun ds => if ds.length ≤ sizeLine then some (.new ds) else none
  | ρ, .ix a i => (bor ρ a (evE Γ ρ a)).bind fun x => ((bor ρ i (evE Γ ρ i)).bind intD).bind fun k => (ixD x k).map .val
  | ρ, .sl a lo hi => (bor ρ a (evE Γ ρ a)).bind fun x => (evO Γ ρ lo).bind fun l => (evO Γ ρ hi).bind fun h => slD x l h
  | ρ, .comp own elt cl => (evC Γ (fun ρ' => (evE Γ ρ' elt).map fun r => [r.dat]) false ρ (wipeC ρ own) cl).map .new
  | ρ, .gen stop own elt cl => (evG Γ stop (fun ρ' => ((evE Γ ρ' elt).map Res.dat).bind boolD) false ρ (wipeC ρ own) cl).map fun b => .val (.bool b)
  | ρ, .call f l => (evA Γ ρ l).bind fun ds => Γ.call f ds
  | ρ, .bi b l => (evL Γ ρ l).bind fun ds => biD b ds
  | ρ, .sortKey f a => ((bor ρ a (evE Γ ρ a)).bind listD).bind fun ds => sortKeyD (Γ.call f) ds
def evH (Γ : Gm) : List Cell → PyData → Ch → Option Bool
  | ρ, x, .one op b => (bor ρ b (evE Γ ρ b)).bind fun y => cmpD op x y
  | ρ, x, .more op b h => (bor ρ b (evE Γ ρ b)).bind fun y => (cmpD op x y).bind fun c => if c then evH Γ ρ y h else some false
def evO (Γ : Gm) : List Cell → Option E → Option (Option Int)
  | _, none => some none
  | ρ, some e => ((bor ρ e (evE Γ ρ e)).bind intD).map some
/-- frozen, one by one -/
def evA (Γ : Gm) : List Cell → List E → Option (List PyData)
  | _, [] => some []
  | ρ, e :: es => ((evE Γ ρ e).map Res.dat).bind fun d => (evA Γ ρ es).bind fun ds => some (d :: ds)
/-- read, one by one -/
def evL (Γ : Gm) : List Cell → List E → Option (List PyData)
  | _, [] => some []
  | ρ, e :: es => (bor ρ e (evE Γ ρ e)).bind fun d => (evL Γ ρ es).bind fun ds => some (d :: ds)
def evT (Γ : Gm) : List Cell → List E → Option Bool
  | _, [] => some true
  | ρ, e :: es => ((bor ρ e (evE Γ ρ e)).bind truD).bind fun b => if b then evT Γ ρ es else some false
def evI (Γ : Gm) (fz : Bool) : List Cell → I → Option (List PyData)
  | ρ, .seq a => (src fz ρ a (evE Γ ρ a)).bind itemsD
  | ρ, .range l => (evL Γ ρ l).bind fun ds => (intsD ds).bind fun ns => (rangeI ns).map fun ks => ks.map .int
  | ρ, .enum a => (src fz ρ a (evE Γ ρ a)).bind fun d => (itemsD d).map enumI
  | ρ, .zip a b => (src fz ρ a (evE Γ ρ a)).bind fun d => (src fz ρ b (evE Γ ρ b)).bind fun e => (itemsD d).bind fun xs => (itemsD e).map fun ys => zipI xs ys
def evC (Γ : Gm) (k : List Cell → Option (List PyData)) : Bool → List Cell → List Cell → List C → Option (List PyData)
  | _, _, ρ, [] => k ρ
  | fz, ρi, ρ, .mk tg it ifs :: rest => (evI Γ fz ρi it).bind fun xs => collect (fun d => (asg tg d (wipeC ρ (slotsL tg))).bind fun ρ' => (evT Γ ρ' ifs).bind fun b => if b then evC Γ k true ρ' ρ' rest else some []) xs
def evG (Γ : Gm) (stop : Bool) (k : List Cell → Option Bool) : Bool → List Cell → List Cell → List C → Option Bool
  | _, _, ρ, [] => k ρ
  | fz, ρi, ρ, .mk tg it ifs :: rest => (evI Γ fz ρi it).bind fun xs => seek stop (fun d => (asg tg d (wipeC ρ (slotsL tg))).bind fun ρ' => (evT Γ ρ' ifs).bind fun b => if b then evG Γ stop k true ρ' ρ' rest else some (!stop)) xs
end
def test (Γ : Gm) (ρ : List Cell) (e : E) : Option Bool := (bor ρ e (evE Γ ρ e)).bind truD
def loopS (f : List Cell → Option Out) (tg : T) : List PyData → List Cell → Option Out
  | [], ρ => some (.nx ρ)
  | d :: ds, ρ => (asg tg d ρ).bind fun ρ' => (f ρ').bind fun o => match o with
    | .nx r => loopS f tg ds r
    | .ct r => loopS f tg ds r
    | .bk r => some (.nx r)
    | .rt v => some (.rt v)
def whileS (c : List Cell → Option Bool) (f : List Cell → Option Out) : Nat → List Cell → Option Out
  | 0, _ => none
  | n + 1, ρ => (c ρ).bind fun b => if b then (f ρ).bind fun o => match o with
    | .nx r => whileS c f n r
    | .ct r => whileS c f n r
    | .bk r => some (.nx r)
    | .rt v => some (.rt v)
    else some (.nx ρ)
def popIx (n : Nat) (k : Int) : Option Nat := if decide (-(2 ^ 63) ≤ k) && decide (k < 2 ^ 63) then ixN n k else none
def owned (ρ : List Cell) (y : Nat) : Option (List PyData) := match ρ[y]? with
  | some (.ow ds) => some ds
  | _ => none
mutual
def evS (Γ : Gm) : List Cell → S → Option Out
  | ρ, .frz i => match ρ[i]? with
    | some (.ow ds) => some (.nx (ρ.set i (.fr (.list ds))))
    | some _ => some (.nx ρ)
    | none => none
  | ρ, .set i e => (evE Γ ρ e).map fun r => .nx (ρ.set i r.cell)
  | ρ, .unpack l e => ((evE Γ ρ e).map Res.dat).bind fun d => (asg (.tup l) d ρ).map .nx
  | ρ, .append y e => ((evE Γ ρ e).map Res.dat).bind fun d => (owned ρ y).bind fun ds => if ds.length < sizeLine then some (.nx (ρ.set y (.ow (ds ++ [d])))) else none
  | ρ, .extend y e => (bor ρ e (evE Γ ρ e)).bind fun d => (listD d).bind fun es => (owned ρ y).bind fun ds => if ds.length + es.length ≤ sizeLine then some (.nx (ρ.set y (.ow (ds ++ es)))) else none
  | ρ, .pop x y i => (evO Γ ρ i).bind fun k => (owned ρ y).bind fun ds => (popIx ds.length (k.getD (-1))).bind fun j => (ds[j]?).bind fun d => match x with
    | none => some (.nx (ρ.set y (.ow (ds.eraseIdx j))))
    | some x => some (.nx ((ρ.set y (.ow (ds.eraseIdx j))).set x (.fr d)))
  | ρ, .store y i e => ((evE Γ ρ e).map Res.dat).bind fun d => ((bor ρ i (evE Γ ρ i)).bind intD).bind fun k => (owned ρ y).bind fun ds => (ixN ds.length k).bind fun j => some (.nx (ρ.set y (.ow (ds.set j d))))
  | ρ, .aug x op e => (bor ρ (.var x) (evE Γ ρ (.var x))).bind fun d => (bor ρ e (evE Γ ρ e)).bind fun e => (augD op d e).map fun v => .nx (ρ.set x (.fr v))
  | ρ, .ret e => match bor ρ e (evE Γ ρ e), evE Γ ρ e with
    | _, some r => some (.rt r)
    | some (.list ds), none => some (.rt (.new ds))
    | _, none => none
  | _, .retN => some (.rt (.val .none))
  | ρ, .ifs c a b => (test Γ ρ c).bind fun t => if t then evSs Γ ρ a else evSs Γ ρ b
  | ρ, .loop tg it body => (evI Γ true ρ it).bind fun xs => loopS (fun ρ' => evSs Γ ρ' body) tg xs ρ
  | ρ, .whl c body => whileS (fun ρ' => test Γ ρ' c) (fun ρ' => evSs Γ ρ' body) Γ.wh ρ
  | ρ, .brk => some (.bk ρ)
  | ρ, .cont => some (.ct ρ)
  | ρ, .pass => some (.nx ρ)
def evSs (Γ : Gm) : List Cell → List S → Option Out
  | ρ, [] => some (.nx ρ)
  | ρ, s :: ss => (evS Γ ρ s).bind fun o => match o with
    | .nx r => evSs Γ r ss
    | .rt v => some (.rt v)
    | .bk r => some (.bk r)
    | .ct r => some (.ct r)
end

/-! ### the defs -/
structure Fn where
  np : Nat
  nn : Nat
  body : List S
/-- a body; or what a def gives, shown by hand -/
inductive Df where
  | body (F : Fn)
  | hand (g : List PyData → Option Res)
def start0 (F : Fn) (ds : List PyData) : List Cell := ds.map .fr ++ List.replicate (F.nn - F.np) .un
def ended : Option Out → Option Res
  | some (.rt r) => some r
  | some (.nx _) => some (.val .none)
  | _ => none
def run (T : List Df) (wh : Nat) : Nat → Nat → List PyData → Option Res
  | 0, _, _ => none
  | l + 1, f, ds => match T[f]? with
    | some (.body F) => if ds.length = F.np then ended (evSs ⟨run T wh l, wh⟩ (start0 F ds) F.body) else none
    | some (.hand g) => g ds
    | none => none
end Pi
end
section
set_option Elab.async false
set_option linter.all false
set_option maxRecDepth 100000
set_option maxHeartbeats 1000000
/-! Pure data over the hand layer: alike data can be sorted, tuples without an item among them too. -/
namespace PiSrt
open PySem PySem.Calls PyProof.Rows PySem.W SeqAt
section
variable {prog : Program} {w : World} {A : Around} {E : Value → Shared → Prop} {s : Shared}
theorem call_tuple_lt {Q : Value → Shared → Prop} {l b : Addr} {items items2 : Array Value} {e r : Nat → Bool} (hl : s.heap.IsTuple l items) (hb : s.heap.IsTuple b items2)
    (he : ∀ j (h1 : j < items.size) (h2 : j < items2.size), EqAt A.in1 s items[j] items2[j] (e j)) (hr : ∀ j (h1 : j < items.size) (h2 : j < items2.size), e j = false → RcLt A.in1 s items[j] items2[j] (r j))
    (h : Q (.bool (firstLt e r (decide (items.size < items2.size)) (List.range (min items.size items2.size)))) s) : wpAny (model prog w) A (call (.builtin "tuple.__lt__") [.ref l, .ref b]) Q E s := by
  obtain ⟨⟨cls, dd, data, sl⟩, ho, hc, n, hd⟩ := id hl
  obtain ⟨⟨cls2, dd2, data2, sl2⟩, ho2, hc2, n2, hd2⟩ := id hb
  simp only at hc hd hc2 hd2
  subst hc hd hc2 hd2
  exact call_meets F.slot_tuple_lt ⟨_, ho, rfl⟩ F.entry_tuple_lt (F.args_tuple_lt_2 _ _) (tuple_ltAt l b items items2 n n2 dd dd2 sl sl2 e r) ⟨ho, ho2, he, hr, h⟩
/-- one key against another -/
theorem oneLt_all {f : Bool} {da db : PyData} {a b : Value} {as bs : List Addr} {Q : Bool → Shared → Prop} (ra : Reads s.heap a da as) (rb : Reads s.heap b db bs) (h : alike da db = true) (hn : da ≠ .none)
    (hu : A.units + min da.depth db.depth < cLine) (hq : Q (dataLt da db) s) : wpAny (model prog w) A (oneLt' f a b) Q E s := by
  by_cases ht : f = true ∧ ∃ xs, da = .tuple xs
  · obtain ⟨rfl, xs, rfl⟩ := ht
    cases db with
    | tuple ys =>
      have hal : alikeAll xs ys = true := by simpa [alike] using h
      cases ra with
      | @tuple l o vs n _ as₁ h1 h2 h3 h4 =>
        cases rb with
        | @tuple l' o' vs' n' _ bs₁ k1 k2 k3 k4 =>
          have n1 : vs.size = xs.length := by simpa using SeqAt.ReadsAll.length _ _ _ h4
          have n2 : vs'.size = ys.length := by simpa using SeqAt.ReadsAll.length _ _ _ k4
          rw [dataLt_tuple, ← firstLt_toks xs ys hal, ← n1, ← n2] at hq
          rw [oneLt'_eq]
          simp only [if_true]
          refine wpAny_bind (wpAny_cRoomFor (SeqAt.room_here hu) ?_)
          refine wpAny_bind (wpAny_callSpecialIfBound?_slot (T := "tuple") ⟨_, h1, h2⟩ F.slot_tuple_lt (call_tuple_lt (e := SeqAt.pairEq xs ys) (r := fun j => dataLt (xs.getD j .none) (ys.getD j .none)) ⟨_, h1, h2, _, h3⟩ ⟨_, k1, k2, _, k3⟩ (fun j j1 j2 => ?_) (fun j j1 j2 hj => ?_) ?_))
          · have := eqAt_alikeAll xs ys A.in1 s vs.toList vs'.toList _ _ h4 k4 hal (SeqAt.room_in hu) j (by simpa using j1) (by simpa using j2)
            simpa using this
          · have := rcLt_alikeAll xs ys A.in1 s vs.toList vs'.toList _ _ h4 k4 hal (SeqAt.room_in hu) j (by simpa using j1) (by simpa using j2) hj
            simpa using this
          · exact wpAny_truthy_bool hq
    | _ => exact absurd h (by simp [alike])
  · exact oneLt_alike (fun e xs z => ht ⟨e, xs, z⟩) ra rb h hn hu hq
end
section
variable {M : Model} {A : Around} {E : Value → Shared → Prop} {s : Shared}
/-- the first of each tuple -/
def firsts (h : Heap) : List Value → List (Option Value) → Prop
  | [], [] => True
  | v :: vs, f :: fs => (∃ (a : Addr) (o : Obj) (xs : Array Value) (n : Nat), v = .ref a ∧ h.get? a = some o ∧ o.cls = .type "tuple" ∧ o.data = .seq xs n ∧ xs[0]? = f) ∧ firsts h vs fs
  | _, _ => False
theorem firsts_ok : ∀ (vs : List Value) (fs : List (Option Value)) {Q : List (Option Value) → Shared → Prop}, firsts s.heap vs fs → Q fs s → wpAny M A (vs.mapM firstOfTuple') Q E s
  | [], [], _, _, h => by rw [List.mapM_nil]; exact wpAny_pure h
  | [], _ :: _, _, t, _ => t.elim
  | _ :: _, [], _, t, _ => t.elim
  | v :: vs, f :: fs, Q, t, h => by
    obtain ⟨⟨a, o, xs, n, rfl, ho, hc, hd, hf⟩, t⟩ := t
    rw [List.mapM_cons]
    refine wpAny_bind ?_
    rw [kas_first_eq]
    refine wpAny_bind (Looks.here (show Looks M s.heap (typeOf (.ref a)) o.cls from (Looks.ld ho).andThen .now) ?_)
    rw [hc, if_neg (by first | decide | simp)]
    refine wpAny_bind (listItems_at ho hd (wpAny_pure ?_))
    rw [hf]
    exact wpAny_bind (firsts_ok vs fs (Q := fun bs s' => wpAny M A (pure (f :: bs)) Q E s') t (wpAny_pure h))
theorem each_firsts {h : Heap} : ∀ {vs : List Value} {ds : List PyData}, EachIs (fun v d => ∃ as, Reads h v d as) vs ds → (∀ d, d ∈ ds → ∃ xs, d = .tuple xs) → ∃ fs, firsts h vs fs ∧ fs.length = vs.length ∧ ∀ (i : Nat) (d : PyData), ds[i]? = some d → (((fs[i]?).bind id).isSome = true ↔ d ≠ PyData.tuple [])
  | _, _, .nil, _ => ⟨[], trivial, rfl, fun i d hd => by simp at hd⟩
  | _, _, .cons (b := d) ⟨as, r⟩ t, ht => by
    obtain ⟨fs, h1, h2, h3⟩ := each_firsts t fun d hd => ht d (List.mem_cons_of_mem _ hd)
    obtain ⟨xs, rfl⟩ := ht d (List.mem_cons_self ..)
    cases r with
    | @tuple a o us n _ _ ho hc hd hr =>
      refine ⟨us[0]? :: fs, ⟨⟨a, o, us, n, rfl, ho, hc, hd, rfl⟩, h1⟩, by rw [List.length_cons, List.length_cons, h2], fun i d' hd' => ?_⟩
      cases i with
      | zero =>
        have e : PyData.tuple xs = d' := by simpa using hd'
        subst e
        show ((some us[0]?).bind id).isSome = true ↔ _
        simp only [Option.bind_some, id]
        cases q : us.toList with
        | nil =>
          rw [q] at hr
          cases hr
          have e0 : us = #[] := by
            apply Array.ext'
            simpa using q
          subst e0
          simp
        | cons f fr =>
          rw [q] at hr
          cases hr with
          | cons r1 r2 =>
            have hf : us[0]? = some f := by rw [← Array.getElem?_toList, q]; rfl
            rw [hf]
            simp
      | succ i => exact h3 i d' (by simpa using hd')
/-- tuples, one of them without an item -/
theorem kind_tuples {vs : List Value} {fs : List (Option Value)} {Q : SortKind → Shared → Prop} (h2 : 2 ≤ vs.length) (t : firsts s.heap vs fs) (hl : fs.length = vs.length) (hall : fs.all (·.isSome) = false) (hT : ∀ v ∈ vs, Looks M s.heap (typeOf v) (.type "tuple"))
    (h : ((fs[0]?.bind id).isSome = true → Q general' s) ∧ ((fs[0]?.bind id).isSome = false → Q oneType' s)) :
    wpAny M A (keyKind' vs.toArray) Q E s := by
  rw [kat_kind_eq, List.mapM_toArray, map_eq_pure_bind]
  refine wpAny_bind (wpAny_bind (firsts_ok vs fs t (wpAny_pure ?_)))
  have e1 : (fs.toArray.all fun x => x.isSome) = false := by simpa using hall
  rw [if_neg (by rw [e1]; exact Bool.false_ne_true)]
  have e2 : fs.toArray[0]? = fs[0]? := by simp
  rw [e2]
  cases q : (fs[0]?.bind id).isSome with
  | true =>
    rw [if_pos rfl]
    exact wpAny_pure (h.1 q)
  | false =>
    rw [if_neg Bool.false_ne_true]
    rw [oneTypeOnly'_eq, List.mapM_toArray, map_eq_pure_bind]
    refine wpAny_bind (wpAny_bind (wpAny_bind (kas_mapM (r := .type "tuple") _ (fun v hv Q' hq => (hT v hv).here hq) (wpAny_pure ?_))))
    have hall2 : ((List.map (fun _ => Value.type "tuple") vs).toArray.all fun x => x == Value.type "tuple") = true := by
      simp only [List.all_toArray, List.all_map, List.all_eq_true]
      intro _ _
      exact beq_self_eq_true _
    have h0 : (List.map (fun _ => Value.type "tuple") vs).toArray[0]? = some (Value.type "tuple") := by
      cases vs with
      | nil => simp at h2
      | cons v r => simp
    rw [h0]
    simp only [hall2, if_true]
    exact wpAny_pure (wpAny_pure (h.2 q))
end
section
variable {prog : Program} {w : World} {A : Around} {s : Shared}
theorem keyLt_general (x y : Value) : keyLt' general' x y = oneLt' false x y := rfl
/-- values that read as alike data (not None) can be sorted -/
theorem sortsAt {vs : List Value} {ds : List PyData} (e : EachIs (fun v d => ∃ as, Reads s.heap v d as) vs ds) (hal : AllAlike ds) (hn : ∀ d ∈ ds, d ≠ .none) (hu : ∀ d, d ∈ ds → A.units + d.depth < cLine) : SortsAt prog w A s (dataKind s.heap ds) vs := by
  by_cases h0 : ∃ xs, PyData.tuple xs ∈ ds
  · obtain ⟨xs0, m0⟩ := h0
    have htup : ∀ d ∈ ds, ∃ xs, d = .tuple xs := fun d hd => by
      have := hal d hd _ m0
      cases d <;> first | exact ⟨_, rfl⟩ | exact absurd this (by simp [alike])
    by_cases h1 : PyData.tuple [] ∈ ds
    · have room : ∀ {d d' : PyData}, d ∈ ds → A.units + min d.depth d'.depth < cLine := fun {d d'} hd => Nat.lt_of_le_of_lt (Nat.add_le_add_left (Nat.min_le_left _ _) _) (hu d hd)
      obtain ⟨fs, t1, t2, t3⟩ := each_firsts e htup
      have hl := e.length
      obtain ⟨i, hi⟩ := List.getElem?_of_mem h1
      have hall : fs.all (·.isSome) = false := by
        rw [Bool.eq_false_iff]
        intro z
        have h9 := (t3 i _ hi)
        have hi' : i < fs.length := by
          have := (List.getElem?_eq_some_iff.mp hi).1
          omega
        have := List.all_eq_true.mp z fs[i] (List.getElem_mem hi')
        rw [List.getElem?_eq_getElem hi'] at h9
        exact h9.mp this rfl
      have looks : ∀ v ∈ vs, Looks (model prog w) s.heap (typeOf v) (.type "tuple") := fun v hv => by
        obtain ⟨d, hd, as, r⟩ := e.left v hv
        obtain ⟨xs, rfl⟩ := htup d hd
        exact looks_reads r
      have lt : ∀ f : Bool, ∀ (E : Value → Shared → Prop) (x y : Value) (a b : List (Int ⊕ List Nat)) (Q : Bool → Shared → Prop), (dataKind s.heap ds).keyOf x = some a → (dataKind s.heap ds).keyOf y = some b → Q (PyProof.Rows.lexLt itemOrd a b) s → wpAny (model prog w) A (oneLt' f x y) Q E s := by
        intro f E x y a b Q ha hb hq
        obtain ⟨d, as, hd, ra, rfl⟩ := dataKind_inv ha
        obtain ⟨d', as', hd', rb, rfl⟩ := dataKind_inv hb
        exact oneLt_all ra rb (hal d hd d' hd') (hn d hd) (room hd) hq
      refine ⟨fun v hv => ?_, ?_⟩
      · obtain ⟨d, hd, as, r⟩ := e.left v hv
        exact ⟨_, dataKind_some hal hd r⟩
      · cases q : (fs[0]?.bind id).isSome with
        | true =>
          refine ⟨general', fun E x y a b Q ha hb hq => ?_, fun h2 E Q hq => kind_tuples h2 t1 t2 hall looks ⟨fun _ => hq, fun z => absurd (q.symm.trans z) (by decide)⟩⟩
          rw [keyLt_general]
          exact lt false E x y a b Q ha hb hq
        | false =>
          refine ⟨oneType', fun E x y a b Q ha hb hq => ?_, fun h2 E Q hq => kind_tuples h2 t1 t2 hall looks ⟨fun z => absurd (q.symm.trans z) (by decide), fun _ => hq⟩⟩
          rw [keyLt'_oneType]
          exact lt true E x y a b Q ha hb hq
    · refine SortsAt.data e hal (.inl fun d hd => ?_) hu
      obtain ⟨xs, rfl⟩ := htup d hd
      cases xs with
      | nil => exact absurd hd h1
      | cons x r => exact ⟨x, r, rfl⟩
  · exact SortsAt.data e hal (.inr fun d hd => ⟨hn d hd, fun xs z => h0 ⟨xs, by rw [← z]; exact hd⟩⟩) hu
/-- sorted(xs) -/
theorem sorted_all {β : Type} {R : Value → β → Prop} {enc : β → PyData} {vs : List Value} {bs : List β} {E : Value → Shared → Prop} {l : Addr} {Q : Value → Shared → Prop} (hl : s.heap.IsList l vs.toArray) (e : EachIs R vs bs) (er : EachIs (fun v b => ∃ as, Reads s.heap v (enc b) as) vs bs) (hal : AllAlike (bs.map enc)) (hn : ∀ d ∈ bs.map enc, d ≠ .none) (hL : bs.length ≤ sizeLine)
    (hu : ∀ b, b ∈ bs → A.units + 2 + (enc b).depth < cLine) (h : ∀ out, out.length = bs.length → EachIs R out (bs.mergeSort (dataLe false enc)) → Q (.ref (s.heap.objs.size + 1)) { s with heap := sortedAll s.heap vs (List.toArray out) }) :
    wpAny (model prog w) A (call (.builtin "sorted") [.ref l]) Q E s := by
  have er' : EachIs (fun v b => ∃ as, Reads (sortingHeap (copyHeap s.heap vs) (s.heap.objs.size + 1) vs) v (enc b) as) vs bs := er.mono fun _ _ ⟨as, r⟩ => ⟨as, PyProof.Rows.Reads.keeps (fun _ _ => sorting_copy_old) r⟩
  exact sorted_vals hl (sortsAt (s := { s with heap := sortingHeap (copyHeap s.heap vs) (s.heap.objs.size + 1) vs }) (each_map (R := fun v d => ∃ as, Reads (sortingHeap (copyHeap s.heap vs) (s.heap.objs.size + 1) vs) v d as) enc er') hal hn (bound_map hu)) (by rw [e.length]; exact hL)
    (h _ (by rw [sortVals_length false rfl]; exact e.length) (sortVals_data false e er' hal))
end
end PiSrt
end
section
set_option Elab.async false
set_option linter.all false
set_option maxRecDepth 100000
set_option maxHeartbeats 2000000
/-! Pure data over the hand layer: sorted, with a def as the key too. -/
namespace Pi
open PySem PySem.Spec PyProof.Rows L2
open PySem.W (EachIs)
theorem insBy_split {β : Type} {le : β → β → Bool} {a : β} : ∀ (l₁ l₂ : List β), (∀ b ∈ l₁, le a b = false) → (∀ b ∈ l₂, le a b = true) → insBy le a (l₁ ++ l₂) = l₁ ++ a :: l₂
  | [], [], _, _ => rfl
  | [], b :: l, _, h => by
    show (if le a b then a :: b :: l else b :: insBy le a l) = _
    rw [if_pos (h b (by simp))]
    rfl
  | b :: l₁, l₂, h, h2 => by
    show (if le a b then a :: b :: (l₁ ++ l₂) else b :: insBy le a (l₁ ++ l₂)) = _
    rw [if_neg (by rw [h b (by simp)]; exact Bool.false_ne_true), insBy_split l₁ l₂ (fun c hc => h c (by simp [hc])) h2]
    rfl
theorem isort_eq {β : Type} {le : β → β → Bool} (tr : ∀ a b c : β, le a b = true → le b c = true → le a c = true) (to : ∀ a b : β, (le a b || le b a) = true) : ∀ l : List β, isort le l = l.mergeSort le
  | [] => by simp [isort]
  | a :: l => by
    obtain ⟨l₁, l₂, h1, h2, h3⟩ := List.mergeSort_cons tr to a l
    show insBy le a (isort le l) = _
    rw [isort_eq tr to l, h2, h1]
    have hp := List.pairwise_mergeSort tr to (a :: l)
    rw [h1] at hp
    refine insBy_split l₁ l₂ (fun b hb => by simpa using h3 b hb) fun b hb => ?_
    have := (List.pairwise_append.mp hp).2.1
    exact (List.pairwise_cons.mp this).1 b hb
theorem sortBy_ms {β : Type} (k : β → PyData) (bs : List β) : sortBy k bs = bs.mergeSort (PySem.W.dataLe false k) := by
  have h := PySem.W.sortLe_total (listOrd itemOrd) false (fun b : β => PySem.W.keyToks (k b) : β → (listOrd itemOrd).α)
  exact isort_eq h.trans (fun a b => by rw [Bool.or_eq_true]; exact h.total a b) bs
theorem sortOk_at {ds : List PyData} (h : sortOk ds = true) : ds.length ≤ sizeLine ∧ (∀ d ∈ ds, PyData.canLay0 d = true ∧ d.depth ≤ 60 ∧ d ≠ .none) ∧ PySem.W.AllAlike ds := by
  unfold sortOk at h
  simp only [Bool.and_eq_true, decide_eq_true_eq, List.all_eq_true, Bool.not_eq_true'] at h
  obtain ⟨⟨h1, h2⟩, h3⟩ := h
  refine ⟨h1, fun d hd => ⟨(h2 d hd).1.1, (h2 d hd).1.2, fun z => ?_⟩, fun d hd d' hd' => h3 d hd d' hd'⟩
  have := (h2 d hd).2
  rw [z] at this
  cases this
theorem canLays : ∀ {ds : List PyData}, (∀ d ∈ ds, PyData.canLay0 d = true) → PyData.canLayAll0 ds = true
  | [], _ => by simp [PyData.canLayAll0]
  | d :: ds, h => by
    simp only [PyData.canLayAll0, Bool.and_eq_true]
    exact ⟨h d (by simp), canLays fun e he => h e (by simp [he])⟩
/-! ### adopting an object of ours -/
section
variable {X : Cx} {pins : List (Addr × Obj)} {σ : L2.St} {H : Hp} {s : Shared}
theorem Inv.adopt {a : Addr} {o : HO} (I : Inv X pins σ H s) (f : FpOk X pins H a) (hs : X.s_0.heap.objs.size ≤ a) (new : ObjOk X.prog X.w (upd H a o) s.heap a o) : Inv X pins σ (upd H a o) s := by
  obtain ⟨f0, f1, f2, f3, f4, f5⟩ := f
  have ne0 : ∀ {b : Addr} {u : HO}, H b = some u → b ≠ a := fun {b u} e z => by rw [z, f0] at e; cases e
  have nb : ∀ {b : Addr} {u : Obj}, X.s_0.heap.get? b = some u → b ≠ a := fun {b u} e z => by
    rw [z] at e
    exact Nat.lt_irrefl _ (Nat.lt_of_lt_of_le (Heap.lt_size e) hs)
  refine ⟨I.ok, I.os, I.bare, ⟨I.base.keep, I.base.slot, fun b u e n hx => ?_, I.base.there, fun b xs e => ?_, fun b u xs e => ?_, fun b ps e => ?_⟩, I.loc, I.cell, ?_, fun x c e => ?_, fun p hp => ?_, ?_, I.len⟩
  · rw [upd_ne (nb e)]
    exact I.base.free b u e n hx
  · have := I.base.tups b xs e
    rw [upd_ne (ne0 this)]; exact this
  · have := I.base.frzs b u xs e
    rw [upd_ne (ne0 this)]; exact this
  · obtain ⟨more, this⟩ := I.base.tbls b ps e
    exact ⟨more, by rw [upd_ne (ne0 this)]; exact this⟩
  · rw [upd_ne (Ne.symm f1)]; exact I.free
  · rw [upd_ne (f4 x c e)]; exact I.freeC x c e
  · obtain ⟨e1, e2, e3⟩ := I.pin p hp
    exact ⟨e1, by rw [upd_ne (f5 p hp)]; exact e2, e3⟩
  · intro b u e
    by_cases hb : b = a
    · subst hb
      rw [upd_same] at e
      cases e
      exact new
    · rw [upd_ne hb] at e
      refine (I.hok b u e).stay (fun _ _ _ q => q) (fun d q => by rw [upd_ne (ne0 q)]; exact q) fun d xs q => by rw [upd_ne (ne0 q)]; exact q
/-- two records of ours have turned -/
theorem Inv.turned2 {t' : Nat} {h' : Heap} {a b : Addr} (I : Inv X pins σ H s) (k : ∀ c o, c ≠ a → c ≠ b → s.heap.get? c = some o → h'.get? c = some o) (fa : FpOk X pins H a) (fb : FpOk X pins H b) : Inv X pins σ H { s with heap := h', toks := t' } := by
  have ne : ∀ {c : Addr} {u : HO}, H c = some u → c ≠ a ∧ c ≠ b := fun {c u} e => ⟨ne_of_none e fa.1, ne_of_none e fb.1⟩
  have nm : ∀ {c : Addr}, c ∉ [a, b] → c ≠ a ∧ c ≠ b := fun {c} h => ⟨fun z => h (by simp [z]), fun z => h (by simp [z])⟩
  refine I.step (g' := s.gens) (d' := s.drawn) (ch := [a, b]) (fun c hc => ?_) (fun c o _ _ hc e _ => k c o (nm hc).1 (nm hc).2 e) (fun c o _ _ hc e _ => ⟨o.slots, k c o (nm hc).1 (nm hc).2 e⟩) (fun _ _ _ _ n => n)
    (fun c o hc e => ⟨o, k c o (nm hc).1 (nm hc).2 e⟩) (fun _ _ e => e) (fun _ _ _ e => e) (fun c ps e => ⟨#[], by rw [e]; simp⟩) (fun m hm => ?_) (fun c u e => ?_) I.bare
  · rcases List.mem_cons.mp hc with z | hc
    · rw [z]
      exact ⟨fa.2.2.2.1, fa.2.1, fa.2.2.2.2.1, fa.2.2.2.2.2⟩
    · rw [List.mem_singleton.mp hc]
      exact ⟨fb.2.2.2.1, fb.2.1, fb.2.2.2.2.1, fb.2.2.2.2.2⟩
  · obtain ⟨o, es, ep, ho, r⟩ := hm
    exact ⟨o, es, ep, k _ o (Ne.symm fa.2.1) (Ne.symm fb.2.1) ho, r⟩
  · refine (I.hok c u e).stay (fun d v hd q => k d v ?_ ?_ q) (fun _ q => q) fun _ _ q => q
    · rcases hd with z | z
      · rw [z]; exact (ne e).1
      · exact (ne z).1
    · rcases hd with z | z
      · rw [z]; exact (ne e).2
      · exact (ne z).2
end
theorem each_zip {R : Value → V × PyData → Prop} : ∀ {vs : List V} {us : List Value} {ds : List PyData}, Vals vs us → vs.length = ds.length → (∀ (i : Nat) (v : V) (u : Value) (d : PyData), vs[i]? = some v → us[i]? = some u → ds[i]? = some d → R u (v, d)) → EachIs R us (vs.zip ds)
  | _, _, [], r, hl, _ => by
    cases r with
    | nil => exact .nil
    | cons _ _ => simp at hl
  | _, _, d :: ds, r, hl, h => by
    cases r with
    | nil => simp at hl
    | cons a t => exact .cons (h 0 _ _ d rfl rfl rfl) (each_zip t (by simpa using hl) fun i v u e h1 h2 h3 => h (i + 1) v u e h1 h2 h3)
theorem vals_each {R : Value → V × PyData → Prop} (h1 : ∀ u p, R u p → RelV p.1 u) : ∀ {us : List Value} {bs : List (V × PyData)}, EachIs R us bs → Vals (bs.map (·.1)) us
  | _, _, .nil => .nil
  | _, _, .cons a t => .cons (h1 _ _ a) (vals_each h1 t)
theorem fd_each {R : Value → V × PyData → Prop} {F : Hp} (h1 : ∀ u p, R u p → Fd F p.1 p.2) : ∀ {us : List Value} {bs : List (V × PyData)}, EachIs R us bs → FdAll F (bs.map (·.1)) (bs.map (·.2))
  | _, _, .nil => .nil
  | _, _, .cons a t => .cons (h1 _ _ a) (fd_each h1 t)
theorem map_zip {α β : Type} : ∀ {xs : List α} {ys : List β}, xs.length = ys.length → (xs.zip ys).map Prod.snd = ys
  | [], [], _ => rfl
  | _ :: _, _ :: _, h => by simp [map_zip (by simpa using h)]
  | [], _ :: _, h => by simp at h
  | _ :: _, [], h => by simp at h
theorem reads_each {h : Heap} : ∀ {us : List Value} {ds : List PyData} {as : List Addr}, ReadsAll h us ds as → EachIs (fun u d => ∃ as, Reads h u d as) us ds
  | _, [], _, r => by cases r; exact .nil
  | _, _ :: _, _, r => by
    cases r with
    | cons a b => exact .cons ⟨_, a⟩ (reads_each b)
section
variable {X : Cx} {ts : List Addr} {ds : List PyData}
theorem sort_map {β : Type} (k : β → PyData) (bs : List β) : (sortBy k bs).map k = sortBy id (bs.map k) := by
  rw [sortBy_ms, sortBy_ms]
  exact List.map_mergeSort (fun a _ b _ => rfl)
/-- a new list at a -/
theorem new_list {pins : List (Addr × Obj)} {σ : L2.St} {F H : Hp} {s : Shared} {a : Addr} {vs : List V} {ds : List PyData} {Q : VK} (fz : Fz ts F H) (hH : H a = none) (h : FdAll F vs ds) (I : Inv X pins σ (upd H a (.lst vs)) s)
    (q : ∀ v F' H', Grow ts F H F' H' → RR H F' H' v (.new ds) → Q v H') : EP X pins σ Q (.ref a) s :=
  ⟨.ref a, _, I, rfl, q _ F _ (Grow.fresh fz hH) ⟨a, vs, rfl, hH, fz.noF hH, upd_same, h⟩⟩
theorem sorted_run {pins : List (Addr × Obj)} {σ : L2.St} {F H : Hp} {s : Shared} {p : Addr} {vs : List V} {Q : VK} (hu : X.A.units + 65 < cLine) (I : Inv X pins σ H s) (fz : Fz ts F H) (hp : H p = some (.lst vs)) (hv : FdAll F vs ds) (hok : sortOk ds = true)
    (q : ∀ v F' H', Grow ts F H F' H' → RR H F' H' v (.new (sortBy id ds)) → Q v H') : wpAny (model X.prog X.w) X.A (call (.builtin "sorted") [.ref p]) (EP X pins σ Q) X.xe s := by
  obtain ⟨hL, hd, hal⟩ := sortOk_at hok
  obtain ⟨its, rv, pl, hz⟩ := I.list (SqL.of hp)
  obtain ⟨as, hr⟩ := Dp.readsAll I ds vs its (FdAll_dp fz.sub hv (canLays fun d h => (hd d h).1)) rv
  have hl := dp_length hv
  have e1 : EachIs (fun u (x : V × PyData) => RelV x.1 u ∧ Fd F x.1 x.2) its (vs.zip ds) := each_zip rv hl fun i v u d h1 h2 h3 => by
    obtain ⟨u', k1, k2⟩ := rv.get h1
    rw [h2] at k1
    cases k1
    obtain ⟨v', k3, k4⟩ := dp_get hv h3
    rw [h1] at k3
    cases k3
    exact ⟨k2, k4⟩
  have e2 : EachIs (fun u (x : V × PyData) => ∃ as, Reads s.heap u x.2 as) its (vs.zip ds) := by
    have := reads_each hr
    have hm : (vs.zip ds).map Prod.snd = ds := map_zip hl
    rw [← hm] at this
    exact each_zip rv hl fun i v u d h1 h2 h3 => by
      have hz2 : (u, d) ∈ its.zip ds := List.mem_of_getElem? (i := i) (by rw [List.getElem?_zip_eq_some]; exact ⟨h2, h3⟩)
      exact (reads_each hr).zip _ hz2
  refine PiSrt.sorted_all (enc := Prod.snd) pl.isList e1 e2 (by rw [map_zip hl]; exact hal) (by rw [map_zip hl]; exact fun d h => (hd d h).2.2) (by rw [List.length_zip]; omega) (fun b hb => ?_) fun out ho eo => ?_
  · have := (hd b.2 (by have := List.of_mem_zip hb; exact this.2)).2.1
    omega
  · obtain ⟨c, hc⟩ := PyProof.Rows.sortedAll_at s.heap its out.toArray
    have hsz : s.heap.objs.size ≤ s.heap.objs.size + 1 := Nat.le_succ _
    have hH := I.hok.fresh hsz
    have hlen : ((sortBy Prod.snd (vs.zip ds)).map (·.1)).length ≤ sizeLine := by
      rw [List.length_map]
      rw [sortBy_ms]
      rw [List.length_mergeSort, List.length_zip]
      omega
    have I2 := I.laid (t' := s.toks) (a := s.heap.objs.size + 1) (o := .lst ((sortBy Prod.snd (vs.zip ds)).map (·.1))) (h' := PyProof.Rows.sortedAll s.heap its out.toArray) (fun _ _ => PyProof.Rows.sortedAll_old) hsz ⟨hlen, out, c, by rw [sortBy_ms]; exact vals_each (fun u p h => h.1) eo, hc⟩
    have hf : FdAll F ((sortBy Prod.snd (vs.zip ds)).map (·.1)) (sortBy id ds) := by
      have := fd_each (F := F) (fun u p h => h.2) eo
      have e : (sortBy Prod.snd (vs.zip ds)).map (·.2) = sortBy id ds := by
        rw [sort_map, map_zip hl]
      rw [← sortBy_ms, e] at this
      exact this
    exact new_list fz hH hf I2 q
end
end Pi
end
section
set_option Elab.async false
set_option linter.all false
set_option maxRecDepth 100000
set_option maxHeartbeats 2000000
/-! Pure data over the hand layer: sorted with a def as the key. -/
namespace Pi
open PySem PySem.Spec PyProof.Rows L2
open PySem.W (EachIs KeyedOut)
theorem keysD_cons {f : List PyData → Option Res} {d : PyData} {ds ks : List PyData} (h : keysD f (d :: ds) = some ks) : ∃ k r, f [d] = some (.val k) ∧ keysD f ds = some r ∧ ks = k :: r := by
  unfold keysD at h
  rw [Option.bind_eq_some_iff] at h
  obtain ⟨r, h1, h2⟩ := h
  cases r with
  | val k =>
    simp only [Option.map_eq_some_iff] at h2
    obtain ⟨r, h2, h3⟩ := h2
    exact ⟨k, r, h1, h2, h3.symm⟩
  | new xs => cases h2
theorem keysD_len {f : List PyData → Option Res} : ∀ {ds ks : List PyData}, keysD f ds = some ks → ks.length = ds.length
  | [], _, h => by cases h; rfl
  | d :: ds, ks, h => by
    obtain ⟨k, r, _, h2, rfl⟩ := keysD_cons h
    simp [keysD_len h2]
theorem keysD_at {f : List PyData → Option Res} : ∀ {ds ks : List PyData} {i : Nat} {d : PyData}, keysD f ds = some ks → ds[i]? = some d → ∃ k, ks[i]? = some k ∧ f [d] = some (.val k)
  | [], _, _, _, _, e => by simp at e
  | d' :: ds, ks, 0, d, h, e => by
    obtain ⟨k, r, h1, _, rfl⟩ := keysD_cons h
    have : d' = d := by simpa using e
    subst this
    exact ⟨k, rfl, h1⟩
  | d' :: ds, ks, i + 1, d, h, e => by
    obtain ⟨k, r, _, h2, rfl⟩ := keysD_cons h
    obtain ⟨k', h3, h4⟩ := keysD_at (i := i) h2 (by simpa using e)
    exact ⟨k', by simpa using h3, h4⟩
section
variable {X : Cx} {ts : List Addr} {ds : List PyData} {f : List PyData → Option Res} {fa : Addr} {fd : FuncData} {ps : List Str} {k : Nat}
theorem fd_ofKeys {F : Hp} {R : Value → V × PyData × PyData → Prop} (h1 : ∀ u p, R u p → Fd F p.1 p.2.1) : ∀ {us : List Value} {bs : List (V × PyData × PyData)}, EachIs R us bs → FdAll F (bs.map (·.1)) (bs.map (·.2.1))
  | _, _, .nil => .nil
  | _, _, .cons a t => .cons (h1 _ _ a) (fd_ofKeys h1 t)
theorem vals_ofKeys {R : Value → V × PyData × PyData → Prop} (h1 : ∀ u p, R u p → RelV p.1 u) : ∀ {us : List Value} {bs : List (V × PyData × PyData)}, EachIs R us bs → Vals (bs.map (·.1)) us
  | _, _, .nil => .nil
  | _, _, .cons a t => .cons (h1 _ _ a) (vals_ofKeys h1 t)
theorem each_zip3 {R : Value → V × PyData × PyData → Prop} : ∀ {vs : List V} {us : List Value} {ds ks : List PyData}, Vals vs us → vs.length = ds.length → ks.length = ds.length → (∀ (i : Nat) (v : V) (u : Value) (d e : PyData), vs[i]? = some v → us[i]? = some u → ds[i]? = some d → ks[i]? = some e → R u (v, d, e)) → EachIs R us (vs.zip (ds.zip ks))
  | _, _, [], _, r, hl, _, _ => by
    cases r with
    | nil => exact .nil
    | cons _ _ => simp at hl
  | _, _, d :: ds, [], r, hl, hk, _ => by simp at hk
  | _, _, d :: ds, e :: ks, r, hl, hk, h => by
    cases r with
    | nil => simp at hl
    | cons a t => exact .cons (h 0 _ _ d e rfl rfl rfl rfl) (each_zip3 t (by simpa using hl) (by simpa using hk) fun i v u d' e' h1 h2 h3 h4 => h (i + 1) v u d' e' h1 h2 h3 h4)
theorem sortKey_run {pins : List (Addr × Obj)} {σ : L2.St} {F H : Hp} {s : Shared} {p : Addr} {vs : List V} {ds : List PyData} {r : Res} {Q : VK} (hc : X.calm = true) (hu : X.A.units + 65 < cLine) (hr : Room k X.A.in1.in1)
    (hF : FnOk X.prog X.w X.K X.mg X.base CX0 k fa fd ps (fun vs H Q _ => ∃ F ds r, FdAll F vs ds ∧ Fz ts F H ∧ ds.length = ps.length ∧ f ds = some r ∧ ∀ v F' H', Grow ts F H F' H' → RR H F' H' v r → Q v H')) (hb : Binds X.K fd ps []) (hlen : ∀ ds r, f ds = some r → ds.length = ps.length)
    (I : Inv X pins σ H s) (fz : Fz ts F H) (hp : H p = some (.lst vs)) (hv : FdAll F vs ds) (hs : sortKeyD f ds = some r)
    (q : ∀ v F' H', Grow ts F H F' H' → RR H F' H' v r → Q v H') : wpAny (model X.prog X.w) X.A (call (.builtin "sorted") [.ref p] [(Str.ofString "key", .ref fa)]) (EP X pins σ Q) X.xe s := by
  unfold sortKeyD at hs
  rw [Option.bind_eq_some_iff] at hs
  obtain ⟨kz, hk, hs⟩ := hs
  by_cases hok : sortOk kz = true
  rotate_left
  · rw [if_neg hok] at hs; cases hs
  rw [if_pos hok] at hs
  cases hs
  obtain ⟨hkL, hkd, hkal⟩ := sortOk_at hok
  have hkl := keysD_len hk
  obtain ⟨its, rv, pl, hz⟩ := I.list (SqL.of hp)
  have hl := dp_length hv
  have hil : its.length = vs.length := rv.length.symm
  refine PySem.W.sorted_of_sort pl.isList (by omega) (PyProof.Rows.ksk_s1 _ _) (fun _ => PyProof.Rows.ksk_l1 _ _) fun E' => ?_
  rw [PyProof.Rows.ksk_t1]
  generalize ha : s.heap.objs.size + 1 = a
  have hcp : (PySem.W.copyHeap s.heap its).get? a = some (seqObj "list" its.toArray 0) := by rw [← ha]; exact PySem.W.copyHeap_at s.heap its
  obtain ⟨e1, ho1⟩ : ∃ e1, ((PySem.W.copyHeap s.heap its).update a (Obj.mapSeq fun _ => (#[] : Array Value))).get? a = some (seqObj "list" #[] e1) := ⟨_, get?_update_seq hcp fun _ => #[]⟩
  unfold ksk_tree
  refine wpAny_bind (listItems_at hcp rfl ?_)
  refine wpAny_bind (listUpdate_at hcp rfl ?_ (by rw [List.size_toArray]; omega) (Nat.zero_le _))
  refine wpAny_bind (seqEpoch_at ho1 rfl ?_)
  refine wpAny_bind (wpAny_newTuple ?_ (by show its.length ≤ _; omega))
  refine wpAny_bind (wpAny_newList ?_ (Nat.zero_le _))
  refine wpAny_holding ?_
  generalize hh2 : ((PySem.W.copyHeap s.heap its).update a (Obj.mapSeq fun _ => (#[] : Array Value))).push (seqObj "tuple" its.toArray 0) = h2
  generalize hkS : h2.objs.size = kS
  have szC : (PySem.W.copyHeap s.heap its).objs.size = a + 1 := by
    unfold PySem.W.copyHeap
    rw [size_push', Heap.size_update, size_push', ha]
  have sz2 : h2.objs.size = a + 1 + 1 := by rw [← hh2, size_push', Heap.size_update, szC]
  have kold : ∀ b o, s.heap.get? b = some o → (h2.push (seqObj "list" #[] 0)).get? b = some o := fun b o e => by
    have hlt := Heap.lt_size e
    refine Heap.get?_push_of_some _ ?_
    rw [← hh2]
    refine Heap.get?_push_of_some _ ?_
    rw [Heap.get?_update_ne _ _ _ _ (by rw [← ha]; exact Nat.ne_of_lt (Nat.lt_succ_of_lt hlt))]
    exact PySem.W.copyHeap_old e
  have ka : (h2.push (seqObj "list" #[] 0)).get? a = some (seqObj "list" #[] e1) := by
    refine Heap.get?_push_of_some _ ?_
    rw [← hh2]
    exact Heap.get?_push_of_some _ ho1
  have kkS : (h2.push (seqObj "list" #[] 0)).get? kS = some (seqObj "list" #[] 0) := by
    rw [← hkS]
    exact Heap.get?_push_size _ rfl
  have ha0 : s.heap.objs.size ≤ a := by rw [← ha]; exact Nat.le_succ _
  have hkS0 : s.heap.objs.size ≤ kS := by rw [← hkS, sz2, ← ha]; exact Nat.le_trans (Nat.le_succ _) (Nat.le_trans (Nat.le_succ _) (Nat.le_succ _))
  have hka : kS ≠ a := by rw [← hkS, sz2]; exact Nat.ne_of_gt (Nat.lt_trans (Nat.lt_succ_self _) (Nat.lt_succ_self _))
  have I1 : Inv X pins σ H { s with heap := h2.push (seqObj "list" #[] 0) } := I.kept (t' := s.toks) kold
  have fpA : ∀ {H' : Hp}, H' a = none → FpOk X pins H' a := fun {H'} n => I.fpOk ha0 n
  have fpK : ∀ {H' : Hp}, H' kS = none → FpOk X pins H' kS := fun {H'} n => I.fpOk hkS0 n
  have nA : H a = none := I.hok.fresh ha0
  have nK : H kS = none := I.hok.fresh hkS0
  have pinned : ∀ {H' : Hp} {s' : Shared} {kA : Array Value} {e : Nat}, Inv X pins σ H' s' → H' a = none → H' kS = none → s'.heap.get? a = some (seqObj "list" #[] e1) → s'.heap.get? kS = some (seqObj "list" kA e) →
      Inv X (pins ++ [(kS, seqObj "list" kA e), (a, seqObj "list" #[] e1)]) σ H' s' := fun {H' s' kA e} I' n1 n2 g1 g2 => I'.pins_of fun p hp => by
    rcases List.mem_append.mp hp with hp | hp
    · exact I'.pin p (List.mem_append_right _ hp)
    · rcases List.mem_cons.mp hp with z | hp
      · rw [z]
        exact ⟨g2, n2, (fpK n2).2.1, (fpK n2).2.2.1, fun v z => by cases z⟩
      · rw [List.mem_singleton.mp hp]
        exact ⟨g1, n1, (fpA n1).2.1, (fpA n1).2.2.1, fun v z => by cases z⟩
  have J0 := pinned I1 nA nK ka kkS
  show wpAny _ _ (ksk_rest a (.ref fa) false its.toArray e1 (.ref kS)) _ _ { s with heap := h2.push (seqObj "list" #[] 0) }
  unfold ksk_rest
  refine wpAny_bind (wpAny_rule ?_)
  first
    | rw [List.forIn_toArray]
    | (rw [← Array.forIn_toList]; simp only [List.toList_toArray])
    | rw [← Array.forIn_toList]
  refine wpAny_bind (ksk_fold (fun i s' => ∃ F' H' kA e kvs, Inv X (pins ++ [(kS, seqObj "list" kA e), (a, seqObj "list" #[] e1)]) σ H' s' ∧ Grow ts F H F' H' ∧ FdAll F' kvs (kz.take i) ∧ Vals kvs kA.toList) its 0 _
    ⟨F, H, #[], 0, [], J0, Grow.refl fz, by rw [List.take_zero]; exact .nil, .nil⟩ ?step ?done)
  case step =>
    rintro j x s' hx ⟨F', H', kA, e, kvs, J, g, hkf, hkv⟩
    simp only [Nat.zero_add] at hkf ⊢
    have hj : j < its.length := (List.getElem?_eq_some_iff.mp hx).1
    obtain ⟨v, hv1, hv2⟩ : ∃ v, vs[j]? = some v ∧ RelV v x := by
      obtain ⟨u, k1, k2⟩ := rv.get (List.getElem?_eq_getElem (by omega : j < vs.length))
      rw [hx] at k1
      cases k1
      exact ⟨_, List.getElem?_eq_getElem (by omega), k2⟩
    obtain ⟨d, hd1, hd2⟩ := dp_getV hv hv1
    obtain ⟨kd, hk1, hk2⟩ := keysD_at hk hd1
    have hps : ps.length = 1 := (hlen _ _ hk2).symm
    have fz' := g.fz fz
    -- the key's call
    have hsp : (fun vs H Q (_ : XK) => ∃ F ds r, FdAll F vs ds ∧ Fz ts F H ∧ ds.length = ps.length ∧ f ds = some r ∧ ∀ v F' H', Grow ts F H F' H' → RR H F' H' v r → Q v H') [v] H' (fun u H'' => ∃ F'', Grow ts F' H' F'' H'' ∧ Fd F'' u kd) (fun _ _ _ => False) :=
      ⟨F', [d], .val kd, .cons (Fd_mono g.ff hd2) .nil, fz', hps.symm, hk2, fun u F'' H'' g2 r2 => ⟨F'', g2, r2⟩⟩
    have he0 : Env0 X.prog X.w X.K X.mg X.base X.A.in1.in1 X.stack s' H' := { J.env0 with frames := J.ok.frames }
    have hrun := hF.run X.A.in1.in1 X.stack s' H' ⟨[x], []⟩ ([x] ++ []) [v] _ (fun _ _ _ => False) hr he0 (hb s' [x] J.kIn (by simpa using hps.symm)) (.cons hv2 .nil) hsp
    refine wpAny_bind (wpAny_attempt (wpAny_mono (wpAny_call (codeAny_mono hrun fun rr s'' hq => ?_) : wpAny _ _ (call (.ref fa) [x]) (fun u s'' => EP X (pins ++ [(kS, seqObj "list" kA e), (a, seqObj "list" #[] e1)]) σ (fun u H'' => ∃ F'', Grow ts F' H' F'' H'' ∧ Fd F'' u kd) u s'') (fun _ _ => False) s') (fun u s'' he => ?_) fun _ _ hF => hF.elim))
    · cases rr with
      | error e => exact hq
      | ok fl =>
        cases fl with
        | ret u => exact J.after hq
        | next => exact hq
        | brk => exact hq
        | cont => exact hq
    obtain ⟨kv, H'', J2, r2, F'', g2, hkd⟩ := he
    try dsimp only
    have pK := J2.pin (kS, seqObj "list" kA e) (List.mem_append_right _ (List.mem_append_right _ (by simp)))
    have pA := J2.pin (a, seqObj "list" #[] e1) (List.mem_append_right _ (List.mem_append_right _ (by simp)))
    have hlen : kA.size ≤ its.length := by
      have h1 := hkv.length
      have h2 := dp_length hkf
      rw [List.length_take] at h2
      have h3 : kA.toList.length = kA.size := Array.length_toList
      omega
    have s1 := Heap.SameBut.update s''.heap kS (Obj.mapSeq (·.push u))
    obtain ⟨c2, hc2⟩ : ∃ c2, (s''.heap.update kS (Obj.mapSeq (·.push u))).get? kS = some (seqObj "list" (kA.push u) c2) := ⟨_, get?_update_seq pK.1 (·.push u)⟩
    have ek : kz.take (j + 1) = kz.take j ++ [kd] := by rw [List.take_add_one, hk1]; simp
    refine wpAny_bind (listUpdate_at pK.1 rfl ?_ (by omega) (Nat.le_trans (Nat.le_of_eq (Array.size_push ..)) (by omega)))
    have J3 : Inv X pins σ H'' { s'' with heap := s''.heap.update kS (Obj.mapSeq (·.push u)) } := by
      have fk := fpK pK.2.1
      exact (J2.unpinned).turned (t' := s''.toks) (it := kS) (fun b o hb e => (s1.2 b hb).trans e) fk.1 fk.2.1 fk.2.2.2.1 fk.2.2.2.2.1 fk.2.2.2.2.2
    refine wpAny_pure ⟨rfl, F'', H'', kA.push u, c2, kvs ++ [kv], pinned J3 pA.2.1 pK.2.1 ((s1.2 a hka.symm).trans pA.1) hc2, g.trans fz.tab g2, ?_, ?_⟩
    · rw [ek]
      exact dp_append (FdAll_mono g2.ff hkf) (.cons hkd .nil)
    · rw [Array.toList_push]
      exact hkv.append (.cons r2 .nil)
  case done =>
    rintro s' ⟨F', H', kA, e, kvs, J, g, hkf, hkv⟩
    have e3 : kz.take (0 + its.length) = kz := List.take_of_length_le (by omega)
    rw [e3] at hkf
    have pK := J.pin (kS, seqObj "list" kA e) (List.mem_append_right _ (List.mem_append_right _ (by simp)))
    have pA := J.pin (a, seqObj "list" #[] e1) (List.mem_append_right _ (List.mem_append_right _ (by simp)))
    have fz' := g.fz fz
    obtain ⟨as, hrd⟩ := Dp.readsAll J kz kvs kA.toList (FdAll_dp fz'.sub hkf (canLays fun d h => (hkd d h).1)) hkv
    have hk' : EachIs (fun v k => ∃ as, Reads s'.heap v k as) kA.toList kz := reads_each hrd
    have hsz : kA.size = its.length := by
      have h1 := hk'.length
      rw [Array.length_toList] at h1
      omega
    try dsimp only
    refine wpAny_bind (listItems_at pK.1 rfl ?_)
    have hid : ∀ b o, (hidT s'.heap (fun b => if b = kS then some (.lst []) else none)).get? b = some o → s'.heap.get? b = some o ∧ b ≠ kS := fun b o z => by
      obtain ⟨z1, z2⟩ := of_hidT z
      refine ⟨z1, fun y => ?_⟩
      rw [if_pos y] at z2
      cases z2
    refine PySem.W.keyH_end (κ := PySem.W.dataKind s'.heap kz) (h₁ := hidT s'.heap (fun b => if b = kS then some (.lst []) else none)) (fun b o _ z => (hid b o z).1) ?_ pK.1 pA.1 hka (PiSrt.sortsAt hk' hkal (fun d h => (hkd d h).2.2) fun d h => ?_) hsz (by omega) fun h' tk c kp hac => ⟨rfl, ?_⟩
    · cases z : (hidT s'.heap (fun b => if b = kS then some (.lst []) else none)).get? kS with
      | none => rfl
      | some o => exact absurd rfl (hid _ _ z).2
    · have h1 := (hkd d h).2.1
      show X.A.units + 1 + 1 + d.depth < cLine
      omega
    · -- the new list
      have ko : KeyedOut false kz its (PySem.W.sortVals (PySem.W.dataKind s'.heap kz) false kA.toList its) := ⟨s'.heap, kA.toList, hkal, rfl, hk'⟩
      have hkeep : ∀ b o, b ≠ kS → b ≠ a → s'.heap.get? b = some o → h'.get? b = some o := fun b o h1 h2 z => kp b o h2 (hidT_get z (if_neg h1))
      have J4 : Inv X pins σ H' { s' with heap := h', toks := tk } := Inv.turned2 (t' := tk) (J.unpinned) hkeep (fpK pK.2.1) (fpA pA.2.1)
      have e1 : EachIs (fun u (x : V × PyData × PyData) => RelV x.1 u ∧ Fd F' x.1 x.2.1) its (vs.zip (ds.zip kz)) := each_zip3 rv hl hkl fun i v u d kd h1 h2 h3 h4 => by
        obtain ⟨u', k1, k2⟩ := rv.get h1
        rw [h2] at k1
        cases k1
        obtain ⟨v', k3, k4⟩ := dp_get hv h3
        rw [h1] at k3
        cases k3
        exact ⟨k2, Fd_mono g.ff k4⟩
      have hm1 : (vs.zip (ds.zip kz)).map Prod.snd = ds.zip kz := map_zip (by rw [List.length_zip]; omega)
      have hm : (vs.zip (ds.zip kz)).map (fun x => x.2.2) = kz := by
        have : (vs.zip (ds.zip kz)).map (fun x => x.2.2) = ((vs.zip (ds.zip kz)).map Prod.snd).map Prod.snd := by rw [List.map_map]; rfl
        rw [this, hm1, map_zip hkl.symm]
      rw [← hm] at ko
      have eo := PySem.W.keyedOut_each (fun x : V × PyData × PyData => x.2.2) ko e1
      rw [hm] at eo
      have hnA : H' a = none := pA.2.1
      have hlen : ((sortBy (fun x : V × PyData × PyData => x.2.2) (vs.zip (ds.zip kz))).map (·.1)).length ≤ sizeLine := by
        rw [List.length_map]
        rw [sortBy_ms]
        rw [List.length_mergeSort, List.length_zip, List.length_zip]
        omega
      have J5 := Inv.adopt (o := .lst ((sortBy (fun x : V × PyData × PyData => x.2.2) (vs.zip (ds.zip kz))).map (·.1))) J4 (fpA hnA) (Nat.le_trans I.sz ha0) ⟨hlen, _, c, by rw [sortBy_ms]; exact vals_ofKeys (fun u p h => h.1) eo, hac⟩
      have hf : FdAll F' ((sortBy (fun x : V × PyData × PyData => x.2.2) (vs.zip (ds.zip kz))).map (·.1)) ((sortBy (fun x : PyData × PyData => x.2) (ds.zip kz)).map (·.1)) := by
        have h1 := fd_ofKeys (F := F') (fun u p h => h.2) eo
        have h2 : (sortBy (fun x : V × PyData × PyData => x.2.2) (vs.zip (ds.zip kz))).map (fun x => x.2.1) = (sortBy (fun x : PyData × PyData => x.2) (ds.zip kz)).map (·.1) := by
          have h3 : (sortBy (fun x : V × PyData × PyData => x.2.2) (vs.zip (ds.zip kz))).map Prod.snd = sortBy (fun x : PyData × PyData => x.2) ((vs.zip (ds.zip kz)).map Prod.snd) := by
            rw [sortBy_ms, sortBy_ms]
            exact List.map_mergeSort (fun a _ b _ => rfl)
          rw [hm1] at h3
          rw [← h3, List.map_map]
          rfl
        rw [← sortBy_ms, h2] at h1
        exact h1
      exact ⟨.ref a, _, J5, rfl, q _ F' _ (g.trans fz.tab (Grow.fresh fz' hnA)) ⟨a, _, rfl, nA, fz'.noF hnA, upd_same, hf⟩⟩
end
end Pi
end
section
set_option Elab.async false
set_option linter.all false
set_option maxRecDepth 100000
/-! Pure data over the hand layer: the operations by values. -/
namespace Pi
open PySem PySem.Spec PyProof.Rows L2
section
variable {ts : List Addr} {F H : Hp} {x : V}
theorem BR_int {i : Int} (h : BR F H x (.int i)) : x = .int i := by
  rcases h with h | ⟨_, _, _, _, e, _⟩
  · cases h; rfl
  · cases e
theorem BR_str {i : Str} (h : BR F H x (.str i)) : x = .str i := by
  rcases h with h | ⟨_, _, _, _, e, _⟩
  · cases h; rfl
  · cases e
theorem BR_bool {i : Bool} (h : BR F H x (.bool i)) : x = .bl i := by
  rcases h with h | ⟨_, _, _, _, e, _⟩
  · cases h; rfl
  · cases e
theorem BR_none (h : BR F H x .none) : x = .non := by
  rcases h with h | ⟨_, _, _, _, e, _⟩
  · cases h; rfl
  · cases e
theorem BR_list {ds : List PyData} (f : Fz ts F H) (h : BR F H x (.list ds)) : ∃ p vs, x = .ref p ∧ H p = some (.lst vs) ∧ FdAll F vs ds := by
  rcases h with h | ⟨p, vs, _, e1, e, e2, e3⟩
  · cases h with
    | lst a b => exact ⟨_, _, rfl, f.sub _ _ a, b⟩
  · cases e; exact ⟨p, vs, e1, e2, e3⟩
theorem BR_tup {ds : List PyData} (f : Fz ts F H) (h : BR F H x (.tuple ds)) : ∃ p vs, x = .ref p ∧ F p = some (.tup vs) ∧ H p = some (.tup vs) ∧ FdAll F vs ds := by
  rcases h with h | ⟨_, _, _, _, e, _⟩
  · cases h with
    | tup a b => exact ⟨_, _, rfl, a, f.sub _ _ a, b⟩
  · cases e
theorem BR_scr {ds : List PyData} (f : Fz ts F H) (h : BR F H x (.dict [(.none, .list ds)])) : ∃ p o vs, x = .ref p ∧ H p = some (.frz o (.lst vs)) ∧ FdAll F vs ds := by
  rcases h with h | ⟨_, _, _, _, e, _⟩
  · cases h with
    | scr a b => exact ⟨_, _, _, rfl, f.sub _ _ a, b⟩
  · cases e
theorem BR_dp {K : PySem.W.Frag} {d : PyData} (f : Fz ts F H) (h : BR F H x d) (c : PyData.canLay0 d = true) : Dp K H x d := by
  rcases h with h | ⟨p, vs, ds, rfl, rfl, e2, e3⟩
  · exact Fd_dp f.sub h c
  · exact .lst (SqL.of e2) (FdAll_dp f.sub e3 (by simpa [PyData.canLay0] using c))
theorem isNone_eq {d : PyData} (h : BR F H x d) : isNoneD d = decide (x = .non) := by
  rcases h with h | ⟨_, _, _, rfl, rfl, _⟩
  · cases h <;> simp [isNoneD]
  · simp [isNoneD]
theorem lay_tup {ds : List PyData} (h : PyData.canLay0 (.tuple ds) = true) : PyData.canLayAll0 ds = true := by simpa [PyData.canLay0] using h
theorem shaped_lay {d : PyData} (h : SeqAt.shaped d = true) : PyData.canLay0 d = true := by
  unfold SeqAt.shaped at h
  rw [Bool.and_eq_true] at h
  exact h.1
/-- a new list -/
theorem q_list {vs : List V} {ds : List PyData} {p : Addr} (f : Fz ts F H) (hp : H p = none) (h : FdAll F vs ds) : Grow ts F H F (upd H p (.lst vs)) ∧ RR H F (upd H p (.lst vs)) (.ref p) (.new ds) :=
  ⟨Grow.fresh f hp, p, vs, rfl, hp, f.noF hp, upd_same, h⟩
/-- a new tuple -/
theorem q_tup {vs : List V} {ds : List PyData} {p : Addr} (f : Fz ts F H) (hp : H p = none) (h : FdAll F vs ds) : Grow ts F H (upd F p (.tup vs)) (upd H p (.tup vs)) ∧ RR H (upd F p (.tup vs)) (upd H p (.tup vs)) (.ref p) (.val (.tuple ds)) :=
  have g := Grow.frozen f (o := .tup vs) hp
  ⟨g, .tup upd_same (FdAll_mono g.ff h)⟩
end

/-- a two-place operation on data -/
def rD (ts : List Addr) (da db : PyData) (r : Res) : R2 := fun x y H Q => ∃ F, Fz ts F H ∧ BR F H x da ∧ BR F H y db ∧ ∀ v F' H', Grow ts F H F' H' → RR H F' H' v r → Q v H'
/-- a comparison -/
def rC (ts : List Addr) (da db : PyData) (c : Bool) : R2 := fun x y H Q => ∃ F, Fz ts F H ∧ BR F H x da ∧ BR F H y db ∧ Q (.bl c) H
theorem opR_weak {X : Cx} {f : Value → Value → Sem Value} {r u : R2} (h : OpR X f r) (w : ∀ x y H Q, u x y H Q → r x y H Q) : OpR X f u := fun pins s σ H x y v v' Q I a b q => h pins s σ H x y v v' Q I a b (w x y H Q q)
theorem callR_weak {X : Cx} {f : Value} {r u : List V → Hp → VK → Prop} (h : CallR X f r) (w : ∀ xs H Q, u xs H Q → r xs H Q) : CallR X f u := fun pins s σ H xs us Q I a q => h pins s σ H xs us Q I a (w xs H Q q)

theorem mulOk_c {i j : Int} (h : mulOk i j = true) : CMul i j := by
  unfold mulOk at h
  simp only [Bool.or_eq_true, Bool.and_eq_true, decide_eq_true_eq] at h
  exact h
section
variable {X : Cx} {ts : List Addr} {da db : PyData} {r : Res}
theorem FdAll_nil {F : Hp} {ds : List PyData} (h : FdAll F [] ds) : ds = [] := by cases h; rfl
theorem binD_ok (op : Operator) (hu : X.A.units + 64 < cLine) (h : binD op da db = some r) : OpR X (binaryOp op) (rD ts da db r) := by
  unfold binD at h
  split at h
  · cases h
    refine opR_weak op_add fun x y H Q ⟨F, f, a, b, q⟩ => ?_
    exact ⟨_, _, BR_int a, BR_int b, q _ F H (Grow.refl f) (.int _)⟩
  · split at h
    · rename_i hz
      cases h
      refine opR_weak op_add_str fun x y H Q ⟨F, f, a, b, q⟩ => ?_
      exact ⟨_, _, BR_str a, BR_str b, hz, q _ F H (Grow.refl f) (.str _)⟩
    · cases h
  · split at h
    · rename_i hz
      cases h
      refine opR_weak op_catA fun x y H Q ⟨F, f, a, b, q⟩ => ?_
      obtain ⟨p, vs, rfl, a1, a2, a3⟩ := BR_tup f a
      obtain ⟨p', ws, rfl, b1, b2, b3⟩ := BR_tup f b
      have l1 := dp_length a3
      have l2 := dp_length b3
      refine ⟨_, _, _, _, rfl, rfl, SqT.of a2, SqT.of b2, by omega, fun e => ?_, fun e1 e2 => ?_, fun _ _ p hp => ?_⟩
      · subst e
        have e : _ = [] := FdAll_nil a3
        subst e
        exact q _ F H (Grow.refl f) (.tup b1 b3)
      · subst e2
        have e : _ = [] := FdAll_nil b3
        subst e
        rw [List.append_nil] at q
        exact q _ F H (Grow.refl f) (.tup a1 a3)
      · obtain ⟨g, k⟩ := q_tup f hp (dp_append a3 b3)
        exact q _ _ _ g k
    · cases h
  · split at h
    · rename_i hz
      cases h
      refine opR_weak op_cat fun x y H Q ⟨F, f, a, b, q⟩ => ?_
      obtain ⟨p, vs, rfl, a2, a3⟩ := BR_list f a
      obtain ⟨p', ws, rfl, b2, b3⟩ := BR_list f b
      have l1 := dp_length a3
      have l2 := dp_length b3
      refine ⟨_, _, _, _, rfl, rfl, a2, b2, by omega, fun p hp => ?_⟩
      obtain ⟨g, k⟩ := q_list f hp (dp_append a3 b3)
      exact q _ _ _ g k
    · cases h
  · cases h
    refine opR_weak op_sub fun x y H Q ⟨F, f, a, b, q⟩ => ?_
    exact ⟨_, _, BR_int a, BR_int b, q _ F H (Grow.refl f) (.int _)⟩
  · split at h
    · rename_i hz
      cases h
      refine opR_weak op_mul fun x y H Q ⟨F, f, a, b, q⟩ => ?_
      exact ⟨_, _, BR_int a, BR_int b, mulOk_c hz, q _ F H (Grow.refl f) (.int _)⟩
    · cases h
  · split at h
    · rename_i hz
      cases h
      simp only [Bool.and_eq_true, decide_eq_true_eq] at hz
      refine opR_weak op_rep fun x y H Q ⟨F, f, a, b, q⟩ => ?_
      obtain ⟨p, vs, rfl, a2, a3⟩ := BR_list f a
      have l1 := dp_length a3
      refine ⟨_, _, _, rfl, BR_int b, a2, hz.1.1, hz.1.2, by rw [l1]; exact hz.2, fun p hp => ?_⟩
      obtain ⟨g, k⟩ := q_list f hp (dp_rep a3 _)
      exact q _ _ _ g k
    · cases h
  · split at h
    · rename_i hz
      cases h
      simp only [Bool.and_eq_true, decide_eq_true_eq] at hz
      refine opR_weak op_fdiv fun x y H Q ⟨F, f, a, b, q⟩ => ?_
      exact ⟨_, _, BR_int a, BR_int b, hz, q _ F H (Grow.refl f) (.int _)⟩
    · cases h
  · split at h
    · rename_i hz
      cases h
      simp only [decide_eq_true_eq] at hz
      refine opR_weak op_mod fun x y H Q ⟨F, f, a, b, q⟩ => ?_
      exact ⟨_, _, BR_int a, BR_int b, hz, q _ F H (Grow.refl f) (.int _)⟩
    · cases h
  · split at h
    · rename_i hz
      cases h
      simp only [Bool.and_eq_true, decide_eq_true_eq] at hz
      refine opR_weak op_pow fun x y H Q ⟨F, f, a, b, q⟩ => ?_
      exact ⟨_, _, BR_int a, BR_int b, ⟨hz.1.1, hz.1.2, hz.2⟩, q _ F H (Grow.refl f) (.int _)⟩
    · cases h
  · split at h
    · rename_i hz
      cases h
      simp only [Bool.and_eq_true, decide_eq_true_eq] at hz
      refine opR_weak op_shl fun x y H Q ⟨F, f, a, b, q⟩ => ?_
      exact ⟨_, _, BR_int a, BR_int b, ⟨hz.1.1, hz.1.2, hz.2⟩, q _ F H (Grow.refl f) (.int _)⟩
    · cases h
  · cases h
theorem negD_ok (h : negD da = some r) : UnR X (unaryOp .USub) (fun x H Q => ∃ F, Fz ts F H ∧ BR F H x da ∧ ∀ v F' H', Grow ts F H F' H' → RR H F' H' v r → Q v H') := by
  unfold negD at h
  split at h
  · cases h
    intro pins s σ H x v Q I rx ⟨F, f, a, q⟩
    exact un_neg pins s σ H x v Q I rx ⟨_, BR_int a, q _ F H (Grow.refl f) (.int _)⟩
  · cases h
theorem room_in {d : PyData} {ds : List PyData} {A : Around} (sd : SeqAt.shaped d = true) (hu : A.units + 65 < cLine) : A.units + 1 + min (PyData.depthAll ds) d.depth < cLine := by
  unfold SeqAt.shaped at sd
  simp only [Bool.and_eq_true, decide_eq_true_eq] at sd
  have := Nat.min_le_right (PyData.depthAll ds) d.depth
  omega
theorem reads_of {pins : List (Addr × Obj)} {σ : L2.St} {H F : Hp} {s : Shared} {v : V} {u : Value} {d : PyData} (I : Inv X pins σ H s) (f : Fz ts F H) (h : BR F H v d) (c : PyData.canLay0 d = true) (r : RelV v u) : ∃ as, Reads s.heap u d as :=
  Dp.reads I d v u (BR_dp f h c) r
theorem ltD_ok {c : Bool} (hu : X.A.units + 65 < cLine) (h : ltD da db = some c) : OpR X (compareOp .Lt) (rC ts da db c) := by
  unfold ltD at h
  split at h
  · cases h
    exact opR_weak op_lt fun x y H Q ⟨F, f, a, b, q⟩ => ⟨_, _, BR_int a, BR_int b, q⟩
  · cases h
    exact opR_weak op_lt_str fun x y H Q ⟨F, f, a, b, q⟩ => ⟨_, _, BR_str a, BR_str b, q⟩
  · split at h
    · rename_i hz
      cases h
      simp only [Bool.and_eq_true] at hz
      intro pins s σ H x y v u Q I rx ry ⟨F, f, a, b, q⟩
      obtain ⟨as, r1⟩ := reads_of I f a (shaped_lay hz.1.1) rx
      obtain ⟨bs, r2⟩ := reads_of I f b (shaped_lay hz.1.2) ry
      have hd := hz.1.1
      unfold SeqAt.shaped at hd
      simp only [Bool.and_eq_true, decide_eq_true_eq] at hd
      have := PySem.W.rcLt_alike _ _ X.A s v u as bs r1 r2 hz.2 (fun z => by cases z) (by omega)
      exact this X.prog X.w _ _ ⟨.bl _, H, I, rfl, q⟩
    · cases h
  · cases h
theorem cmpD_ok (op : CmpOp) {c : Bool} (hu : X.A.units + 65 < cLine) (h : cmpD op da db = some c) : OpR X (compareOp op) (rC ts da db c) := by
  unfold cmpD at h
  split at h
  · split at h
    · rename_i hz
      cases h
      rw [Bool.and_eq_true] at hz
      exact opR_weak (op_eqD (by omega)) fun x y H Q ⟨F, f, a, b, q⟩ => ⟨_, _, BR_dp f a (shaped_lay hz.1), BR_dp f b (shaped_lay hz.2), hz.1, hz.2, q⟩
    · cases h
  · split at h
    · rename_i hz
      cases h
      rw [Bool.and_eq_true] at hz
      exact opR_weak (op_neD (by omega)) fun x y H Q ⟨F, f, a, b, q⟩ => ⟨_, _, BR_dp f a (shaped_lay hz.1), BR_dp f b (shaped_lay hz.2), hz.1, hz.2, q⟩
    · cases h
  · exact ltD_ok hu h
  · cases h
    exact opR_weak op_gt fun x y H Q ⟨F, f, a, b, q⟩ => ⟨_, _, BR_int a, BR_int b, q⟩
  · cases h
    exact opR_weak op_le fun x y H Q ⟨F, f, a, b, q⟩ => ⟨_, _, BR_int a, BR_int b, q⟩
  · cases h
    exact opR_weak op_ge fun x y H Q ⟨F, f, a, b, q⟩ => ⟨_, _, BR_int a, BR_int b, q⟩
  · cases h
    refine opR_weak op_isN fun x y H Q ⟨F, f, a, b, q⟩ => ⟨BR_none b, ?_⟩
    rw [isNone_eq a] at q; exact q
  · cases h
    refine opR_weak op_notN fun x y H Q ⟨F, f, a, b, q⟩ => ⟨BR_none b, ?_⟩
    rw [isNone_eq a] at q; exact q
  · split at h
    · rename_i hz
      cases h
      rw [Bool.and_eq_true] at hz
      intro pins s σ H x y v u Q I rx ry ⟨F, f, a, b, q⟩
      obtain ⟨as, r1⟩ := reads_of I f a (shaped_lay hz.1) rx
      obtain ⟨bs, r2⟩ := reads_of I f b (shaped_lay hz.2) ry
      exact SeqAt.in_list_reads r2 r1 (SeqAt.canLay_of_shaped hz.2) (shaped_lay hz.1) (room_in hz.1 hu) ⟨.bl _, H, I, rfl, q⟩
    · cases h
  · split at h
    · rename_i hz
      cases h
      rw [Bool.and_eq_true] at hz
      intro pins s σ H x y v u Q I rx ry ⟨F, f, a, b, q⟩
      obtain ⟨as, r1⟩ := reads_of I f a (shaped_lay hz.1) rx
      obtain ⟨bs, r2⟩ := reads_of I f b (shaped_lay hz.2) ry
      exact SeqAt.in_tuple_reads r2 r1 (lay_tup (shaped_lay hz.2)) (shaped_lay hz.1) (room_in hz.1 hu) ⟨.bl _, H, I, rfl, q⟩
    · cases h
  · split at h
    · rename_i hz
      cases h
      rw [Bool.and_eq_true] at hz
      intro pins s σ H x y v u Q I rx ry ⟨F, f, a, b, q⟩
      obtain ⟨as, r1⟩ := reads_of I f a (shaped_lay hz.1) rx
      obtain ⟨bs, r2⟩ := reads_of I f b (shaped_lay hz.2) ry
      exact SeqAt.notIn_list_reads r2 r1 (SeqAt.canLay_of_shaped hz.2) (shaped_lay hz.1) (room_in hz.1 hu) ⟨.bl _, H, I, rfl, q⟩
    · cases h
  · split at h
    · rename_i hz
      cases h
      rw [Bool.and_eq_true] at hz
      intro pins s σ H x y v u Q I rx ry ⟨F, f, a, b, q⟩
      obtain ⟨as, r1⟩ := reads_of I f a (shaped_lay hz.1) rx
      obtain ⟨bs, r2⟩ := reads_of I f b (shaped_lay hz.2) ry
      exact SeqAt.notIn_tuple_reads r2 r1 (lay_tup (shaped_lay hz.2)) (shaped_lay hz.1) (room_in hz.1 hu) ⟨.bl _, H, I, rfl, q⟩
    · cases h
  · cases h
/-! ### subscripts -/
theorem fd_of_at {F : Hp} {vs : List V} {ds : List PyData} {i : Int} {d : PyData} (h : FdAll F vs ds) (e : atI ds i = some d) : ∃ v, atI vs i = some v ∧ Fd F v d := by
  unfold atI at e ⊢
  rw [dp_length h]
  cases q : ixN ds.length i with
  | none => rw [q] at e; cases e
  | some j =>
    rw [q] at e
    exact dp_get h e
theorem ixD_ok {k : Int} {d : PyData} (h : ixD da k = some d) : IxR X (fun x y H Q => ∃ F, Fz ts F H ∧ BR F H x da ∧ y = .int k ∧ ∀ v F' H', Grow ts F H F' H' → RR H F' H' v (.val d) → Q v H') := by
  intro value slice pins s σ H x y v u Q I rx ry ⟨F, f, a, b, q⟩ hs
  unfold ixD at h
  split at h
  · obtain ⟨p, vs, rfl, a2, a3⟩ := BR_list f a
    obtain ⟨z, h1, h2⟩ := fd_of_at a3 h
    exact ix_list value slice pins s σ H _ y v u Q I rx ry ⟨p, vs, k, z, rfl, b, SqL.of a2, h1, q _ F H (Grow.refl f) h2⟩ hs
  · obtain ⟨p, vs, rfl, a1, a2, a3⟩ := BR_tup f a
    obtain ⟨z, h1, h2⟩ := fd_of_at a3 h
    exact ix_tup value slice pins s σ H _ y v u Q I rx ry ⟨p, vs, k, z, rfl, b, SqT.of a2, h1, q _ F H (Grow.refl f) h2⟩ hs
  · obtain ⟨p, o, vs, rfl, a2, a3⟩ := BR_scr f a
    obtain ⟨z, h1, h2⟩ := fd_of_at a3 h
    exact ix_list value slice pins s σ H _ y v u Q I rx ry ⟨p, vs, k, z, rfl, b, .inl (.inr ⟨o, a2⟩), h1, q _ F H (Grow.refl f) h2⟩ hs
  · split at h
    · rename_i hz
      rw [Option.map_eq_some_iff] at h
      obtain ⟨c, h1, rfl⟩ := h
      exact ix_str value slice pins s σ H x y v u Q I rx ry ⟨_, k, c, BR_str a, b, hz, h1, q _ F H (Grow.refl f) (.str _)⟩ hs
    · cases h
  · cases h
theorem fd_cut {F : Hp} {vs : List V} {ds : List PyData} (lo hi : Option Int) (a3 : FdAll F vs ds) : FdAll F (cutV vs lo hi) (cutD ds lo hi) := by
  unfold cutV cutD
  rw [dp_length a3]
  exact dp_take _ (dp_drop _ a3)
theorem slD_ok {lo hi : Option Int} (h : slD da lo hi = some r) : SlR X (fun x l u H Q => ∃ F, Fz ts F H ∧ BR F H x da ∧ l = lo ∧ u = hi ∧ ∀ v F' H', Grow ts F H F' H' → RR H F' H' v r → Q v H') := by
  intro pins s σ H x v vl vu lo' hi' sl Q I rx hsl hl hu ⟨F, f, a, e1, e2, q⟩
  subst e1; subst e2
  unfold slD at h
  split at h
  · cases h
    obtain ⟨p, vs, rfl, a2, a3⟩ := BR_list f a
    refine sl_list pins s σ H _ v vl vu _ _ sl Q I rx hsl hl hu ⟨p, vs, rfl, SqL.of a2, fun p hp => ?_⟩
    have hc := fd_cut lo' hi' a3
    obtain ⟨g, k⟩ := q_list f hp hc
    exact q _ _ _ g k
  · cases h
    obtain ⟨p, vs, rfl, a1, a2, a3⟩ := BR_tup f a
    have hc := fd_cut lo' hi' a3
    refine sl_tupA pins s σ H _ v vl vu _ _ sl Q I rx hsl hl hu ⟨p, vs, rfl, SqT.of a2, fun e => ?_, fun _ p hp => ?_⟩
    · have hv : cutV vs lo' hi' = vs := by
        unfold cutV
        rw [e.1, e.2]
        simp
      rw [hv] at hc
      exact q _ F H (Grow.refl f) (.tup a1 hc)
    · obtain ⟨g, k⟩ := q_tup f hp hc
      exact q _ _ _ g k
  · split at h
    · rename_i hz
      cases h
      exact sl_str pins s σ H x v vl vu _ _ sl Q I rx hsl hl hu ⟨_, BR_str a, hz, q _ F H (Grow.refl f) (.str _)⟩
    · cases h
  · cases h
/-! ### truth -/
theorem truD_ok {x : V} {F H : Hp} {b : Bool} (f : Fz ts F H) (a : BR F H x da) (h : truD da = some b) : TruV X.K x H b := by
  unfold truD at h
  split at h
  · cases h; cases BR_none a; rfl
  · cases h; cases BR_bool a; rfl
  · cases h; cases BR_int a; rfl
  · split at h
    · rename_i hz
      cases h; cases BR_str a; exact ⟨hz, rfl⟩
    · cases h
  · cases h
    obtain ⟨p, vs, rfl, a2, a3⟩ := BR_list f a
    refine .inl ⟨vs, SqL.of a2, ?_⟩
    cases a3 <;> rfl
  · cases h
    obtain ⟨p, vs, rfl, a1, a2, a3⟩ := BR_tup f a
    refine .inr (.inl ⟨vs, SqT.of a2, ?_⟩)
    cases a3 <;> rfl
  · cases h
end
end Pi
end
section
set_option Elab.async false
set_option linter.all false
set_option maxRecDepth 100000
/-! Pure data over the hand layer: calls of builtins by values. -/
namespace Pi
open PySem PySem.Spec PyProof.Rows L2
def BRs (F H : Hp) : List V → List PyData → Prop := Paired (BR F H)
theorem BRs.grow {ts : List Addr} {F H F1 H1 : Hp} (t : TabOk ts H) (g : Grow ts F H F1 H1) : ∀ {xs : List V} {ds : List PyData}, BRs F H xs ds → BRs F1 H1 xs ds
  | _, _, .nil => .nil
  | _, _, .cons a b => .cons (a.grow t g) (BRs.grow t g b)
theorem BRs.one {F H : Hp} {xs : List V} {d : PyData} (h : BRs F H xs [d]) : ∃ x, xs = [x] ∧ BR F H x d := by
  cases h with
  | cons a b => cases b; exact ⟨_, rfl, a⟩
theorem BRs.two {F H : Hp} {xs : List V} {d e : PyData} (h : BRs F H xs [d, e]) : ∃ x y, xs = [x, y] ∧ BR F H x d ∧ BR F H y e := by
  cases h with
  | cons a b =>
    cases b with
    | cons c t => cases t; exact ⟨_, _, rfl, a, c⟩
/-- a builtin as a value -/
def biV : Bi → Option Value
  | .len => some (.builtin "len")
  | .tuple => some (.type "tuple")
  | .list => some (.type "list")
  | .sum => some (.builtin "sum")
  | .max => some (.builtin "max")
  | .min => some (.builtin "min")
  | .abs => some (.builtin "abs")
  | .int => some (.type "int")
  | .all => some (.builtin "all")
  | .any => some (.builtin "any")
  | .sorted => some (.builtin "sorted")
  | _ => none
def rB (ts : List Addr) (ds : List PyData) (r : Res) : List V → Hp → VK → Prop := fun xs H Q => ∃ F, Fz ts F H ∧ BRs F H xs ds ∧ ∀ v F' H', Grow ts F H F' H' → RR H F' H' v r → Q v H'
theorem intsD_eq : ∀ {ds : List PyData} {ns : List Int}, intsD ds = some ns → ds = ns.map .int
  | [], _, h => by cases h; rfl
  | .int i :: r, ns, h => by
    simp only [intsD, Option.map_eq_some_iff] at h
    obtain ⟨ms, h1, rfl⟩ := h
    rw [intsD_eq h1]; rfl
  | .none :: _, _, h => by simp [intsD] at h
  | .bool _ :: _, _, h => by simp [intsD] at h
  | .str _ :: _, _, h => by simp [intsD] at h
  | .list _ :: _, _, h => by simp [intsD] at h
  | .tuple _ :: _, _, h => by simp [intsD] at h
  | .dict _ :: _, _, h => by simp [intsD] at h
theorem boolsD_eq : ∀ {ds : List PyData} {ns : List Bool}, boolsD ds = some ns → ds = ns.map .bool
  | [], _, h => by cases h; rfl
  | .bool i :: r, ns, h => by
    simp only [boolsD, Option.map_eq_some_iff] at h
    obtain ⟨ms, h1, rfl⟩ := h
    rw [boolsD_eq h1]; rfl
  | .none :: _, _, h => by simp [boolsD] at h
  | .int _ :: _, _, h => by simp [boolsD] at h
  | .str _ :: _, _, h => by simp [boolsD] at h
  | .list _ :: _, _, h => by simp [boolsD] at h
  | .tuple _ :: _, _, h => by simp [boolsD] at h
  | .dict _ :: _, _, h => by simp [boolsD] at h
theorem strsD_eq : ∀ {ds : List PyData} {ns : List Str}, strsD ds = some ns → ds = ns.map .str
  | [], _, h => by cases h; rfl
  | .str i :: r, ns, h => by
    simp only [strsD, Option.map_eq_some_iff] at h
    obtain ⟨ms, h1, rfl⟩ := h
    rw [strsD_eq h1]; rfl
  | .none :: _, _, h => by simp [strsD] at h
  | .int _ :: _, _, h => by simp [strsD] at h
  | .bool _ :: _, _, h => by simp [strsD] at h
  | .list _ :: _, _, h => by simp [strsD] at h
  | .tuple _ :: _, _, h => by simp [strsD] at h
  | .dict _ :: _, _, h => by simp [strsD] at h
section
variable {X : Cx} {ts : List Addr} {ds : List PyData} {r : Res}
theorem biD_ok (b : Bi) {f : Value} (hf : biV b = some f) (hc : X.calm = true) (hu : X.A.units + 65 < cLine) (h : biD b ds = some r) : CallR X f (rB ts ds r) := by
  unfold biD at h
  split at h
  · cases h; cases hf
    refine callR_weak call_len fun xs H Q ⟨F, f, a0, q⟩ => ?_
    obtain ⟨x, rfl, a⟩ := a0.one
    obtain ⟨p, vs, rfl, a2, a3⟩ := BR_list f a
    refine ⟨_, _, rfl, .inl ⟨vs, SqL.of a2, rfl⟩, ?_⟩
    rw [dp_length a3]
    exact q _ F H (Grow.refl f) (.int _)
  · cases h; cases hf
    refine callR_weak call_len fun xs H Q ⟨F, f, a0, q⟩ => ?_
    obtain ⟨x, rfl, a⟩ := a0.one
    obtain ⟨p, vs, rfl, a1, a2, a3⟩ := BR_tup f a
    refine ⟨_, _, rfl, .inr ⟨vs, SqT.of a2, rfl⟩, ?_⟩
    rw [dp_length a3]
    exact q _ F H (Grow.refl f) (.int _)
  · cases h; cases hf
    refine callR_weak call_len fun xs H Q ⟨F, f, a0, q⟩ => ?_
    obtain ⟨x, rfl, a⟩ := a0.one
    obtain ⟨p, o, vs, rfl, a2, a3⟩ := BR_scr f a
    refine ⟨_, _, rfl, .inl ⟨vs, .inl (.inr ⟨o, a2⟩), rfl⟩, ?_⟩
    rw [dp_length a3]
    exact q _ F H (Grow.refl f) (.int _)
  · split at h
    · rename_i hz
      cases h; cases hf
      refine callR_weak call_len fun xs H Q ⟨F, f, a0, q⟩ => ?_
      obtain ⟨x, rfl, a⟩ := a0.one
      cases BR_str a
      exact ⟨_, _, rfl, ⟨hz, rfl⟩, q _ F H (Grow.refl f) (.int _)⟩
    · cases h
  · cases h; cases hf
    refine callR_weak call_tuple_of fun xs H Q ⟨F, f, a0, q⟩ => ?_
    obtain ⟨x, rfl, a⟩ := a0.one
    obtain ⟨p, vs, rfl, a2, a3⟩ := BR_list f a
    refine ⟨_, _, rfl, .inl ⟨SqL.of a2, fun l hl => ?_⟩⟩
    obtain ⟨g, k⟩ := q_tup f hl a3
    exact q _ _ _ g k
  · cases h; cases hf
    refine callR_weak call_tuple_of fun xs H Q ⟨F, f, a0, q⟩ => ?_
    obtain ⟨x, rfl, a⟩ := a0.one
    obtain ⟨p, vs, rfl, a1, a2, a3⟩ := BR_tup f a
    exact ⟨_, _, rfl, .inr ⟨SqT.of a2, q _ F H (Grow.refl f) (.tup a1 a3)⟩⟩
  · cases h; cases hf
    refine callR_weak call_list_of fun xs H Q ⟨F, f, a0, q⟩ => ?_
    obtain ⟨x, rfl, a⟩ := a0.one
    obtain ⟨p, vs, rfl, a2, a3⟩ := BR_list f a
    refine ⟨_, _, rfl, .inl (SqL.of a2), fun l hl => ?_⟩
    obtain ⟨g, k⟩ := q_list f hl a3
    exact q _ _ _ g k
  · cases h; cases hf
    refine callR_weak call_list_of fun xs H Q ⟨F, f, a0, q⟩ => ?_
    obtain ⟨x, rfl, a⟩ := a0.one
    obtain ⟨p, vs, rfl, a1, a2, a3⟩ := BR_tup f a
    refine ⟨_, _, rfl, .inr (SqT.of a2), fun l hl => ?_⟩
    obtain ⟨g, k⟩ := q_list f hl a3
    exact q _ _ _ g k
  · cases h; cases hf
    refine callR_weak call_abs fun xs H Q ⟨F, f, a0, q⟩ => ?_
    obtain ⟨x, rfl, a⟩ := a0.one
    cases BR_int a
    exact ⟨_, rfl, q _ F H (Grow.refl f) (.int _)⟩
  · cases h; cases hf
    refine callR_weak call_int1 fun xs H Q ⟨F, f, a0, q⟩ => ?_
    obtain ⟨x, rfl, a⟩ := a0.one
    cases BR_int a
    exact .inl ⟨_, rfl, q _ F H (Grow.refl f) (.int _)⟩
  · cases h; cases hf
    refine callR_weak (call_max2 hc) fun xs H Q ⟨F, f, a0, q⟩ => ?_
    obtain ⟨x, y, rfl, a, b⟩ := a0.two
    cases BR_int a
    cases BR_int b
    exact ⟨_, _, rfl, q _ F H (Grow.refl f) (.int _)⟩
  · cases h; cases hf
    refine callR_weak (call_min2 hc) fun xs H Q ⟨F, f, a0, q⟩ => ?_
    obtain ⟨x, y, rfl, a, b⟩ := a0.two
    cases BR_int a
    cases BR_int b
    exact ⟨_, _, rfl, q _ F H (Grow.refl f) (.int _)⟩
  · rw [Option.map_eq_some_iff] at h
    obtain ⟨ns, hn, rfl⟩ := h
    cases hf
    cases intsD_eq hn
    refine callR_weak (cr_sum hc) fun xs H Q ⟨F, f, a0, q⟩ => ?_
    obtain ⟨x, rfl, a⟩ := a0.one
    obtain ⟨p, vs, rfl, a2, a3⟩ := BR_list f a
    cases dp_ints a3
    exact ⟨p, ns, rfl, SqL.of a2, q _ F H (Grow.refl f) (.int _)⟩
  all_goals first | (cases hf; done) | skip
  · rw [Option.map_eq_some_iff] at h
    obtain ⟨ns, hn, rfl⟩ := h
    cases hf
    cases boolsD_eq hn
    refine callR_weak (cr_all hc) fun xs H Q ⟨F, f, a0, q⟩ => ?_
    obtain ⟨x, rfl, a⟩ := a0.one
    obtain ⟨p, vs, rfl, a2, a3⟩ := BR_list f a
    cases dp_bls a3
    exact ⟨p, ns, rfl, SqL.of a2, q _ F H (Grow.refl f) (.bl _)⟩
  · rw [Option.map_eq_some_iff] at h
    obtain ⟨ns, hn, rfl⟩ := h
    cases hf
    cases boolsD_eq hn
    refine callR_weak (cr_any hc) fun xs H Q ⟨F, f, a0, q⟩ => ?_
    obtain ⟨x, rfl, a⟩ := a0.one
    obtain ⟨p, vs, rfl, a2, a3⟩ := BR_list f a
    cases dp_bls a3
    exact ⟨p, ns, rfl, SqL.of a2, q _ F H (Grow.refl f) (.bl _)⟩
  · split at h
    · rename_i hz
      cases h; cases hf
      intro pins s σ H xs us Q I rv ⟨F, f, a0, q⟩
      obtain ⟨x, rfl, a⟩ := a0.one
      obtain ⟨p, vs, rfl, a2, a3⟩ := BR_list f a
      obtain rfl := Vals.ref1 rv
      exact sorted_run hu I f a2 a3 hz q
    · cases h
  · cases h
/-! ### isinstance -/
def isiT : Bi → Option String
  | .isInt => some "int"
  | .isBool => some "bool"
  | .isStr => some "str"
  | .isTuple => some "tuple"
  | _ => none
def tyD : PyData → Option String
  | .none => some "NoneType"
  | .bool _ => some "bool"
  | .int _ => some "int"
  | .str _ => some "str"
  | .list _ => some "list"
  | .tuple _ => some "tuple"
  | .dict _ => none
theorem tyD_ok {F H : Hp} {x : V} {d : PyData} {t : String} (f : Fz ts F H) (a : BR F H x d) (h : tyD d = some t) : TyX X.K H x (.type t) := by
  cases d with
  | none => cases h; cases BR_none a; exact .base .non
  | bool b => cases h; cases BR_bool a; exact .base (.bl _)
  | int b => cases h; cases BR_int a; exact .base (.int _)
  | str b => cases h; cases BR_str a; exact .base (.str _)
  | list b =>
    cases h
    obtain ⟨p, vs, rfl, a2, a3⟩ := BR_list f a
    exact .base (.lst a2)
  | tuple b =>
    cases h
    obtain ⟨p, vs, rfl, a1, a2, a3⟩ := BR_tup f a
    exact .base (.tup a2)
  | dict b => cases h
theorem kit_rows : ∀ t ∈ ["NoneType", "bool", "int", "str", "list", "tuple"], ∀ c ∈ ["int", "bool", "str", "tuple"], kitB t c = some (decide (t = c ∨ (t = "bool" ∧ c = "int"))) := by decide +kernel
theorem isi_row {b : Bi} {c : String} (hf : isiT b = some c) {d : PyData} (h : biD b [d] = some r) : ∃ t k, tyD d = some t ∧ kitB t c = some k ∧ r = .val (.bool k) := by
  have tm : ∀ {t : String}, tyD d = some t → t ∈ ["NoneType", "bool", "int", "str", "list", "tuple"] := fun {t} e => by
    cases d <;> simp [tyD] at e <;> subst e <;> simp
  have cm : c ∈ ["int", "bool", "str", "tuple"] := by
    cases b <;> simp [isiT] at hf <;> subst hf <;> simp
  cases d <;> cases b <;> simp [isiT] at hf <;> simp [biD] at h <;> subst hf <;> subst h <;> exact ⟨_, _, rfl, kit_rows _ (tm rfl) _ cm, by simp⟩
theorem isi_ok (b : Bi) {c : String} (hf : isiT b = some c) {d : PyData} (h : biD b [d] = some r) : CallR X (.builtin "isinstance") (fun xs H Q => ∃ F x, Fz ts F H ∧ xs = [x, .ty c] ∧ BR F H x d ∧ ∀ v F' H', Grow ts F H F' H' → RR H F' H' v r → Q v H') := by
  obtain ⟨t, k, h1, h2, rfl⟩ := isi_row hf h
  refine callR_weak call_isi fun xs H Q ⟨F, x, f, e, a, q⟩ => ?_
  exact ⟨x, .ty c, .type t, .type c, k, e, .ty c, tyD_ok f a h1, kit_ty h2, q _ F H (Grow.refl f) (.bl _)⟩
end
end Pi
end
section
set_option Elab.async false
set_option linter.all false
set_option maxRecDepth 100000
/-! Pure data over the hand layer: when a term of the small language says what a piece of Python does. -/
namespace Pi
open PySem PySem.Spec PyProof.Rows L2
structure Cc where
  N : List Str
  sc : Scope
  raw : Scope
  fs : List (Str × Nat)
  bs : List Str
  g : Nat
  tb : Bool
def Cc.inn (c : Cc) (sc : Scope) : Cc := { c with sc := relS sc c.sc, raw := sc }
def Cc.gen (c : Cc) (sc : Scope) : Cc := { c with sc := sc, raw := sc, g := c.g - 1, tb := false }
def visB (sc : Scope) (x : Str) : Bool := match sc.names.lookup x with
  | some .local => true
  | some .cell => true
  | some .free => true
  | _ => false
def locB (sc raw : Scope) (x : Str) : Bool := match sc.names.lookup x with
  | some .local => true
  | some .cell => (match raw.names.lookup x with | some .cell => true | _ => false)
  | _ => false
def glB (sc : Scope) (x : Str) : Bool := match sc.names.lookup x with
  | some .globalImplicit => true
  | _ => false
def dbg (x : Str) : Bool := (x == ("__debug__" : Str)) || (x == ("__classdict__" : Str)) || (x == ("__name__" : Str))
def varOk (c : Cc) (i : Nat) (x : Str) : Bool := decide (c.N[i]? = some x) && visB c.sc x && !dbg x
def tgOk (c : Cc) (i : Nat) (x : Str) : Bool := decide (c.N[i]? = some x) && locB c.sc c.raw x && !dbg x
def blt (c : Cc) (x : Str) (y : String) : Bool := decide (x = Str.ofString y) && glB c.sc x && c.bs.contains x && !dbg x
def constOk : PyData → Const → Bool
  | .int i, .int j => decide (i = j)
  | .bool a, .bool b => decide (a = b)
  | .str x, .str y => decide (x = y)
  | .none, .none => true
  | _, _ => false
def biN : Bi → String
  | .len => "len" | .tuple => "tuple" | .list => "list" | .sorted => "sorted" | .sum => "sum" | .max => "max" | .min => "min" | .abs => "abs" | .int => "int" | .str => "str" | .all => "all" | .any => "any"
  | .isInt => "isinstance" | .isBool => "isinstance" | .isStr => "isinstance" | .isTuple => "isinstance" | .sortedSet => "sorted" | .lenSet => "len" | .join => "join" | .count => "count" | .index => "index" | .sortedRev => "sorted"
def ownP (N : List Str) (own : List Nat) : List (Str × Nat) := own.map fun i => (N.getD i Str.empty, i)
mutual
def chkT (c : Cc) : T → Expr → Bool
  | .name i, .Name x _ => tgOk c i x
  | .tup l, .Tuple es _ _ => chkTs c l es
  | _, _ => false
def chkTs (c : Cc) : List T → List Expr → Bool
  | [], [] => true
  | t :: l, e :: es => chkT c t e && chkTs c l es
  | _, _ => false
end
def T.isTup : T → Bool
  | .tup _ => true
  | _ => false
def I.ok (tg : T) : I → Bool
  | .enum _ => tg.isTup
  | .zip _ _ => tg.isTup
  | _ => true
-- the slots that a target writes lie in own
mutual
def tgIn (own : List Nat) : T → Bool
  | .name i => own.contains i
  | .tup l => tgsIn own l
def tgsIn (own : List Nat) : List T → Bool
  | [] => true
  | t :: l => tgIn own t && tgsIn own l
end
def Ch.isMore : Ch → Bool
  | .more _ _ _ => true
  | _ => false
/-- the scope of a generator expression -/
def genC (N : List Str) (sc scope : Scope) (own : List (Str × Nat)) : Bool :=
  (match scope.kind with | .function => true | _ => false) && !scope.isCoroutine && (match scope.names.lookup (".0" : Str) with | some .local => true | _ => false) && (own.all fun p => decide (N[p.2]? = some p.1)) &&
    (scope.names.all fun y => match y.2 with
      | .cell => false
      | .free => (match sc.names.lookup y.1 with | some .cell => true | some .free => true | _ => false)
      | .local => decide (y.1 ∈ own.map (·.1)) || decide (y.1 ∉ N)
      | _ => true)
def notLst : List Comprehension → Bool
  | ⟨_, .List _ _, _, _⟩ :: _ => false
  | _ => true
mutual
def chkE (c : Cc) : E → Expr → Bool
  | .const d, .Constant k _ _ => constOk d k
  | .var i, .Name x _ => varOk c i x
  | .bin op a b, .BinOp l o r _ => decide (op = o) && chkE c a l && chkE c b r
  | .neg a, .UnaryOp .USub x _ => chkE c a x
  | .not a, .UnaryOp .Not x _ => chkE c a x
  | .cmp op a b, .Compare l [o] [r] _ => decide (op = o) && !behindInMarks op r && chkE c a l && chkE c b r
  | .chain a h, .Compare l ops es _ => h.isMore && !lastMarks ops es && chkE c a l && chkH c h ops es
  | .and a b, .BoolOp .And [x, y] _ => chkE c a x && chkE c b y
  | .and a b, .BoolOp .And (x :: y :: z :: r) p => chkE c a x && chkE c b (.BoolOp .And (y :: z :: r) p)
  | .or a b, .BoolOp .Or [x, y] _ => chkE c a x && chkE c b y
  | .or a b, .BoolOp .Or (x :: y :: z :: r) p => chkE c a x && chkE c b (.BoolOp .Or (y :: z :: r) p)
  | .ite t a b, .IfExp x y z _ => chkE c t x && chkE c a y && chkE c b z
  | .tup l, .Tuple es _ _ => chkL c l es
  | .lst l, .List es _ => chkL c l es
  | .sl a lo hi, .Subscript x (.Slice l h none _) _ => chkE c a x && chkO c lo l && chkO c hi h
  | .ix a i, .Subscript x y _ => chkE c a x && chkE c i y
  | .comp own elt cl, .ListComp e gs sc _ => blkC c.N c.sc sc (ownP c.N own) && chkC c (c.inn sc) own cl gs && chkE (c.inn sc) elt e && decide (0 < cl.length) && decide (cl.length ≤ 2)
  | .gen stop own elt cl, .Call (.Name x _) [.GeneratorExp e gs sc _] [] _ => blt c x (if stop then "any" else "all") && c.tb && decide (0 < c.g) && genC c.N c.sc sc (ownP c.N own) && notLst gs && chkC c (c.gen sc) own cl gs && chkE (c.gen sc) elt e && decide (cl.length = 1)
  | .call f l, .Call (.Name x _) es [] _ => decide (c.fs.lookup x = some f) && glB c.sc x && !dbg x && chkL c l es && decide (0 < es.length)
  | .sortKey f a, .Call (.Name x _) [e] [⟨some k, .Name y _, _⟩] _ => blt c x "sorted" && decide (k = "key") && decide (c.fs.lookup y = some f) && glB c.sc y && !dbg y && decide (0 < c.g) && chkE c a e
  | .bi b l, .Call (.Name x _) es [] _ => match isiT b with
    | some t => blt c x "isinstance" && (match es with
      | [e, .Name y _] => blt c y t && chkL c l [e]
      | _ => false)
    | none => (biV b).isSome && blt c x (biN b) && chkL c l es && decide (0 < es.length)
  | _, _ => false
def chkH (c : Cc) : Ch → List CmpOp → List Expr → Bool
  | .one op b, [o], [e] => decide (op = o) && chkE c b e
  | .more op b h, o :: o2 :: os, e :: e2 :: es => decide (op = o) && chkE c b e && chkH c h (o2 :: os) (e2 :: es)
  | _, _, _ => false
def chkO (c : Cc) : Option E → Option Expr → Bool
  | none, none => true
  | some a, some e => chkE c a e
  | _, _ => false
def chkL (c : Cc) : List E → List Expr → Bool
  | [], [] => true
  | a :: l, e :: es => chkE c a e && chkL c l es
  | _, _ => false
def chkI (c : Cc) : I → Expr → Bool
  | .range l, .Call (.Name x _) es [] _ => blt c x "range" && chkL c l es && decide (0 < es.length) && decide (es.length ≤ 2)
  | .enum a, .Call (.Name x _) [e] [] _ => blt c x "enumerate" && chkE c a e
  | .seq a, e => chkE c a e
  | _, _ => false
/-- the first clause's source stands in ci, the rest in c -/
def chkC (ci c : Cc) (own : List Nat) : List C → List Comprehension → Bool
  | [], [] => true
  | .mk tg it ifs :: l, ⟨t, i, fs, a⟩ :: gs => decide (a = 0) && chkT c tg t && tgIn own tg && it.ok tg && chkI ci it i && chkL c ifs fs && decide (ifs.length ≤ 1) && chkC c c own l gs
  | _, _ => false
end
end Pi
end
section
set_option Elab.async false
set_option linter.all false
set_option maxRecDepth 100000
set_option maxHeartbeats 1000000
/-! Pure data over the hand layer: expressions keep what the small language computes. -/
namespace Pi
open PySem PySem.Spec PyProof.Rows L2
/-- what a body's context must have -/
structure Good (X : Cx) (ts : List Addr) (Γ : Gm) (c : Cc) : Prop where
  hN : X.N = c.N
  hsc : X.env.scope = c.sc
  nd : X.N.Nodup
  calm : X.calm = true
  nox : X.xe = fun _ _ => False
  kind : c.sc.kind = .function
  fn : ∀ x, c.raw.names.lookup x = some .cell → X.fn x = true
  bs : ∀ b ∈ c.bs, X.mg b = none
  un : X.A.units + 16 * c.g + 100 < cLine
  dp : X.A.depth + 3 * c.g + 3 < recursionLimit
  tb : c.tb = true → ∃ cc P, X.env.code = .ref cc ∧ GxR.TabB X.base X.mg cc P ∧ P ∈ ts
  fs : ∀ x f, c.fs.lookup x = some f → ∃ fa fd ps k, X.mg x = some (.ref fa) ∧ PySem.W.keepIn X.K (.ref fa) = true ∧ Binds X.K fd ps [] ∧ Room (k + c.g) X.A ∧ (∀ ds r, Γ.call f ds = some r → ds.length = ps.length) ∧
    FnOk X.prog X.w X.K X.mg X.base CX0 k fa fd ps (fun vs H Q _ => ∃ F ds r, FdAll F vs ds ∧ Fz ts F H ∧ ds.length = ps.length ∧ Γ.call f ds = some r ∧ ∀ v F' H', Grow ts F H F' H' → RR H F' H' v r → Q v H')

section
variable (Γ : Gm) (ts : List Addr)
def uE (ir : E) : TE := fun σ H Q => ∃ ρ r F, evE Γ ρ ir = some r ∧ Rep ts ρ σ F H ∧ ∀ v F' H', Grow ts F H F' H' → RR H F' H' v r → Q v H'
def uB (ir : E) : TE := fun σ H Q => ∃ ρ d F, bor ρ ir (evE Γ ρ ir) = some d ∧ Rep ts ρ σ F H ∧ ∀ v F' H', Grow ts F H F' H' → BR F' H' v d → Q v H'
def uV (ir : E) : TE := fun σ H Q => ∃ ρ d F, (evE Γ ρ ir).map Res.dat = some d ∧ Rep ts ρ σ F H ∧ ∀ v F' H', Grow ts F H F' H' → Fd F' v d → Q v H'
def uT (ir : E) : TT := fun σ H Q => ∃ ρ b F, test Γ ρ ir = some b ∧ Rep ts ρ σ F H ∧ ∀ F' H', Grow ts F H F' H' → Q b H'
def uA (l : List E) : TA := fun σ H Q => ∃ ρ ds F, evA Γ ρ l = some ds ∧ Rep ts ρ σ F H ∧ ∀ vs F' H', Grow ts F H F' H' → FdAll F' vs ds → Q vs H'
def uL (l : List E) : TA := fun σ H Q => ∃ ρ ds F, evL Γ ρ l = some ds ∧ Rep ts ρ σ F H ∧ ∀ vs F' H', Grow ts F H F' H' → BRs F' H' vs ds → Q vs H'
def uO (o : Option E) : TO := fun σ H Q => ∃ ρ k F, evO Γ ρ o = some k ∧ Rep ts ρ σ F H ∧ ∀ F' H', Grow ts F H F' H' → Q k H'
def uTs (l : List E) : TT := fun σ H Q => ∃ ρ b F, evT Γ ρ l = some b ∧ Rep ts ρ σ F H ∧ ∀ F' H', Grow ts F H F' H' → Q b H'
end
section
variable {Γ : Gm} {ts : List Addr} {X : Cx} {c : Cc} {e : Expr} {ir : E}
theorem uV_of (h : PE X e (uE Γ ts ir)) : PE X e (uV Γ ts ir) := pe_weak h fun σ H Q ⟨ρ, d, F, h1, rep, q⟩ => by
  rw [Option.map_eq_some_iff] at h1
  obtain ⟨r, h1, rfl⟩ := h1
  refine ⟨ρ, r, F, h1, rep, fun v F' H' g k => ?_⟩
  obtain ⟨F2, g2, k2⟩ := k.toVal g rep.fz
  exact q v F2 H' g2 k2
theorem visB_ok {sc : Scope} {x : Str} (h : visB sc x = true) : Vis sc x := by
  unfold visB at h
  split at h
  · rename_i e; exact .inl e
  · rename_i e; exact .inr (.inl e)
  · rename_i e; exact .inr (.inr e)
  · cases h
theorem locB_ok (G : Good X ts Γ c) {x : Str} (h : locB c.sc c.raw x = true) : Loc X.env.scope x ∧ (X.fn x = true ∨ X.env.scope.names.lookup x = some .local) := by
  rw [G.hsc]
  unfold locB at h
  split at h
  · rename_i e; exact ⟨.inl e, .inr e⟩
  · rename_i e
    split at h
    · rename_i e2; exact ⟨.inr e, .inl (G.fn x e2)⟩
    · cases h
  · cases h
theorem glB_ok (G : Good X ts Γ c) {x : Str} (h : glB c.sc x = true) : Gl X x := by
  unfold glB at h
  split at h
  · rename_i e
    show X.env.scope.names.lookup x = _
    rw [G.hsc]; exact e
  · cases h
theorem dbg_ok {x : Str} (h : (!dbg x) = true) : (x == ("__debug__" : Str)) = false ∧ (x == ("__classdict__" : Str)) = false ∧ x ≠ "__name__" := by
  unfold dbg at h
  simp only [Bool.not_eq_true', Bool.or_eq_false_iff] at h
  refine ⟨h.1.1, h.1.2, fun z => ?_⟩
  have := h.2
  rw [z] at this
  simp at this
theorem blt_ok (G : Good X ts Γ c) {x : Str} {y : String} (h : blt c x y = true) : x = Str.ofString y ∧ Gl X x ∧ X.mg x = none ∧ (x == ("__debug__" : Str)) = false ∧ x ≠ "__name__" := by
  unfold blt at h
  simp only [Bool.and_eq_true, decide_eq_true_eq] at h
  obtain ⟨⟨⟨h1, h2⟩, h3⟩, h4⟩ := h
  obtain ⟨d1, _, d3⟩ := dbg_ok h4
  exact ⟨h1, glB_ok G h2, G.bs x (by simpa using h3), d1, d3⟩
theorem var_ok (G : Good X ts Γ c) {i : Nat} {x : Str} {pos : Pos} (h : varOk c i x = true) : PE X (.Name x pos) (tVar i) := by
  unfold varOk at h
  simp only [Bool.and_eq_true, decide_eq_true_eq] at h
  obtain ⟨⟨h1, h2⟩, h3⟩ := h
  obtain ⟨d1, d2, _⟩ := dbg_ok h3
  exact pe_var (by rw [G.hN]; exact h1) (by rw [G.hsc]; exact visB_ok h2) d1 d2
theorem Good.hu (G : Good X ts Γ c) : X.A.units + 65 < cLine := by have := G.un; omega
theorem bor_nv {ρ : List Cell} {r : Option Res} (hv : ¬ ∃ i, ir = .var i) : bor ρ ir r = r.map Res.dat := by
  cases ir <;> first | rfl | exact absurd ⟨_, rfl⟩ hv
theorem bor_var {ρ : List Cell} {i : Nat} {r : Option Res} : bor ρ (.var i) r = match ρ[i]? with
    | some (.ow ds) => some (.list ds)
    | _ => r.map Res.dat := rfl
theorem evE_var {ρ : List Cell} {i : Nat} : evE Γ ρ (.var i) = match ρ[i]? with
    | some (.fr d) => some (.val d)
    | _ => none := by unfold evE; rfl
theorem bor_some {ρ : List Cell} {ib : E} {r0 : Res} (h3 : evE Γ ρ ib = some r0) : bor ρ ib (evE Γ ρ ib) = some r0.dat := by
  by_cases hv : ∃ i, ib = .var i
  · obtain ⟨i, rfl⟩ := hv
    have h4 := h3
    rw [evE_var] at h4
    rw [bor_var]
    split at h4
    · rename_i d hd
      rw [hd, h3]; rfl
    · cases h4
  · rw [bor_nv hv, h3]; rfl
/-! ### from a value to what reads it -/
theorem uB_of (G : Good X ts Γ c) (hc : chkE c ir e = true) (h : PE X e (uE Γ ts ir)) : PE X e (uB Γ ts ir) := by
  by_cases hv : ∃ i, ir = .var i
  · obtain ⟨i, rfl⟩ := hv
    cases e <;> simp only [chkE, Bool.false_eq_true] at hc
    refine pe_weak (var_ok G hc) fun σ H Q ⟨ρ, d, F, h1, rep, q⟩ => ?_
    rw [bor_var] at h1
    split at h1
    · rename_i ds hs
      cases h1
      obtain ⟨p, vs, e1, e2, e3, e4⟩ := rep.ow hs
      exact ⟨_, e1, q _ F H (Grow.refl rep.fz) (.inr ⟨p, vs, ds, rfl, rfl, e3, e4⟩)⟩
    · rw [Option.map_eq_some_iff] at h1
      obtain ⟨r, h1, rfl⟩ := h1
      rw [evE_var] at h1
      split at h1
      · rename_i d hd
        cases h1
        obtain ⟨v, e1, e2⟩ := rep.fr hd
        exact ⟨v, e1, q v F H (Grow.refl rep.fz) (.inl e2)⟩
      · cases h1
  · refine pe_weak h fun σ H Q ⟨ρ, d, F, h1, rep, q⟩ => ?_
    rw [bor_nv hv, Option.map_eq_some_iff] at h1
    obtain ⟨r, h1, rfl⟩ := h1
    exact ⟨ρ, r, F, h1, rep, fun v F' H' g k => q v F' H' g k.br⟩
/-- a value as a test -/
theorem uT_of (h : PE X e (uB Γ ts ir)) (he : ∀ whole, isTrue e X.env whole = (do let v ← whole; standAt e.pos; holding [v] (truthy v))) : PT X e (uT Γ ts ir) := by
  refine pt_weak (pt_truth h he) fun σ H Q ⟨ρ, b, F, h1, rep, q⟩ => ?_
  unfold test at h1
  rw [Option.bind_eq_some_iff] at h1
  obtain ⟨d, h1, h2⟩ := h1
  exact ⟨ρ, d, F, h1, rep, fun v F' H' g k => ⟨b, truD_ok (g.fz rep.fz) k h2, q F' H' g⟩⟩
def IsBo : Expr → Prop
  | .BoolOp .. => True
  | _ => False
structure Snd (Γ : Gm) (ts : List Addr) (X : Cx) (e : Expr) (ir : E) : Prop where
  v : PE X e (uE Γ ts ir)
  t : PT X e (uT Γ ts ir)
  w : IsBo e → PW X e (uT Γ ts ir)
theorem Snd.plain (G : Good X ts Γ c) (hc : chkE c ir e = true) (h : PE X e (uE Γ ts ir)) (he : ∀ whole, isTrue e X.env whole = (do let v ← whole; standAt e.pos; holding [v] (truthy v))) (hb : ¬ IsBo e) : Snd Γ ts X e ir :=
  ⟨h, uT_of (uB_of G hc h) he, fun z => absurd z hb⟩
/-! ### the parts -/
theorem bin_ok {a b : Expr} {ia ib : E} {op : Operator} {pos : Pos} (G : Good X ts Γ c) (ha : PE X a (uB Γ ts ia)) (hb : PE X b (uB Γ ts ib)) : PE X (.BinOp a op b pos) (uE Γ ts (.bin op ia ib)) := by
  have ho : OpR X (binaryOp op) (fun x y H Q => ∃ da db r, binD op da db = some r ∧ rD ts da db r x y H Q) := fun pins s σ H x y v u Q I rx ry ⟨da, db, r, h, q⟩ =>
    binD_ok op (by have := G.un; omega) h pins s σ H x y v u Q I rx ry q
  refine pe_weak (pe_op ho ha hb) fun σ H Q ⟨ρ, r, F, h1, rep, q⟩ => ?_
  unfold evE at h1
  simp only [Option.bind_eq_some_iff] at h1
  obtain ⟨da, h1, db, h2, h3⟩ := h1
  refine ⟨ρ, da, F, h1, rep, fun v F1 H1 g1 k1 => ⟨ρ, db, F1, h2, rep.grow g1, fun u F2 H2 g2 k2 => ⟨da, db, r, h3, F2, g2.fz (g1.fz rep.fz), k1.grow (g1.fz rep.fz).tab g2, k2, fun z F3 H3 g3 k3 => ?_⟩⟩⟩
  have g12 := g1.trans rep.fz.tab g2
  exact q z F3 H3 (g12.trans rep.fz.tab g3) (k3.back rep.fz.tab g12)
theorem cmpR_ok {op : CmpOp} (G : Good X ts Γ c) : OpR X (compareOp op) (fun x y H Q => ∃ da db k, cmpD op da db = some k ∧ rC ts da db k x y H Q) := fun pins s σ H x y v u Q I rx ry ⟨da, db, k, h, q⟩ =>
  cmpD_ok op G.hu h pins s σ H x y v u Q I rx ry q
theorem cmp_ok {a b : Expr} {ia ib : E} {op : CmpOp} {pos : Pos} (G : Good X ts Γ c) (hm : behindInMarks op b = false) (ha : PE X a (uB Γ ts ia)) (hb : PE X b (uB Γ ts ib)) : Snd Γ ts X (.Compare a [op] [b] pos) (.cmp op ia ib) := by
  have key : ∀ ρ d, evE Γ ρ (.cmp op ia ib) = some d → ∃ da db k, bor ρ ia (evE Γ ρ ia) = some da ∧ bor ρ ib (evE Γ ρ ib) = some db ∧ cmpD op da db = some k ∧ d = .val (.bool k) := fun ρ d h => by
    unfold evE at h
    simp only [Option.bind_eq_some_iff, Option.map_eq_some_iff] at h
    obtain ⟨da, h1, db, h2, k, h3, h4⟩ := h
    exact ⟨da, db, k, h1, h2, h3, h4.symm⟩
  refine ⟨pe_weak (pe_cmpR (cmpR_ok G) ha hb hm) fun σ H Q ⟨ρ, r, F, h1, rep, q⟩ => ?_, pt_weak (pt_cmpR (cmpR_ok G) ha hb hm) fun σ H Q ⟨ρ, r, F, h1, rep, q⟩ => ?_, fun z => z.elim⟩
  · obtain ⟨da, db, k, e1, e2, e3, rfl⟩ := key ρ r h1
    refine ⟨ρ, da, F, e1, rep, fun v F1 H1 g1 k1 => ⟨ρ, db, F1, e2, rep.grow g1, fun u F2 H2 g2 k2 => ⟨da, db, k, e3, F2, g2.fz (g1.fz rep.fz), k1.grow (g1.fz rep.fz).tab g2, k2, ?_⟩⟩⟩
    exact q _ F2 H2 (g1.trans rep.fz.tab g2) (.bl _)
  · unfold test at h1
    rw [Option.bind_eq_some_iff] at h1
    obtain ⟨d, h0, h1⟩ := h1
    have hb : bor ρ (.cmp op ia ib) (evE Γ ρ (.cmp op ia ib)) = (evE Γ ρ (.cmp op ia ib)).map Res.dat := rfl
    rw [hb, Option.map_eq_some_iff] at h0
    obtain ⟨r0, h0, rfl⟩ := h0
    obtain ⟨da, db, k, e1, e2, e3, er⟩ := key ρ r0 h0
    subst er
    cases h1
    refine ⟨ρ, da, F, e1, rep, fun v F1 H1 g1 k1 => ⟨ρ, db, F1, e2, rep.grow g1, fun u F2 H2 g2 k2 => ⟨da, db, r, e3, F2, g2.fz (g1.fz rep.fz), k1.grow (g1.fz rep.fz).tab g2, k2, r, rfl, ?_⟩⟩⟩
    exact q F2 H2 (g1.trans rep.fz.tab g2)
theorem neg_ok {a : Expr} {ia : E} {pos : Pos} (ha : PE X a (uB Γ ts ia)) : PE X (.UnaryOp .USub a pos) (uE Γ ts (.neg ia)) := by
  have ho : UnR X (unaryOp .USub) (fun x H Q => ∃ da r, negD da = some r ∧ ∃ F, Fz ts F H ∧ BR F H x da ∧ ∀ v F' H', Grow ts F H F' H' → RR H F' H' v r → Q v H') := fun pins s σ H x v Q I rx ⟨da, r, h, q⟩ =>
    negD_ok h pins s σ H x v Q I rx q
  refine pe_weak (pe_un ho ha) fun σ H Q ⟨ρ, r, F, h1, rep, q⟩ => ?_
  unfold evE at h1
  simp only [Option.bind_eq_some_iff] at h1
  obtain ⟨da, h1, h3⟩ := h1
  refine ⟨ρ, da, F, h1, rep, fun v F1 H1 g1 k1 => ⟨da, r, h3, F1, g1.fz rep.fz, k1, fun z F3 H3 g3 k3 => ?_⟩⟩
  exact q z F3 H3 (g1.trans rep.fz.tab g3) (k3.back rep.fz.tab g1)
theorem not_ok {a : Expr} {ia : E} {pos : Pos} (ha : PE X a (uB Γ ts ia)) (ht : PT X a (uT Γ ts ia)) : Snd Γ ts X (.UnaryOp .Not a pos) (.not ia) := by
  have key : ∀ ρ d, evE Γ ρ (.not ia) = some d → ∃ da k, bor ρ ia (evE Γ ρ ia) = some da ∧ truD da = some k ∧ d = .val (.bool (!k)) := fun ρ d h => by
    unfold evE at h
    simp only [Option.bind_eq_some_iff, Option.map_eq_some_iff] at h
    obtain ⟨k, ⟨da, h1, h2⟩, h3⟩ := h
    exact ⟨da, k, h1, h2, h3.symm⟩
  refine ⟨pe_weak (pe_notT ha) fun σ H Q ⟨ρ, r, F, h1, rep, q⟩ => ?_, pt_weak (pt_not ht) fun σ H Q ⟨ρ, r, F, h1, rep, q⟩ => ?_, fun z => z.elim⟩
  · obtain ⟨da, k, e1, e2, rfl⟩ := key ρ r h1
    exact ⟨ρ, da, F, e1, rep, fun v F1 H1 g1 k1 => ⟨k, truD_ok (g1.fz rep.fz) k1 e2, q _ F1 H1 g1 (.bl _)⟩⟩
  · unfold test at h1
    rw [Option.bind_eq_some_iff] at h1
    obtain ⟨d, h0, h1⟩ := h1
    have hb : bor ρ (.not ia) (evE Γ ρ (.not ia)) = (evE Γ ρ (.not ia)).map Res.dat := rfl
    rw [hb, Option.map_eq_some_iff] at h0
    obtain ⟨r0, h0, rfl⟩ := h0
    obtain ⟨da, k, e1, e2, rfl⟩ := key ρ r0 h0
    cases h1
    refine ⟨ρ, k, F, ?_, rep, fun F' H' g => q F' H' g⟩
    unfold test
    rw [e1]; exact e2
theorem test_of {ρ : List Cell} {ia : E} {b : Bool} (h : ((bor ρ ia (evE Γ ρ ia)).bind boolD) = some b) : test Γ ρ ia = some b := by
  rw [Option.bind_eq_some_iff] at h
  obtain ⟨d, h1, h2⟩ := h
  unfold test
  rw [h1]
  cases d <;> simp [boolD] at h2
  subst h2; rfl
theorem and_ok {a b : Expr} {ia ib : E} {rest : List Expr} {pos : Pos} (ha : PE X a (uB Γ ts ia)) (hat : PT X a (uT Γ ts ia)) (hb : PE X (.BoolOp .And (b :: rest) pos) (uE Γ ts ib)) (hbw : PW X (.BoolOp .And (b :: rest) pos) (uT Γ ts ib)) : Snd Γ ts X (.BoolOp .And (a :: b :: rest) pos) (.and ia ib) := by
  have hw : PW X (.BoolOp .And (a :: b :: rest) pos) (uT Γ ts (.and ia ib)) := by
    refine pw_weak (pw_and hat hbw) fun σ H Q ⟨ρ, r, F, h1, rep, q⟩ => ?_
    unfold test at h1
    rw [Option.bind_eq_some_iff] at h1
    obtain ⟨d, h0, h1⟩ := h1
    have hb : bor ρ (.and ia ib) (evE Γ ρ (.and ia ib)) = (evE Γ ρ (.and ia ib)).map Res.dat := rfl
    rw [hb, Option.map_eq_some_iff] at h0
    obtain ⟨r0, h0, rfl⟩ := h0
    unfold evE at h0
    rw [Option.bind_eq_some_iff] at h0
    obtain ⟨k, h2, h3⟩ := h0
    refine ⟨ρ, k, F, test_of h2, rep, fun F1 H1 g1 => ?_⟩
    cases k with
    | true =>
      rw [if_pos rfl] at h3 ⊢
      refine ⟨ρ, r, F1, ?_, rep.grow g1, fun F2 H2 g2 => q F2 H2 (g1.trans rep.fz.tab g2)⟩
      unfold test
      rw [bor_some h3]; exact h1
    | false =>
      rw [if_neg Bool.false_ne_true] at h3 ⊢
      cases h3
      cases h1
      exact q F1 H1 g1
  refine ⟨pe_weak (pe_and ha hb) fun σ H Q ⟨ρ, r, F, h1, rep, q⟩ => ?_, hw.pt, fun _ => hw⟩
  unfold evE at h1
  simp only [Option.bind_eq_some_iff] at h1
  obtain ⟨k, ⟨d, h1, h2⟩, h3⟩ := h1
  refine ⟨ρ, d, F, h1, rep, fun v F1 H1 g1 k1 => ?_⟩
  cases d <;> simp [boolD] at h2
  subst h2
  refine ⟨_, BR_bool k1, ?_⟩
  split at h3
  · rename_i hk
    rw [if_pos hk]
    exact ⟨ρ, r, F1, h3, rep.grow g1, fun u F2 H2 g2 k2 => q u F2 H2 (g1.trans rep.fz.tab g2) (k2.back rep.fz.tab g1)⟩
  · rename_i hk
    rw [if_neg hk]
    cases h3
    exact q _ F1 H1 g1 (.bl _)
theorem or_ok {a b : Expr} {ia ib : E} {rest : List Expr} {pos : Pos} (ha : PE X a (uB Γ ts ia)) (hat : PT X a (uT Γ ts ia)) (hb : PE X (.BoolOp .Or (b :: rest) pos) (uE Γ ts ib)) (hbw : PW X (.BoolOp .Or (b :: rest) pos) (uT Γ ts ib)) : Snd Γ ts X (.BoolOp .Or (a :: b :: rest) pos) (.or ia ib) := by
  have hw : PW X (.BoolOp .Or (a :: b :: rest) pos) (uT Γ ts (.or ia ib)) := by
    refine pw_weak (pw_or hat hbw) fun σ H Q ⟨ρ, r, F, h1, rep, q⟩ => ?_
    unfold test at h1
    rw [Option.bind_eq_some_iff] at h1
    obtain ⟨d, h0, h1⟩ := h1
    have hb : bor ρ (.or ia ib) (evE Γ ρ (.or ia ib)) = (evE Γ ρ (.or ia ib)).map Res.dat := rfl
    rw [hb, Option.map_eq_some_iff] at h0
    obtain ⟨r0, h0, rfl⟩ := h0
    unfold evE at h0
    rw [Option.bind_eq_some_iff] at h0
    obtain ⟨k, h2, h3⟩ := h0
    refine ⟨ρ, k, F, test_of h2, rep, fun F1 H1 g1 => ?_⟩
    cases k with
    | false =>
      rw [if_neg Bool.false_ne_true] at h3 ⊢
      refine ⟨ρ, r, F1, ?_, rep.grow g1, fun F2 H2 g2 => q F2 H2 (g1.trans rep.fz.tab g2)⟩
      unfold test
      rw [bor_some h3]; exact h1
    | true =>
      rw [if_pos rfl] at h3 ⊢
      cases h3
      cases h1
      exact q F1 H1 g1
  refine ⟨pe_weak (pe_or ha hb) fun σ H Q ⟨ρ, r, F, h1, rep, q⟩ => ?_, hw.pt, fun _ => hw⟩
  unfold evE at h1
  simp only [Option.bind_eq_some_iff] at h1
  obtain ⟨k, ⟨d, h1, h2⟩, h3⟩ := h1
  refine ⟨ρ, d, F, h1, rep, fun v F1 H1 g1 k1 => ?_⟩
  cases d <;> simp [boolD] at h2
  subst h2
  refine ⟨_, BR_bool k1, ?_⟩
  split at h3
  · rename_i hk
    rw [if_pos hk]
    cases h3
    exact q _ F1 H1 g1 (.bl _)
  · rename_i hk
    rw [if_neg hk]
    exact ⟨ρ, r, F1, h3, rep.grow g1, fun u F2 H2 g2 k2 => q u F2 H2 (g1.trans rep.fz.tab g2) (k2.back rep.fz.tab g1)⟩
/-- one operand alone -/
theorem one_ok {a : Expr} {ia : E} {op : BoolOp} {pos : Pos} (ha : PE X a (uE Γ ts ia)) : PE X (.BoolOp op [a] pos) (uE Γ ts ia) := pe_one ha
theorem onew_ok {a : Expr} {ia : E} {op : BoolOp} {pos : Pos} (ha : PT X a (uT Γ ts ia)) : PW X (.BoolOp op [a] pos) (uT Γ ts ia) := by
  cases op
  · exact pw_and1 ha
  · exact pw_or1 ha
theorem bor_ite {ρ : List Cell} {t a b : E} : bor ρ (.ite t a b) (evE Γ ρ (.ite t a b)) = (evE Γ ρ (.ite t a b)).map Res.dat := rfl
theorem ite_ok {t a b : Expr} {it ia ib : E} {pos : Pos} (ht : PT X t (uT Γ ts it)) (ha : PE X a (uE Γ ts ia)) (hb : PE X b (uE Γ ts ib)) (hat : PT X a (uT Γ ts ia)) (hbt : PT X b (uT Γ ts ib)) : Snd Γ ts X (.IfExp t a b pos) (.ite it ia ib) := by
  have key : ∀ ρ r, evE Γ ρ (.ite it ia ib) = some r → ∃ k, test Γ ρ it = some k ∧ (if k = true then evE Γ ρ ia else evE Γ ρ ib) = some r := fun ρ r h => by
    unfold evE at h
    rw [Option.bind_eq_some_iff] at h
    exact h
  refine ⟨pe_weak (pe_ifExp ht ha hb) fun σ H Q ⟨ρ, r, F, h1, rep, q⟩ => ?_, ?_, fun z => z.elim⟩
  · obtain ⟨k, h2, h3⟩ := key ρ r h1
    refine ⟨ρ, k, F, h2, rep, fun F1 H1 g1 => ?_⟩
    split at h3
    · rename_i hk
      rw [if_pos hk]
      exact ⟨ρ, r, F1, h3, rep.grow g1, fun u F2 H2 g2 k2 => q u F2 H2 (g1.trans rep.fz.tab g2) (k2.back rep.fz.tab g1)⟩
    · rename_i hk
      rw [if_neg hk]
      exact ⟨ρ, r, F1, h3, rep.grow g1, fun u F2 H2 g2 k2 => q u F2 H2 (g1.trans rep.fz.tab g2) (k2.back rep.fz.tab g1)⟩
  · refine ⟨fun pins s σ H Q I ⟨ρ, b', F, h1, rep, q⟩ => ?_⟩
    unfold test at h1
    rw [bor_ite, Option.bind_eq_some_iff] at h1
    obtain ⟨d, h0, h1⟩ := h1
    rw [Option.map_eq_some_iff] at h0
    obtain ⟨r0, h0, rfl⟩ := h0
    obtain ⟨k, h2, h3⟩ := key ρ r0 h0
    refine isTrue_IfExp (thn (ht.run pins s σ H (fun k' H1 => k' = k ∧ ∃ F1, Grow ts F H F1 H1) I ⟨ρ, k, F, h2, rep, fun F1 H1 g1 => ⟨rfl, F1, g1⟩⟩) fun k' s1 ⟨H1, I1, e1, F1, g1⟩ => ?_)
    subst e1
    split at h3
    · rename_i hk
      rw [if_pos hk]
      refine hat.run pins s1 σ H1 Q I1 ⟨ρ, b', F1, ?_, rep.grow g1, fun F2 H2 g2 => q F2 H2 (g1.trans rep.fz.tab g2)⟩
      unfold test
      rw [bor_some h3]; exact h1
    · rename_i hk
      rw [if_neg hk]
      refine hbt.run pins s1 σ H1 Q I1 ⟨ρ, b', F1, ?_, rep.grow g1, fun F2 H2 g2 => q F2 H2 (g1.trans rep.fz.tab g2)⟩
      unfold test
      rw [bor_some h3]; exact h1
end
end Pi
end
section
set_option Elab.async false
set_option linter.all false
set_option maxRecDepth 100000
set_option maxHeartbeats 1000000
/-! Pure data over the hand layer: displays, subscripts, calls. -/
namespace Pi
open PySem PySem.Spec PyProof.Rows L2
section
variable {Γ : Gm} {ts : List Addr} {X : Cx} {c : Cc} {e : Expr} {ir : E}
theorem star_of {env : Env} (hc : chkE c ir e = true) (es : List Expr) : starEach (e :: es) env = (false, eval e env) :: starEach es env := by
  cases e <;> first | rfl | (cases ir <;> simp [chkE] at hc)
theorem stars_of {env : Env} : ∀ {l : List E} {es : List Expr}, chkL c l es = true → ∀ p ∈ starEach es env, p.1 = false
  | [], [], _, p, hp => by cases hp
  | [], _ :: _, h, _, _ => by simp [chkL] at h
  | _ :: _, [], h, _, _ => by simp [chkL] at h
  | a :: l, e :: es, h, p, hp => by
    simp only [chkL, Bool.and_eq_true] at h
    rw [star_of h.1] at hp
    rcases List.mem_cons.mp hp with rfl | hp
    · rfl
    · exact stars_of h.2 p hp
theorem back_of {env : Env} {l : List E} {es : List Expr} (h : chkL c l es = true) (pos : Pos) : (backTo pos (starEach es env)).any (·.1) = false := by
  have hs := stars_of (env := env) h
  generalize starEach es env = xs at hs
  unfold backTo
  rw [List.any_eq_false]
  intro p hp
  simp only [List.mem_map] at hp
  obtain ⟨q, hq, rfl⟩ := hp
  have := hs q hq
  simp [this]
theorem nilA_ok : PA X [] (uA Γ ts []) := pa_weak pa_nil fun σ H Q ⟨ρ, ds, F, h1, rep, q⟩ => by
  unfold evA at h1
  cases h1
  exact q [] F H (Grow.refl rep.fz) .nil
theorem nilL_ok : PA X [] (uL Γ ts []) := pa_weak pa_nil fun σ H Q ⟨ρ, ds, F, h1, rep, q⟩ => by
  unfold evL at h1
  cases h1
  exact q [] F H (Grow.refl rep.fz) .nil
theorem consA_ok {es : List Expr} {l : List E} (hc : chkE c ir e = true) (ha : PE X e (uE Γ ts ir)) (hr : PA X es (uA Γ ts l)) : PA X (e :: es) (uA Γ ts (ir :: l)) :=
  pa_weak (pa_cons (uV_of ha) hr (star_of hc es)) fun σ H Q ⟨ρ, ds, F, h1, rep, q⟩ => by
    unfold evA at h1
    simp only [Option.bind_eq_some_iff] at h1
    obtain ⟨d, h1, ds', h2, h3⟩ := h1
    cases h3
    refine ⟨ρ, d, F, h1, rep, fun v F1 H1 g1 k1 => ⟨ρ, ds', F1, h2, rep.grow g1, fun vs F2 H2 g2 k2 => ?_⟩⟩
    exact q _ F2 H2 (g1.trans rep.fz.tab g2) (.cons (Fd_mono g2.ff k1) k2)
theorem consL_ok {es : List Expr} {l : List E} (hc : chkE c ir e = true) (ha : PE X e (uB Γ ts ir)) (hr : PA X es (uL Γ ts l)) : PA X (e :: es) (uL Γ ts (ir :: l)) :=
  pa_weak (pa_cons ha hr (star_of hc es)) fun σ H Q ⟨ρ, ds, F, h1, rep, q⟩ => by
    unfold evL at h1
    simp only [Option.bind_eq_some_iff] at h1
    obtain ⟨d, h1, ds', h2, h3⟩ := h1
    cases h3
    refine ⟨ρ, d, F, h1, rep, fun v F1 H1 g1 k1 => ⟨ρ, ds', F1, h2, rep.grow g1, fun vs F2 H2 g2 k2 => ?_⟩⟩
    exact q _ F2 H2 (g1.trans rep.fz.tab g2) (.cons (k1.grow (g1.fz rep.fz).tab g2) k2)
theorem tup_ok {es : List Expr} {l : List E} {k : Nat} {pos : Pos} (ha : PA X es (uA Γ ts l)) : PE X (.Tuple es k pos) (uE Γ ts (.tup l)) := pe_weak (pe_tup ha) fun σ H Q ⟨ρ, r, F, h1, rep, q⟩ => by
  unfold evE at h1
  rw [Option.bind_eq_some_iff] at h1
  obtain ⟨ds, h1, h2⟩ := h1
  split at h2
  · rename_i hz
    cases h2
    refine ⟨ρ, ds, F, h1, rep, fun vs F1 H1 g1 k1 => ⟨by rw [dp_length k1]; exact hz, fun p hp => ?_⟩⟩
    obtain ⟨g, k⟩ := q_tup (g1.fz rep.fz) hp k1
    exact q _ _ _ (g1.trans rep.fz.tab g) k
  · cases h2
theorem lst_ok {es : List Expr} {l : List E} {pos : Pos} (ha : PA X es (uA Γ ts l)) : PE X (.List es pos) (uE Γ ts (.lst l)) := pe_weak (pe_lst ha) fun σ H Q ⟨ρ, r, F, h1, rep, q⟩ => by
  unfold evE at h1
  rw [Option.bind_eq_some_iff] at h1
  obtain ⟨ds, h1, h2⟩ := h1
  split at h2
  · rename_i hz
    cases h2
    refine ⟨ρ, ds, F, h1, rep, fun vs F1 H1 g1 k1 => ⟨by rw [dp_length k1]; exact hz, fun p hp => ?_⟩⟩
    obtain ⟨g, k⟩ := q_list (g1.fz rep.fz) hp k1
    exact q _ _ _ (g1.trans rep.fz.tab g) (k.back rep.fz.tab g1)
  · cases h2
theorem plainIx_of (hc : chkE c ir e = true) : PlainIx e := by
  intro o i
  cases e <;> first | rfl | (cases ir <;> simp [chkE] at hc)
theorem intD_some {d : PyData} {k : Int} (h : intD d = some k) : d = .int k := by
  cases d <;> simp [intD] at h
  rw [h]
theorem ix_ok {a b : Expr} {ia ib : E} {pos : Pos} (hc : chkE c ib b = true) (ha : PE X a (uB Γ ts ia)) (hb : PE X b (uB Γ ts ib)) : PE X (.Subscript a b pos) (uE Γ ts (.ix ia ib)) := by
  have ho : IxR X (fun x y H Q => ∃ da k d, ixD da k = some d ∧ ∃ F, Fz ts F H ∧ BR F H x da ∧ y = .int k ∧ ∀ v F' H', Grow ts F H F' H' → RR H F' H' v (.val d) → Q v H') := fun value slice pins s σ H x y v u Q I rx ry ⟨da, k, d, h, q⟩ hs =>
    ixD_ok h value slice pins s σ H x y v u Q I rx ry q hs
  refine pe_weak (pe_ix ho ha hb (plainIx_of hc)) fun σ H Q ⟨ρ, r, F, h1, rep, q⟩ => ?_
  unfold evE at h1
  simp only [Option.bind_eq_some_iff, Option.map_eq_some_iff] at h1
  obtain ⟨da, h1, k, ⟨dk, h2, h3⟩, d, h4, rfl⟩ := h1
  cases intD_some h3
  refine ⟨ρ, da, F, h1, rep, fun v F1 H1 g1 k1 => ⟨ρ, _, F1, h2, rep.grow g1, fun u F2 H2 g2 k2 => ⟨da, k, d, h4, F2, g2.fz (g1.fz rep.fz), k1.grow (g1.fz rep.fz).tab g2, BR_int k2, fun z F3 H3 g3 k3 => ?_⟩⟩⟩
  have g12 := g1.trans rep.fz.tab g2
  exact q z F3 H3 (g12.trans rep.fz.tab g3) (k3.back rep.fz.tab g12)
theorem partN_ok : PO X none (uO Γ ts none) := ⟨fun pins s σ H Q I ⟨ρ, k, F, h1, rep, q⟩ => by
  unfold evO at h1
  cases h1
  exact po_none.run pins s σ H Q I (q F H (Grow.refl rep.fz))⟩
theorem partS_ok (h : PE X e (uB Γ ts ir)) : PO X (some e) (uO Γ ts (some ir)) := ⟨fun pins s σ H Q I ⟨ρ, k, F, h1, rep, q⟩ => by
  unfold evO at h1
  rw [Option.map_eq_some_iff] at h1
  obtain ⟨i, h1, rfl⟩ := h1
  rw [Option.bind_eq_some_iff] at h1
  obtain ⟨d, h1, h2⟩ := h1
  cases intD_some h2
  exact (po_some h).run pins s σ H Q I ⟨ρ, _, F, h1, rep, fun v F' H' g k => ⟨i, BR_int k, q F' H' g⟩⟩⟩
theorem sl_ok {a : Expr} {ia : E} {lo hi : Option Expr} {il ih : Option E} {pos p2 : Pos} (ha : PE X a (uB Γ ts ia)) (hl : PO X lo (uO Γ ts il)) (hh : PO X hi (uO Γ ts ih)) : PE X (.Subscript a (.Slice lo hi none p2) pos) (uE Γ ts (.sl ia il ih)) := by
  have ho : SlR X (fun x l u H Q => ∃ da lo hi r, slD da lo hi = some r ∧ ∃ F, Fz ts F H ∧ BR F H x da ∧ l = lo ∧ u = hi ∧ ∀ v F' H', Grow ts F H F' H' → RR H F' H' v r → Q v H') := fun pins s σ H x v vl vu lo hi sl Q I rx h1 h2 h3 ⟨da, l, u, r, h, q⟩ =>
    slD_ok h pins s σ H x v vl vu lo hi sl Q I rx h1 h2 h3 q
  refine pe_weak (pe_slice ho ha hl hh) fun σ H Q ⟨ρ, r, F, h1, rep, q⟩ => ?_
  unfold evE at h1
  simp only [Option.bind_eq_some_iff] at h1
  obtain ⟨da, h1, l, h2, u, h3, h4⟩ := h1
  refine ⟨ρ, da, F, h1, rep, fun v F1 H1 g1 k1 => ⟨ρ, l, F1, h2, rep.grow g1, fun F2 H2 g2 => ⟨ρ, u, F2, h3, (rep.grow g1).grow g2, fun F3 H3 g3 => ?_⟩⟩⟩
  have g12 := g1.trans rep.fz.tab g2
  have g13 := g12.trans rep.fz.tab g3
  have f1 := g1.fz rep.fz
  have f2 := g2.fz f1
  exact ⟨da, l, u, r, h4, F3, g3.fz f2, (k1.grow f1.tab g2).grow f2.tab g3, rfl, rfl, fun z F4 H4 g4 k4 => q z F4 H4 (g13.trans rep.fz.tab g4) (k4.back rep.fz.tab g13)⟩
theorem call_ok (G : Good X ts Γ c) {x : Str} {f : Nat} {e : Expr} {es : List Expr} {l : List E} {p pos : Pos} (hf : c.fs.lookup x = some f) (hg : glB c.sc x = true) (hd : (!dbg x) = true) (hc : chkL c l (e :: es) = true) (ha : PA X (e :: es) (uA Γ ts l)) :
    PE X (.Call (.Name x p) (e :: es) [] pos) (uE Γ ts (.call f l)) := by
  obtain ⟨fa, fd, ps, k, h1, h2, h3, h4, hl, h5⟩ := G.fs x f hf
  have hs : starEach (e :: es) X.env = (false, eval e X.env) :: starEach es X.env := by
    cases l with
    | nil => simp [chkL] at hc
    | cons a l =>
      simp only [chkL, Bool.and_eq_true] at hc
      exact star_of hc.1 es
  have hb : (backTo pos (starEach es X.env)).any (·.1) = false := by
    cases l with
    | nil => simp [chkL] at hc
    | cons a l =>
      simp only [chkL, Bool.and_eq_true] at hc
      exact back_of hc.2 pos
  refine pe_weak (pe_call h5 (h4.mono (Nat.le_add_right _ _)) (glB_ok G hg) h1 h2 h3 .nil pass0 ha (dbg_ok hd).1 hs hb) fun σ H Q ⟨ρ, r, F, h1, rep, q⟩ => ?_
  unfold evE at h1
  rw [Option.bind_eq_some_iff] at h1
  obtain ⟨ds, h1, h2⟩ := h1
  refine ⟨ρ, ds, F, h1, rep, fun vs F1 H1 g1 k1 => ?_⟩
  show ∃ F ds r, FdAll F (vs ++ []) ds ∧ _
  rw [List.append_nil]
  exact ⟨F1, ds, r, k1, g1.fz rep.fz, hl ds r h2, h2, fun z F2 H2 g2 k2 => q z F2 H2 (g1.trans rep.fz.tab g2) (k2.back rep.fz.tab g1)⟩
theorem boot_rows : ∀ b f, biV b = some f → bootBuiltins (Str.ofString (biN b)) = some f := by
  intro b f h
  cases b <;> simp [biV] at h <;> subst h <;> decide +kernel
theorem boot_isi : ∀ b t, isiT b = some t → bootBuiltins (Str.ofString t) = some (.type t) := by
  intro b f h
  cases b <;> simp [isiT] at h <;> subst h <;> decide +kernel
theorem biR_ok (G : Good X ts Γ c) (b : Bi) {f : Value} (hf : biV b = some f) : CallR X f (fun xs H Q => ∃ ds r, biD b ds = some r ∧ rB ts ds r xs H Q) := fun pins s σ H xs us Q I rv ⟨ds, r, h, q⟩ =>
  biD_ok b hf G.calm G.hu h pins s σ H xs us Q I rv q
theorem bi_ok (G : Good X ts Γ c) {b : Bi} {x : Str} {e : Expr} {es : List Expr} {l : List E} {p pos : Pos} {f : Value} (hf : biV b = some f) (hx : blt c x (biN b) = true) (hc : chkL c l (e :: es) = true) (ha : PA X (e :: es) (uL Γ ts l)) :
    PE X (.Call (.Name x p) (e :: es) [] pos) (uE Γ ts (.bi b l)) := by
  obtain ⟨rfl, h1, h2, h3, h4⟩ := blt_ok G hx
  have hs : starEach (e :: es) X.env = (false, eval e X.env) :: starEach es X.env := by
    cases l with
    | nil => simp [chkL] at hc
    | cons a l =>
      simp only [chkL, Bool.and_eq_true] at hc
      exact star_of hc.1 es
  have hb : (backTo pos (starEach es X.env)).any (·.1) = false := by
    cases l with
    | nil => simp [chkL] at hc
    | cons a l =>
      simp only [chkL, Bool.and_eq_true] at hc
      exact back_of hc.2 pos
  have key : ∀ σ H Q, uE Γ ts (.bi b l) σ H Q → tCB (fun xs H Q => ∃ ds r, biD b ds = some r ∧ rB ts ds r xs H Q) (uL Γ ts l) σ H Q := fun σ H Q ⟨ρ, r, F, h1, rep, q⟩ => by
    unfold evE at h1
    rw [Option.bind_eq_some_iff] at h1
    obtain ⟨ds, h1, h2⟩ := h1
    refine ⟨ρ, ds, F, h1, rep, fun vs F1 H1 g1 k1 => ⟨ds, r, h2, F1, g1.fz rep.fz, k1, fun z F2 H2 g2 k2 => ?_⟩⟩
    exact q z F2 H2 (g1.trans rep.fz.tab g2) (k2.back rep.fz.tab g1)
  have hv := boot_rows b f hf
  have hr := biR_ok G b hf
  have two : (∃ id, f = .builtin id) ∨ ∃ T, f = .type T := by
    cases b <;> simp [biV] at hf <;> subst hf <;> simp
  rcases two with ⟨id, rfl⟩ | ⟨T, rfl⟩
  · exact pe_weak (pe_callB hr h1 h2 hv ha h4 h3 hs hb) key
  · exact pe_weak (pe_callTy hr h1 h2 hv ha h4 h3 hs hb) key
theorem isi_ok' (G : Good X ts Γ c) {b : Bi} {x y : Str} {t : String} {e : Expr} {ia : E} {p p2 pos : Pos} (hf : isiT b = some t) (hx : blt c x "isinstance" = true) (hy : blt c y t = true) (hc : chkE c ia e = true) (ha : PE X e (uB Γ ts ia)) :
    PE X (.Call (.Name x p) [e, .Name y p2] [] pos) (uE Γ ts (.bi b [ia])) := by
  obtain ⟨rfl, h1, h2, h3, h4⟩ := blt_ok G hx
  obtain ⟨rfl, k1, k2, k3, k4⟩ := blt_ok G hy
  have hr : CallR X (.builtin "isinstance") (fun xs H Q => ∃ d r, biD b [d] = some r ∧ ∃ F x, Fz ts F H ∧ xs = [x, .ty t] ∧ BR F H x d ∧ ∀ v F' H', Grow ts F H F' H' → RR H F' H' v r → Q v H') := fun pins s σ H xs us Q I rv ⟨d, r, h, q⟩ =>
    isi_ok b hf h pins s σ H xs us Q I rv q
  refine pe_weak (pe_callB hr h1 h2 (show bootBuiltins (Str.ofString "isinstance") = some (.builtin "isinstance") by decide +kernel) (pa_cons ha (pa_cons (pe_bltn (v := .ty t) k1 k2 (boot_isi b t hf) rfl k4 k3) pa_nil) (star_of hc _)) h4 h3 (star_of hc _)) fun σ H Q ⟨ρ, r, F, h1, rep, q⟩ => ?_
  unfold evE at h1
  rw [Option.bind_eq_some_iff] at h1
  obtain ⟨ds, h1, h2⟩ := h1
  unfold evL at h1
  simp only [Option.bind_eq_some_iff] at h1
  obtain ⟨d, h0, ds', h5, h6⟩ := h1
  unfold evL at h5
  cases h5
  cases h6
  refine ⟨ρ, d, F, h0, rep, fun v F1 H1 g1 k1 => ⟨d, r, h2, F1, v, g1.fz rep.fz, rfl, k1, fun z F2 H2 g2 k2 => ?_⟩⟩
  exact q z F2 H2 (g1.trans rep.fz.tab g2) (k2.back rep.fz.tab g1)
end
end Pi
end
section
set_option Elab.async false
set_option linter.all false
set_option maxRecDepth 100000
set_option maxHeartbeats 2000000
/-! Pure data over the hand layer: enumerate of a tuple, of a text. -/
namespace PySem
open Sem (wp)
open AutoSeq1 (wpAny_loadPart')
theorem meets_enumerate_pi1 {v : Value} {o : Obj} {H : Heap → Prop} (B : Begins v o H) :
    Meets (Builtin.«enumerate.__new__» ⟨[.type "enumerate", v], []⟩) (fun _ R s => H s.heap ∧
      R (.ok (.ret (.ref (s.heap.push o).objs.size))) { s with heap := (s.heap.push o).push { cls := .type "enumerate", data := .fields #[.none, .bool false, .ref s.heap.objs.size, rawInt 0, .none, .none] } }) :=
  .of_wp fun prog w A R s h => by
    obtain ⟨hp, g, d, tk, os⟩ := s; obtain ⟨h1, h⟩ := h
    have hsub := sub_enumerate
    have q1 : ∀ {A' : Around} {E : Value → Shared → Prop} {Q : Value → Shared → Prop}, Q (.ref hp.objs.size) ⟨hp.push o, g, d, tk, os⟩ → wpAny (model prog w) A' (pyIter v) Q E ⟨hp, g, d, tk, os⟩ :=
      fun q => B.iter prog w _ _ ⟨hp, g, d, tk, os⟩ _ h1 q
    wp_walk using q1
    refine wpAny_stack_any fun st => wpAny_pure ?_
    split
    · rename_i c _ _ _ _ _
      cases (c == Value.type "enumerate")
      · wp_walk using q1
        exact ⟨_, rfl, h⟩
      · wp_walk using q1
        exact ⟨_, rfl, h⟩
    · wp_walk using q1
      exact ⟨_, rfl, h⟩
theorem enum_begins_pi1 {prog : Program} {w : World} {A : Around} {E : Value → Shared → Prop} {s : Shared} {v : Value} {o : Obj} {H : Heap → Prop} {Q : Value → Shared → Prop} (B : Begins v o H) (h1 : H s.heap)
    (h : ∀ h', IsEnum h' (s.heap.objs.size + 1) s.heap.objs.size 0 .none → h'.get? s.heap.objs.size = some o → h'.objs.size = s.heap.objs.size + 2 →
      (∀ b o, s.heap.get? b = some o → h'.get? b = some o) → Q (.ref (s.heap.objs.size + 1)) { s with heap := h' }) :
    wpAny (model prog w) A (call (.type "enumerate") [v]) Q E s := by
  refine callType_new F.called_enumerate (by decide) (F.typeCall_enumerate_1 _) (F.newCall_enumerate_1 _) (fun obj => F.args_object_init_2 obj _) F.entry_enumerate_new
    (meets_enumerate_pi1 B) ⟨h1, ?_⟩
  have hz : (s.heap.push o).objs.size = s.heap.objs.size + 1 := Heap.size_push ..
  show _ ∧ _
  rw [hz]
  have he : IsEnum ((s.heap.push o).push { cls := .type "enumerate", data := .fields #[.none, .bool false, .ref s.heap.objs.size, rawInt 0, .none, .none] }) (s.heap.objs.size + 1) s.heap.objs.size 0 .none := by
    have := Heap.get?_push_size (s.heap.push o) (o := { cls := .type "enumerate", data := .fields #[.none, .bool false, .ref s.heap.objs.size, rawInt 0, .none, .none] }) rfl
    rw [hz] at this; exact this
  refine ⟨⟨_, he, rfl⟩, h _ he (Heap.get?_push_of_some _ (Heap.get?_push_size _ B.free)) (by rw [Heap.size_push, hz]) fun b o x => Heap.get?_push_of_some _ (Heap.get?_push_of_some _ x)⟩
end PySem
namespace Pi
open PySem PySem.Spec PyProof.Rows L2
/-- enumerate over the tuple at a -/
def IteT (K : PySem.W.Frag) (a : Addr) : It :=
  ⟨fun i H => ∃ (xs : List V) (x : V), SqT K H a xs ∧ xs[i]? = some x, fun i H v H' => ∃ T x, v = .ref T ∧ H T = none ∧ H' = upd H T (.tup [.int (i : Nat), x]) ∧ ∀ xs, SqT K H a xs → xs[i]? = some x, fun i H => ∃ xs : List V, SqT K H a xs ∧ xs.length = i⟩
/-- .. over a text -/
def IteS (z : Str) : It :=
  ⟨fun i H => i < z.cps.size, fun i H v H' => ∃ T c, v = .ref T ∧ H T = none ∧ H' = upd H T (.tup [.int (i : Nat), .str ⟨#[c]⟩]) ∧ z.cps[i]? = some c, fun i H => z.cps.size = i⟩
theorem turn_enumT {P : Program} {w : World} {K : PySem.W.Frag} {elts : List Expr} {kk : Nat} {tpos : Pos} (a e it : Addr) :
    Turn P w K (.Tuple elts kk tpos) (IteT K a) [e, it] e (fun i h => (∃ old, IsEnum h e it ((i : Nat) : Int) old) ∧ h.IsTupleIter it a i ∧ e ≠ it ∧ a ≠ it ∧ e ≠ a) where
  mem := by simp
  obj := fun i h st b hb => by
    obtain ⟨⟨old, he⟩, ⟨o, ho, hc, hd⟩, _⟩ := st
    have e' : b = e ∨ b = it := by simpa using hb
    rcases e' with z | z
    · rw [z]; exact ⟨_, he, fun v q => nomatch q⟩
    · rw [z]; exact ⟨o, ho, fun v q => by rw [hd] at q; cases q⟩
  keep := fun i h h' st k => let ⟨⟨old, he⟩, hi, hne⟩ := st; ⟨⟨old, k e (by simp) _ he⟩, hi.at fun o q => k it (by simp) o q, hne⟩
  item := by
    intro X hP hw hK hc i pins s σ H E I hf st hg
    subst hP hw hK
    obtain ⟨⟨old, he⟩, hit, hne, hat, hea⟩ := st
    obtain ⟨xs, x, hq, hx⟩ := hg
    obtain ⟨its, rv, p, hz⟩ := I.tuple hq
    obtain ⟨u, hu, ru⟩ := rv.get hx
    have hel : e < s.heap.objs.size := Heap.lt_size he
    have hil : it < s.heap.objs.size := by obtain ⟨_, q, _⟩ := hit; exact Heap.lt_size q
    have hlt : i < its.toArray.size := by
      rcases Nat.lt_or_ge i its.length with q | q
      · simpa using q
      · rw [List.getElem?_eq_none q] at hu; cases hu
    have D := Draws.tuple (prog := X.prog) (w := X.w) (A := X.A.in1) (I.ok.hd hc) it a hat its.toArray
    refine wpAny_pyNext_enum_itemD D he ⟨hit, p⟩ hlt hne (by simp [hne, hea]) fun x' h' tk hP' ho st' hT hsz hk => ?_
    have ex : x' = u := by
      have h1 : its.toArray[i]? = some x' := hP'
      have h2 : its.toArray[i]? = some u := by simpa using hu
      exact Option.some.inj (h1.symm.trans h2)
    subst ex
    refine ⟨_, rfl, wpAny_letOwnedTupleGo_enum (s := { s with heap := h', toks := tk + 1 }) ho fun h'' he' sb => ?_⟩
    have hT2 : h''.get? s.heap.objs.size = some { cls := .type "tuple", data := .seq #[.int i tk, x'] } := (sb.2 _ (Nat.ne_of_gt hel)).trans hT
    have new : ObjOk X.prog X.w (upd H s.heap.objs.size (.tup [.int (i : Nat), x])) h'' s.heap.objs.size (.tup [.int (i : Nat), x]) :=
      ⟨by show 2 ≤ sizeLine; decide, [.int i tk, x'], .cons ⟨_, rfl⟩ (.cons ru .nil), ⟨_, hT2, rfl, _, rfl⟩⟩
    have I1 : Inv X pins σ (upd H s.heap.objs.size (.tup [.int (i : Nat), x])) { s with heap := h'', toks := tk + 1 } :=
      I.turnedNew (ch := [e, it]) (fun b ob hb q => (sb.2 b (fun z => hb (by simp [z]))).trans (hk b ob (fun z => hb (by simp [z])) (fun z => hb (by simp [z])) q)) hf (Nat.le_refl _) new
    refine ⟨.ref s.heap.objs.size, _, I1, rfl, ⟨_, x, rfl, I.hok.fresh (Nat.le_refl _), rfl, fun ys hy => by rw [I.tuple_inj hy hq]; exact hx⟩, ⟨⟨x', ?_⟩, st'.1.at fun o q => (sb.2 it (Ne.symm hne)).trans q, hne, hat, hea⟩, fun b hb => ?_⟩
    · have e1 : ((i + 1 : Nat) : Int) = (i : Int) + 1 := by omega
      rw [e1]; exact he'
    · have hb' : b < s.heap.objs.size := by
        have e' : b = e ∨ b = it := by simpa using hb
        rcases e' with z | z
        · rw [z]; exact hel
        · rw [z]; exact hil
      rw [upd_ne (Nat.ne_of_lt hb')]
      exact (hf b hb).1
  done := by
    intro X hP hw hK hc i pins s σ H E I hf st hg
    subst hP hw hK
    obtain ⟨⟨old, he⟩, hit, hne, hat, hea⟩ := st
    obtain ⟨xs, hq, hx⟩ := hg
    obtain ⟨its, rv, p, hz⟩ := I.tuple hq
    obtain ⟨f0, f1, f2, f3, f4, f5⟩ := hf it (by simp)
    have hl := rv.length
    have D := Draws.tuple (prog := X.prog) (w := X.w) (A := X.A.in1) (I.ok.hd hc) it a hat its.toArray
    have hi : i = its.toArray.size := by simp; omega
    exact wpAny_pyNext_enum_endD D he (by rw [← hi]; exact ⟨hit, p⟩) fun h' eb => ⟨rfl, I.turned (t' := s.toks) (fun b o hb q => eb b o hb q) f0 f1 f3 f4 f5⟩
  self := fun A i s Q E st h => let ⟨⟨_, he⟩, _⟩ := st; wpAny_pyIter_enum he h
def iEnumT (K : PySem.W.Frag) (ta : TA) : TI := fun σ H R => ta σ H fun vs H1 => ∃ a xs, vs = [.ref a] ∧ H1 a = some (.tup xs) ∧ R (IteT K a) H1
theorem pi_enumT {X : Cx} {e : Expr} {ta : TA} {p pos tpos : Pos} {elts : List Expr} {kk : Nat} (hg : Gl X "enumerate") (hm : X.mg "enumerate" = none) (ha : PA X [e] ta) (hs : starEach [e] X.env = [(false, eval e X.env)]) :
    PI X (.Tuple elts kk tpos) (.Call (.Name "enumerate" p) [e] [] pos) (iEnumT X.K ta) := by
  refine ⟨fun pins s σ H R I h => ?_⟩
  refine Call_ (ld_blt I hg hm boot_enumerate (PyProof.Rows.callWith_type1 (thn (ha.run pos pins s σ H _ I h) fun us s1 ⟨vs, H1, I1, r1, q1⟩ => ?_) hs rfl))
  obtain ⟨a, xs, ex, hq, q⟩ := q1
  subst ex
  cases r1 with
  | cons r rr =>
    cases rr
    cases r
    obtain ⟨its, rv, p', hz⟩ := I1.tuple (SqT.of hq)
    have hal : a < s1.heap.objs.size := by obtain ⟨o, ho, _⟩ := p'; exact Heap.lt_size ho
    refine enum_begins_pi1 (begins_tuple a its.toArray) p' fun h' he hob hsz hk => wpAny_pyIter_enum he ?_
    have I2 : Inv X pins σ H1 { s1 with heap := h' } := I1.kept (t' := s1.toks) hk
    refine ⟨s1.heap.objs.size + 1, [s1.heap.objs.size + 1, s1.heap.objs.size], _, _, H1, rfl, I2, turn_enumT a (s1.heap.objs.size + 1) s1.heap.objs.size, ⟨⟨.none, he⟩, ⟨_, hob, rfl, rfl⟩, Nat.succ_ne_self _, Nat.ne_of_lt hal, Nat.ne_of_gt (Nat.lt_succ_of_lt hal)⟩, fun b hb => ?_, q⟩
    have e' : b = s1.heap.objs.size + 1 ∨ b = s1.heap.objs.size := by simpa using hb
    have hle : s1.heap.objs.size ≤ b := by
      rcases e' with z | z
      · rw [z]; exact Nat.le_add_right _ _
      · rw [z]; exact Nat.le_refl _
    exact I1.fpOk hle (I1.hok.fresh hle)
theorem turn_enumS {P : Program} {w : World} {K : PySem.W.Frag} {elts : List Expr} {kk : Nat} {tpos : Pos} (z : Str) (t : Tok) (e it : Addr) :
    Turn P w K (.Tuple elts kk tpos) (IteS z) [e, it] e (fun i h => (∃ old, IsEnum h e it ((i : Nat) : Int) old) ∧ h.IsStrIter it (strIterType z) z t i ∧ e ≠ it) where
  mem := by simp
  obj := fun i h st b hb => by
    obtain ⟨⟨old, he⟩, ⟨o, ho, hc, hd⟩, _⟩ := st
    have e' : b = e ∨ b = it := by simpa using hb
    rcases e' with z | z
    · rw [z]; exact ⟨_, he, fun v q => nomatch q⟩
    · rw [z]; exact ⟨o, ho, fun v q => by rw [hd] at q; cases q⟩
  keep := fun i h h' st k => let ⟨⟨old, he⟩, hi, hne⟩ := st; ⟨⟨old, k e (by simp) _ he⟩, (let ⟨o, ho, r⟩ := hi; ⟨o, k it (by simp) o ho, r⟩), hne⟩
  item := by
    intro X hP hw hK hc i pins s σ H E I hf st hg
    subst hP hw hK
    obtain ⟨⟨old, he⟩, hit, hne⟩ := st
    have hlt : i < z.cps.size := hg
    have hel : e < s.heap.objs.size := Heap.lt_size he
    have hil : it < s.heap.objs.size := by obtain ⟨_, q, _⟩ := hit; exact Heap.lt_size q
    have D := Draws.text (prog := X.prog) (w := X.w) (A := X.A.in1) (I.ok.hd hc) it z t
    refine wpAny_pyNext_enum_itemD D he hit hlt hne (by simp [hne]) fun x' h' tk hP' ho st' hT hsz hk => ?_
    obtain ⟨c, u, hcc, rfl⟩ := hP'
    refine ⟨_, rfl, wpAny_letOwnedTupleGo_enum (s := { s with heap := h', toks := tk + 1 }) ho fun h'' he' sb => ?_⟩
    have hT2 : h''.get? s.heap.objs.size = some { cls := .type "tuple", data := .seq #[.int i tk, .str ⟨#[c]⟩ u] } := (sb.2 _ (Nat.ne_of_gt hel)).trans hT
    have new : ObjOk X.prog X.w (upd H s.heap.objs.size (.tup [.int (i : Nat), .str ⟨#[c]⟩])) h'' s.heap.objs.size (.tup [.int (i : Nat), .str ⟨#[c]⟩]) :=
      ⟨by show 2 ≤ sizeLine; decide, [.int i tk, .str ⟨#[c]⟩ u], .cons ⟨_, rfl⟩ (.cons ⟨_, rfl⟩ .nil), ⟨_, hT2, rfl, _, rfl⟩⟩
    have I1 : Inv X pins σ (upd H s.heap.objs.size (.tup [.int (i : Nat), .str ⟨#[c]⟩])) { s with heap := h'', toks := tk + 1 } :=
      I.turnedNew (ch := [e, it]) (fun b ob hb q => (sb.2 b (fun z => hb (by simp [z]))).trans (hk b ob (fun z => hb (by simp [z])) (fun z => hb (by simp [z])) q)) hf (Nat.le_refl _) new
    refine ⟨.ref s.heap.objs.size, _, I1, rfl, ⟨_, c, rfl, I.hok.fresh (Nat.le_refl _), rfl, hcc⟩, ⟨⟨Value.str ⟨#[c]⟩ u, ?_⟩, (let ⟨o, ho', r⟩ := st'; ⟨o, (sb.2 it (Ne.symm hne)).trans ho', r⟩), hne⟩, fun b hb => ?_⟩
    · have e1 : ((i + 1 : Nat) : Int) = (i : Int) + 1 := by omega
      rw [e1]; exact he'
    · have hb' : b < s.heap.objs.size := by
        have e' : b = e ∨ b = it := by simpa using hb
        rcases e' with z | z
        · rw [z]; exact hel
        · rw [z]; exact hil
      rw [upd_ne (Nat.ne_of_lt hb')]
      exact (hf b hb).1
  done := by
    intro X hP hw hK hc i pins s σ H E I hf st hg
    subst hP hw hK
    obtain ⟨⟨old, he⟩, hit, hne⟩ := st
    have hi : z.cps.size = i := hg
    obtain ⟨f0, f1, f2, f3, f4, f5⟩ := hf it (by simp)
    have D := Draws.text (prog := X.prog) (w := X.w) (A := X.A.in1) (I.ok.hd hc) it z t
    exact wpAny_pyNext_enum_endD D he (by rw [hi]; exact hit) fun h' eb => ⟨rfl, I.turned (t' := s.toks) (fun b o hb q => eb b o hb q) f0 f1 f3 f4 f5⟩
  self := fun A i s Q E st h => let ⟨⟨_, he⟩, _⟩ := st; wpAny_pyIter_enum he h
def iEnumS (ta : TA) : TI := fun σ H R => ta σ H fun vs H1 => ∃ z, vs = [.str z] ∧ R (IteS z) H1
theorem pi_enumS {X : Cx} {e : Expr} {ta : TA} {p pos tpos : Pos} {elts : List Expr} {kk : Nat} (hg : Gl X "enumerate") (hm : X.mg "enumerate" = none) (ha : PA X [e] ta) (hs : starEach [e] X.env = [(false, eval e X.env)]) :
    PI X (.Tuple elts kk tpos) (.Call (.Name "enumerate" p) [e] [] pos) (iEnumS ta) := by
  refine ⟨fun pins s σ H R I h => ?_⟩
  refine Call_ (ld_blt I hg hm boot_enumerate (PyProof.Rows.callWith_type1 (thn (ha.run pos pins s σ H _ I h) fun us s1 ⟨vs, H1, I1, r1, q1⟩ => ?_) hs rfl))
  obtain ⟨z, ex, q⟩ := q1
  subst ex
  cases r1 with
  | cons r rr =>
    cases rr
    obtain ⟨t, rfl⟩ := r
    refine enum_begins_pi1 (begins_text z t) trivial fun h' he hob hsz hk => wpAny_pyIter_enum he ?_
    have I2 : Inv X pins σ H1 { s1 with heap := h' } := I1.kept (t' := s1.toks) hk
    refine ⟨s1.heap.objs.size + 1, [s1.heap.objs.size + 1, s1.heap.objs.size], _, _, H1, rfl, I2, turn_enumS z t (s1.heap.objs.size + 1) s1.heap.objs.size, ⟨⟨.none, he⟩, ⟨_, hob, rfl, rfl⟩, Nat.succ_ne_self _⟩, fun b hb => ?_, q⟩
    have e' : b = s1.heap.objs.size + 1 ∨ b = s1.heap.objs.size := by simpa using hb
    have hle : s1.heap.objs.size ≤ b := by
      rcases e' with z | z
      · rw [z]; exact Nat.le_add_right _ _
      · rw [z]; exact Nat.le_refl _
    exact I1.fpOk hle (I1.hok.fresh hle)
end Pi
end
section
set_option Elab.async false
set_option linter.all false
set_option maxRecDepth 100000
set_option maxHeartbeats 1000000
/-! Pure data over the hand layer: stores, targets, what is walked. -/
namespace Pi
open PySem PySem.Spec PyProof.Rows L2
/-! ### cells stored and forgotten -/
theorem wipe_get {σ : L2.St} {i : Nat} : ∀ {vs : List Nat}, (wipe σ vs)[i]? = if i ∈ vs then (σ[i]?).map (fun _ => none) else σ[i]?
  | [] => by simp [wipe]
  | v :: vs => by
    show ((wipe σ vs).set v none)[i]? = _
    rw [List.getElem?_set, wipe_get (vs := vs), wipe_length]
    by_cases e : v = i
    · subst e
      simp only [List.mem_cons, true_or, if_true]
      by_cases h : v < σ.length
      · rw [if_pos h, List.getElem?_eq_getElem h]; rfl
      · rw [if_neg h, List.getElem?_eq_none (by omega)]; rfl
    · rw [if_neg e]
      have : (i ∈ v :: vs) ↔ i ∈ vs := by simp [Ne.symm e]
      simp only [this]
theorem wipeC_len {ρ : List Cell} : ∀ {vs : List Nat}, (wipeC ρ vs).length = ρ.length
  | [] => rfl
  | v :: vs => by show ((wipeC ρ vs).set v .un).length = _; rw [List.length_set, wipeC_len]
theorem wipeC_get {ρ : List Cell} {i : Nat} : ∀ {vs : List Nat}, (wipeC ρ vs)[i]? = if i ∈ vs then (ρ[i]?).map (fun _ => .un) else ρ[i]?
  | [] => by simp [wipeC]
  | v :: vs => by
    show ((wipeC ρ vs).set v .un)[i]? = _
    rw [List.getElem?_set, wipeC_get (vs := vs), wipeC_len]
    by_cases e : v = i
    · subst e
      simp only [List.mem_cons, true_or, if_true]
      by_cases h : v < ρ.length
      · rw [if_pos h, List.getElem?_eq_getElem h]; rfl
      · rw [if_neg h, List.getElem?_eq_none (by omega)]; rfl
    · rw [if_neg e]
      have : (i ∈ v :: vs) ↔ i ∈ vs := by simp [Ne.symm e]
      simp only [this]
section
variable {ts : List Addr} {ρ : List Cell} {σ : L2.St} {F H : Hp}
theorem Rep.setFr (r : Rep ts ρ σ F H) {i : Nat} {v : V} {d : PyData} (h : Fd F v d) : Rep ts (ρ.set i (.fr d)) (σ.set i (some v)) F H where
  fz := r.fz
  len := by rw [List.length_set, List.length_set]; exact r.len
  cell := fun j c o h1 h2 => by
    rw [List.getElem?_set] at h1 h2
    by_cases e : i = j
    · rw [if_pos e] at h1 h2
      split at h1
      · split at h2
        · cases h1; cases h2; exact h
        · cases h2
      · cases h1
    · rw [if_neg e] at h1 h2
      exact r.cell j c o h1 h2
  dis := fun j k ds es p hjk h1 h2 => by
    have no : ∀ {j : Nat} {ds : List PyData}, (ρ.set i (.fr d))[j]? = some (.ow ds) → i ≠ j ∧ ρ[j]? = some (.ow ds) := fun {j ds} q => by
      rw [List.getElem?_set] at q
      by_cases e : i = j
      · rw [if_pos e] at q; split at q <;> cases q
      · rw [if_neg e] at q; exact ⟨e, q⟩
    obtain ⟨n1, q1⟩ := no h1
    obtain ⟨n2, q2⟩ := no h2
    rw [List.getElem?_set, List.getElem?_set, if_neg n1, if_neg n2]
    exact r.dis j k ds es p hjk q1 q2
theorem Rep.wiped (r : Rep ts ρ σ F H) (vs : List Nat) : Rep ts (wipeC ρ vs) (wipe σ vs) F H where
  fz := r.fz
  len := by rw [wipeC_len, wipe_length]; exact r.len
  cell := fun j c o h1 h2 => by
    rw [wipeC_get] at h1
    rw [wipe_get] at h2
    by_cases e : j ∈ vs
    · rw [if_pos e, Option.map_eq_some_iff] at h1
      obtain ⟨_, _, rfl⟩ := h1
      trivial
    · rw [if_neg e] at h1 h2
      exact r.cell j c o h1 h2
  dis := fun j k ds es p hjk h1 h2 => by
    have no : ∀ {j : Nat} {ds : List PyData}, (wipeC ρ vs)[j]? = some (.ow ds) → j ∉ vs ∧ ρ[j]? = some (.ow ds) := fun {j ds} q => by
      rw [wipeC_get] at q
      by_cases e : j ∈ vs
      · rw [if_pos e, Option.map_eq_some_iff] at q
        obtain ⟨_, _, q⟩ := q
        cases q
      · rw [if_neg e] at q; exact ⟨e, q⟩
    obtain ⟨n1, q1⟩ := no h1
    obtain ⟨n2, q2⟩ := no h2
    rw [wipe_get, wipe_get, if_neg n1, if_neg n2]
    exact r.dis j k ds es p hjk q1 q2
end
/-! ### targets -/
mutual
def slotIn (i : Nat) : T → Bool
  | .name j => decide (i = j)
  | .tup l => slotsIn i l
def slotsIn (i : Nat) : List T → Bool
  | [] => false
  | t :: l => slotIn i t || slotsIn i l
end
mutual
theorem slotIn_own {own : List Nat} {i : Nat} : ∀ {t : T}, tgIn own t = true → slotIn i t = true → i ∈ own
  | .name j, h, k => by
    simp only [slotIn, decide_eq_true_eq] at k
    subst k
    simpa [tgIn] using h
  | .tup l, h, k => slotsIn_own (by simpa [tgIn] using h) (by simpa [slotIn] using k)
theorem slotsIn_own {own : List Nat} {i : Nat} : ∀ {l : List T}, tgsIn own l = true → slotsIn i l = true → i ∈ own
  | [], _, k => by simp [slotsIn] at k
  | t :: l, h, k => by
    simp only [tgsIn, Bool.and_eq_true] at h
    simp only [slotsIn, Bool.or_eq_true] at k
    rcases k with k | k
    · exact slotIn_own h.1 k
    · exact slotsIn_own h.2 k
end
section
variable (ts : List Addr)
def uG (tg : T) : TG := fun v σ H Q => ∃ ρ d ρ' F, asg tg d ρ = some ρ' ∧ Rep ts ρ σ F H ∧ Fd F v d ∧ ∀ σ', Rep ts ρ' σ' F H → (∀ i, slotIn i tg = false → σ'[i]? = σ[i]?) → Q σ' H
def uGs (l : List T) : TGs := fun vs σ H Q => ∃ ρ ds ρ' F, asgs l ds ρ = some ρ' ∧ Rep ts ρ σ F H ∧ FdAll F vs ds ∧ ∀ σ', Rep ts ρ' σ' F H → (∀ i, slotsIn i l = false → σ'[i]? = σ[i]?) → Q σ' H
end
theorem pg_weak {X : Cx} {e : Expr} {t u : TG} (h : PG X e t) (w : ∀ v σ H Q, u v σ H Q → t v σ H Q) : PG X e u := ⟨fun pins s σ H v u' Q I r q => h.run pins s σ H v u' Q I r (w v σ H Q q)⟩
theorem pgs_weak {X : Cx} {e : List Expr} {t u : TGs} (h : PGs X e t) (w : ∀ v σ H Q, u v σ H Q → t v σ H Q) : PGs X e u := ⟨fun pins s σ H v u' Q I r q => h.run pins s σ H v u' Q I r (w v σ H Q q)⟩
section
variable {Γ : Gm} {ts : List Addr} {X : Cx} {c : Cc}
theorem eachT {env : Env} : ∀ {l : List T} {es : List Expr}, chkTs c l es = true → (∀ p ∈ assignEach es env, p.1 = false) ∧ (assignEach es env).length = l.length
  | [], [], _ => ⟨fun p hp => (nomatch hp), rfl⟩
  | [], _ :: _, h => by simp [chkTs] at h
  | _ :: _, [], h => by simp [chkTs] at h
  | t :: l, e :: es, h => by
    simp only [chkTs, Bool.and_eq_true] at h
    obtain ⟨q1, q2⟩ := eachT (env := env) h.2
    have h1 : assignEach (e :: es) env = (false, assign e env) :: assignEach es env := by
      have := h.1
      cases e <;> first | rfl | (cases t <;> simp [chkT] at this)
    rw [h1]
    refine ⟨fun p hp => ?_, by simp [q2]⟩
    rcases List.mem_cons.mp hp with rfl | hp
    · rfl
    · exact q1 p hp
theorem asgs_len : ∀ {l : List T} {ds : List PyData} {ρ ρ' : List Cell}, asgs l ds ρ = some ρ' → ds.length = l.length
  | [], [], _, _, _ => rfl
  | [], _ :: _, _, _, h => by simp [asgs] at h
  | _ :: _, [], _, _, h => by simp [asgs] at h
  | t :: l, d :: ds, ρ, ρ', h => by
    simp only [asgs, Option.bind_eq_some_iff] at h
    obtain ⟨ρ1, _, h2⟩ := h
    simp [asgs_len h2]
mutual
theorem tg_ok (G : Good X ts Γ c) : ∀ (tg : T) (e : Expr), chkT c tg e = true → PG X e (uG ts tg)
  | .name i, e, h => by
    cases e <;> simp only [chkT, Bool.false_eq_true] at h
    rename_i x pos
    unfold tgOk at h
    simp only [Bool.and_eq_true, decide_eq_true_eq] at h
    obtain ⟨⟨h1, h2⟩, h3⟩ := h
    obtain ⟨k1, k2⟩ := locB_ok G h2
    refine pg_weak (pg_name (i := i) G.nd (by rw [G.hN]; exact h1) k1 k2) fun v σ H Q ⟨ρ, d, ρ', F, h4, rep, f, q⟩ => ?_
    unfold asg at h4
    cases h4
    refine q _ (rep.setFr f) fun j hj => ?_
    rw [List.getElem?_set, if_neg (by intro z; subst z; simp [slotIn] at hj)]
  | .tup l, e, h => by
    cases e <;> simp only [chkT, Bool.false_eq_true] at h
    rename_i es k pos
    obtain ⟨e1, e2⟩ := eachT (env := X.env) h
    have hst : (assignEach es X.env).findIdx? (·.1) = none := by
      rw [List.findIdx?_eq_none_iff]
      exact e1
    refine pg_weak (pg_tup G.calm (tgs_ok G l es h) e2 hst) fun v σ H Q ⟨ρ, d, ρ', F, h4, rep, f, q⟩ => ?_
    cases d <;> simp only [asg, reduceCtorEq] at h4
    rename_i ds
    cases f with
    | tup a b =>
      refine ⟨_, _, rfl, SqT.of (rep.fz.sub _ _ a), by rw [dp_length b]; exact asgs_len h4, ρ, ds, ρ', F, h4, rep, b, fun σ' r' s' => q σ' r' fun i hi => s' i (by simpa [slotIn] using hi)⟩
theorem tgs_ok (G : Good X ts Γ c) : ∀ (l : List T) (es : List Expr), chkTs c l es = true → PGs X es (uGs ts l)
  | [], [], _ => pgs_weak pgs_nil fun vs σ H Q ⟨ρ, ds, ρ', F, h4, rep, f, q⟩ => by
    cases ds with
    | nil =>
      unfold asgs at h4
      cases h4
      cases f
      exact ⟨rfl, q σ rep fun _ _ => rfl⟩
    | cons d ds => simp [asgs] at h4
  | [], _ :: _, h => by simp [chkTs] at h
  | _ :: _, [], h => by simp [chkTs] at h
  | t :: l, e :: es, h => by
    simp only [chkTs, Bool.and_eq_true] at h
    have h1 : (assignEach (e :: es) X.env).map (·.2) = assign e X.env :: (assignEach es X.env).map (·.2) := by
      have := h.1
      cases e <;> first | rfl | (cases t <;> simp [chkT] at this)
    refine pgs_weak (pgs_cons (tg_ok G t e h.1) (tgs_ok G l es h.2) h1) fun vs σ H Q ⟨ρ, ds, ρ', F, h4, rep, f, q⟩ => ?_
    cases ds with
    | nil => simp [asgs] at h4
    | cons d ds =>
      cases f with
      | cons f1 f2 =>
        simp only [asgs, Option.bind_eq_some_iff] at h4
        obtain ⟨ρ1, h5, h6⟩ := h4
        refine ⟨_, _, rfl, ρ, d, ρ1, F, h5, rep, f1, fun σ1 r1 s1 => ⟨ρ1, ds, ρ', F, h6, r1, f2, fun σ2 r2 s2 => q σ2 r2 fun i hi => ?_⟩⟩
        simp only [slotsIn, Bool.or_eq_false_iff] at hi
        rw [s2 i hi.2, s1 i hi.1]
end
end
/-! ### what is walked -/
/-- the states in which a source is still readable -/
def Md (fz : Bool) (ts : List Addr) (F H : Hp) : Hp → Hp → Prop := fun F1 H1 => Fz ts F1 H1 ∧ (∀ a o, F a = some o → F1 a = some o) ∧ (fz = false → ∀ a o, a ∉ ts → H a = some o → H1 a = some o)
structure WkD (ts : List Addr) (J : It) (S : Hp → Hp → Prop) (items : List PyData) : Prop where
  go : ∀ i F H, i < items.length → S F H → J.go i H
  stop : ∀ F H, S F H → J.stop items.length H
  yld : ∀ i F H x H', i < items.length → S F H → J.yld i H x H' → ∃ d F', items[i]? = some d ∧ Grow ts F H F' H' ∧ Fd F' x d
def SrcR (fz : Bool) (F H : Hp) (v : V) (d : PyData) : Prop := if fz = true then Fd F v d else BR F H v d
theorem SrcR.br {fz : Bool} {F H : Hp} {v : V} {d : PyData} (h : SrcR fz F H v d) : BR F H v d := by
  unfold SrcR at h
  split at h
  · exact .inl h
  · exact h
section
variable {ts : List Addr} {fz : Bool} {F H : Hp} {v : V} {ds : List PyData}
theorem src_list (f : Fz ts F H) (h : SrcR fz F H v (.list ds)) : ∃ p vs, v = .ref p ∧ vs.length = ds.length ∧ ∀ F1 H1, Md fz ts F H F1 H1 → H1 p = some (.lst vs) ∧ FdAll F1 vs ds := by
  unfold SrcR at h
  split at h
  · cases h with
    | lst a b => exact ⟨_, _, rfl, dp_length b, fun F1 H1 m => ⟨m.1.sub _ _ (m.2.1 _ _ a), FdAll_mono m.2.1 b⟩⟩
  · rename_i hf
    obtain ⟨p, vs, rfl, a, b⟩ := BR_list f h
    exact ⟨p, vs, rfl, dp_length b, fun F1 H1 m => ⟨m.2.2 (by simpa using hf) _ _ (f.tab.nl a (fun _ z => by cases z)) a, FdAll_mono m.2.1 b⟩⟩
theorem src_tup (f : Fz ts F H) (h : SrcR fz F H v (.tuple ds)) : ∃ p vs, v = .ref p ∧ vs.length = ds.length ∧ H p = some (.tup vs) ∧ ∀ F1 H1, Md fz ts F H F1 H1 → H1 p = some (.tup vs) ∧ FdAll F1 vs ds := by
  obtain ⟨p, vs, rfl, a, a', b⟩ := BR_tup f h.br
  exact ⟨p, vs, rfl, dp_length b, a', fun F1 H1 m => ⟨m.1.sub _ _ (m.2.1 _ _ a), FdAll_mono m.2.1 b⟩⟩
/-- a new pair -/
theorem pair_ok {F1 H1 : Hp} {T : Addr} {x y : V} {d e : PyData} (f : Fz ts F1 H1) (hT : H1 T = none) (h1 : Fd F1 x d) (h2 : Fd F1 y e) : ∃ F', Grow ts F1 H1 F' (upd H1 T (.tup [x, y])) ∧ Fd F' (.ref T) (.tuple [d, e]) := by
  obtain ⟨g, k⟩ := q_tup f hT (.cons h1 (.cons h2 .nil))
  exact ⟨_, g, k⟩
theorem wk_list {K : PySem.W.Frag} {p : Addr} {vs : List V} (hl : vs.length = ds.length) (h : ∀ F1 H1, Md fz ts F H F1 H1 → H1 p = some (.lst vs) ∧ FdAll F1 vs ds) : WkD ts (Itl K p) (Md fz ts F H) ds := by
  refine ⟨fun i F1 H1 hi m => ?_, fun F1 H1 m => ?_, fun i F1 H1 x H' hi m y => ?_⟩
  · exact ⟨vs, vs[i]'(by omega), SqL.of (h F1 H1 m).1, List.getElem?_eq_getElem _⟩
  · exact ⟨vs, SqL.of (h F1 H1 m).1, by omega⟩
  · obtain ⟨a, b⟩ := h F1 H1 m
    obtain ⟨rfl, y⟩ := y
    obtain ⟨d, e1, e2⟩ := dp_getV b (y vs (SqL.of a))
    exact ⟨d, F1, e1, Grow.refl m.1, e2⟩
theorem wk_tup {K : PySem.W.Frag} {p : Addr} {vs : List V} (hl : vs.length = ds.length) (h : ∀ F1 H1, Md fz ts F H F1 H1 → H1 p = some (.tup vs) ∧ FdAll F1 vs ds) : WkD ts (Itt K p) (Md fz ts F H) ds := by
  refine ⟨fun i F1 H1 hi m => ?_, fun F1 H1 m => ?_, fun i F1 H1 x H' hi m y => ?_⟩
  · exact ⟨vs, vs[i]'(by omega), SqT.of (h F1 H1 m).1, List.getElem?_eq_getElem _⟩
  · exact ⟨vs, SqT.of (h F1 H1 m).1, by omega⟩
  · obtain ⟨a, b⟩ := h F1 H1 m
    obtain ⟨rfl, y⟩ := y
    obtain ⟨d, e1, e2⟩ := dp_getV b (y vs (SqT.of a))
    exact ⟨d, F1, e1, Grow.refl m.1, e2⟩
theorem wk_str {x : Str} : WkD ts (Its x) (Md fz ts F H) (x.cps.toList.map fun c => .str ⟨#[c]⟩) := by
  refine ⟨fun i F1 H1 hi m => ?_, fun F1 H1 m => ?_, fun i F1 H1 v H' hi m y => ?_⟩
  · show i < x.cps.size
    simpa using hi
  · show x.cps.size ≤ _
    simp
  · obtain ⟨rfl, c, hc, rfl⟩ := y
    exact ⟨.str ⟨#[c]⟩, F1, by simp [hc], Grow.refl m.1, .str _⟩
theorem wk_range {lo : Int} {n : Nat} : WkD ts (Itr lo n) (Md fz ts F H) (((List.range n).map fun (k : Nat) => lo + (k : Int)).map .int) := by
  refine ⟨fun i F1 H1 hi m => ?_, fun F1 H1 m => ?_, fun i F1 H1 v H' hi m y => ?_⟩
  · show i < n
    simpa using hi
  · show n ≤ _
    simp
  · obtain ⟨rfl, rfl⟩ := y
    have hi' : i < n := by simpa using hi
    exact ⟨.int (lo + (i : Int)), F1, by simp [hi'], Grow.refl m.1, .int _⟩
theorem enum_get {i : Nat} {d : PyData} (h : ds[i]? = some d) : (enumI ds)[i]? = some (.tuple [.int i, d]) := by
  unfold enumI
  simp [h]
theorem enum_len : (enumI ds).length = ds.length := by unfold enumI; simp
theorem wk_enum {K : PySem.W.Frag} {p : Addr} {vs : List V} (hl : vs.length = ds.length) (h : ∀ F1 H1, Md fz ts F H F1 H1 → H1 p = some (.lst vs) ∧ FdAll F1 vs ds) : WkD ts (Ite K p) (Md fz ts F H) (enumI ds) := by
  refine ⟨fun i F1 H1 hi m => ?_, fun F1 H1 m => ?_, fun i F1 H1 x H' hi m y => ?_⟩
  · rw [enum_len] at hi
    exact ⟨vs, vs[i]'(by omega), SqL.of (h F1 H1 m).1, List.getElem?_eq_getElem _⟩
  · exact ⟨vs, SqL.of (h F1 H1 m).1, by rw [enum_len]; omega⟩
  · obtain ⟨a, b⟩ := h F1 H1 m
    obtain ⟨T, x, rfl, hT, rfl, y⟩ := y
    obtain ⟨d, e1, e2⟩ := dp_getV b (y vs (SqL.of a))
    obtain ⟨F', g, k⟩ := pair_ok m.1 hT (.int (i : Nat)) e2
    exact ⟨_, F', enum_get e1, g, k⟩
theorem wk_enumT {K : PySem.W.Frag} {p : Addr} {vs : List V} (hl : vs.length = ds.length) (h : ∀ F1 H1, Md fz ts F H F1 H1 → H1 p = some (.tup vs) ∧ FdAll F1 vs ds) : WkD ts (IteT K p) (Md fz ts F H) (enumI ds) := by
  refine ⟨fun i F1 H1 hi m => ?_, fun F1 H1 m => ?_, fun i F1 H1 x H' hi m y => ?_⟩
  · rw [enum_len] at hi
    exact ⟨vs, vs[i]'(by omega), SqT.of (h F1 H1 m).1, List.getElem?_eq_getElem _⟩
  · exact ⟨vs, SqT.of (h F1 H1 m).1, by rw [enum_len]; omega⟩
  · obtain ⟨a, b⟩ := h F1 H1 m
    obtain ⟨T, x, rfl, hT, rfl, y⟩ := y
    obtain ⟨d, e1, e2⟩ := dp_getV b (y vs (SqT.of a))
    obtain ⟨F', g, k⟩ := pair_ok m.1 hT (.int (i : Nat)) e2
    exact ⟨_, F', enum_get e1, g, k⟩
theorem wk_enumS {x : Str} : WkD ts (IteS x) (Md fz ts F H) (enumI (x.cps.toList.map fun c => .str ⟨#[c]⟩)) := by
  refine ⟨fun i F1 H1 hi m => ?_, fun F1 H1 m => ?_, fun i F1 H1 v H' hi m y => ?_⟩
  · show i < x.cps.size
    rw [enum_len] at hi
    simpa using hi
  · show x.cps.size = _
    rw [enum_len]
    simp
  · obtain ⟨T, c, rfl, hT, rfl, hc⟩ := y
    obtain ⟨F', g, k⟩ := pair_ok m.1 hT (.int (i : Nat)) (.str ⟨#[c]⟩)
    exact ⟨_, F', enum_get (by simp [hc]), g, k⟩
end
end Pi
end
section
set_option Elab.async false
set_option linter.all false
set_option maxRecDepth 100000
set_option maxHeartbeats 1000000
/-! Pure data over the hand layer: sources and comprehensions. -/
namespace Pi
open PySem PySem.Spec PyProof.Rows L2
section
variable (Γ : Gm) (ts : List Addr)
def uS (fz : Bool) (ir : E) : TE := fun σ H Q => ∃ ρ d F, src fz ρ ir (evE Γ ρ ir) = some d ∧ Rep ts ρ σ F H ∧ ∀ v F' H', Grow ts F H F' H' → SrcR fz F' H' v d → Q v H'
def uI (fz : Bool) (it : I) : TI := fun σ H R => ∃ ρ items F, evI Γ fz ρ it = some items ∧ Rep ts ρ σ F H ∧ ∀ J F' H', Grow ts F H F' H' → WkD ts J (Md fz ts F' H') items → R J H'
end
theorem pi_weak {X : Cx} {tg e : Expr} {t u : TI} (h : PI X tg e t) (w : ∀ σ H R, u σ H R → t σ H R) : PI X tg e u := ⟨fun pins s σ H R I q => h.run pins s σ H R I (w σ H R q)⟩
section
variable {Γ : Gm} {ts : List Addr} {X : Cx} {c : Cc} {e : Expr} {ir : E}
theorem uS_of (G : Good X ts Γ c) (hc : chkE c ir e = true) (h : PE X e (uE Γ ts ir)) (fz : Bool) : PE X e (uS Γ ts fz ir) := by
  cases fz with
  | true => exact pe_weak (uV_of h) fun σ H Q ⟨ρ, d, F, h1, rep, q⟩ => ⟨ρ, d, F, h1, rep, fun v F' H' g k => q v F' H' g (by unfold SrcR; rw [if_pos rfl]; exact k)⟩
  | false => exact pe_weak (uB_of G hc h) fun σ H Q ⟨ρ, d, F, h1, rep, q⟩ => ⟨ρ, d, F, h1, rep, fun v F' H' g k => q v F' H' g (by unfold SrcR; rw [if_neg Bool.false_ne_true]; exact k)⟩
theorem seq_ok {tg : Expr} (fz : Bool) (h : PE X e (uS Γ ts fz ir)) : PI X tg e (uI Γ ts fz (.seq ir)) := by
  refine ⟨fun pins s σ H R I ⟨ρ, items, F, h1, rep, q⟩ => ?_⟩
  unfold evI at h1
  rw [Option.bind_eq_some_iff] at h1
  obtain ⟨d, h1, h2⟩ := h1
  cases d <;> simp only [itemsD, Option.some.injEq, reduceCtorEq] at h2
  · subst h2
    exact (pi_str h).run pins s σ H R I ⟨ρ, _, F, h1, rep, fun v F' H' g k => ⟨_, BR_str k.br, q _ F' H' g wk_str⟩⟩
  · subst h2
    refine (pi_list h).run pins s σ H R I ⟨ρ, _, F, h1, rep, fun v F' H' g k => ?_⟩
    obtain ⟨p, vs, rfl, hl, m⟩ := src_list (g.fz rep.fz) k
    have hr := g.fz rep.fz
    exact ⟨p, rfl, ⟨vs, SqL.of (m F' H' ⟨hr, fun _ _ e => e, fun _ _ _ _ e => e⟩).1⟩, q _ F' H' g (wk_list hl m)⟩
  · subst h2
    refine (pi_tup h).run pins s σ H R I ⟨ρ, _, F, h1, rep, fun v F' H' g k => ?_⟩
    obtain ⟨p, vs, rfl, hl, m0, m⟩ := src_tup (g.fz rep.fz) k
    exact ⟨p, rfl, ⟨vs, SqT.of m0⟩, q _ F' H' g (wk_tup hl m)⟩
theorem range_ok (G : Good X ts Γ c) {tg : Expr} (fz : Bool) {x : Str} {es : List Expr} {l : List E} {p pos : Pos} (hx : blt c x "range" = true) (hc : chkL c l es = true) (h0 : 0 < es.length) (h2 : es.length ≤ 2) (h : PA X es (uL Γ ts l)) :
    PI X tg (.Call (.Name x p) es [] pos) (uI Γ ts fz (.range l)) := by
  obtain ⟨rfl, k1, k2, k3, k4⟩ := blt_ok G hx
  have key : ∀ {ρ : List Cell} {items : List PyData}, evI Γ fz ρ (.range l) = some items → ∃ ds ns ks, evL Γ ρ l = some ds ∧ intsD ds = some ns ∧ rangeI ns = some ks ∧ items = ks.map .int := fun {ρ items} h1 => by
    unfold evI at h1
    simp only [Option.bind_eq_some_iff, Option.map_eq_some_iff] at h1
    obtain ⟨ds, h1, ns, h2, ks, h3, h4⟩ := h1
    exact ⟨ds, ns, ks, h1, h2, h3, h4.symm⟩
  have len : ∀ {ρ : List Cell} {l : List E} {ds : List PyData}, evL Γ ρ l = some ds → ds.length = l.length := fun {ρ l} => by
    induction l with
    | nil => intro ds h; unfold evL at h; cases h; rfl
    | cons a l ih =>
      intro ds h
      unfold evL at h
      simp only [Option.bind_eq_some_iff] at h
      obtain ⟨d, _, ds', h3, h4⟩ := h
      cases h4
      simp [ih h3]
  have lenL : ∀ {l : List E} {es : List Expr}, chkL c l es = true → l.length = es.length := fun {l} => by
    induction l with
    | nil => intro es h; cases es <;> simp [chkL] at h ⊢
    | cons a l ih =>
      intro es h
      cases es with
      | nil => simp [chkL] at h
      | cons e es => simp only [chkL, Bool.and_eq_true] at h; simp [ih h.2]
  have hl := lenL hc
  match es, h0, h2, hc, h, hl with
  | [a], _, _, hc, h, hl =>
    have hs : starEach [a] X.env = [(false, eval a X.env)] := by
      cases l with
      | nil => simp [chkL] at hc
      | cons b l => simp only [chkL, Bool.and_eq_true] at hc; rw [star_of hc.1]; rfl
    refine pi_weak (pi_range1 k1 k2 h hs) fun σ H R ⟨ρ, items, F, h1, rep, q⟩ => ?_
    obtain ⟨ds, ns, ks, e1, e2, e3, rfl⟩ := key h1
    refine ⟨ρ, ds, F, e1, rep, fun vs F' H' g k => ?_⟩
    cases intsD_eq e2
    have := len e1
    match ns, this with
    | [j], _ =>
      obtain ⟨v, rfl, b⟩ := BRs.one k
      simp only [rangeI] at e3
      split at e3
      · rename_i hz
        cases e3
        simp only [Bool.and_eq_true, decide_eq_true_eq] at hz
        refine ⟨j, by rw [BR_int b], hz.1, hz.2, q _ F' H' g ?_⟩
        have := wk_range (ts := ts) (fz := fz) (F := F') (H := H') (lo := 0) (n := j.toNat)
        simpa using this
      · cases e3
    | [], h => simp [hl] at h
    | _ :: _ :: _, h => simp [hl] at h
  | [a, b], _, _, hc, h, hl =>
    match l, hc with
    | [ia, ib], hc =>
      simp only [chkL, Bool.and_eq_true] at hc
      have hs : starEach [a, b] X.env = [(false, eval a X.env), (false, eval b X.env)] := by rw [star_of hc.1, star_of hc.2.1]; rfl
      refine pi_weak (pi_range2 k1 k2 h hs (by rw [star_of hc.2.1]; rfl)) fun σ H R ⟨ρ, items, F, h1, rep, q⟩ => ?_
      obtain ⟨ds, ns, ks, e1, e2, e3, rfl⟩ := key h1
      refine ⟨ρ, ds, F, e1, rep, fun vs F' H' g k => ?_⟩
      cases intsD_eq e2
      have := len e1
      match ns, this with
      | [i, j], _ =>
        obtain ⟨v, u, rfl, b1, b2⟩ := BRs.two k
        simp only [rangeI] at e3
        split at e3
        · rename_i hz
          cases e3
          simp only [Bool.and_eq_true, decide_eq_true_eq] at hz
          exact ⟨i, j, by rw [BR_int b1, BR_int b2], ⟨hz.1.1.1, hz.1.1.2, hz.1.2, hz.2⟩, q _ F' H' g wk_range⟩
        · cases e3
      | [], h => simp at h
      | [_], h => simp at h
      | _ :: _ :: _ :: _, h => simp at h
    | [], hc => simp [chkL] at hc
    | [_], hc => simp [chkL] at hc
    | _ :: _ :: _ :: _, hc => simp [chkL] at hc
theorem one_of (h : PE X e (uS Γ ts fz ir)) (hc : chkE c ir e = true) : PA X [e] (tCons (uS Γ ts fz ir) tNil) := pa_cons h pa_nil (star_of hc [])
theorem enum_ok (G : Good X ts Γ c) (fz : Bool) {x : Str} {p pos tpos : Pos} {elts : List Expr} {kk : Nat} (hx : blt c x "enumerate" = true) (hc : chkE c ir e = true) (h : PE X e (uS Γ ts fz ir)) :
    PI X (.Tuple elts kk tpos) (.Call (.Name x p) [e] [] pos) (uI Γ ts fz (.enum ir)) := by
  obtain ⟨rfl, k1, k2, k3, k4⟩ := blt_ok G hx
  have hs : starEach [e] X.env = [(false, eval e X.env)] := by rw [star_of hc]; rfl
  refine ⟨fun pins s σ H R I ⟨ρ, items, F, h1, rep, q⟩ => ?_⟩
  unfold evI at h1
  simp only [Option.bind_eq_some_iff, Option.map_eq_some_iff] at h1
  obtain ⟨d, h1, xs, h2, rfl⟩ := h1
  cases d <;> simp only [itemsD, Option.some.injEq, reduceCtorEq] at h2
  · subst h2
    exact (pi_enumS k1 k2 (one_of h hc) hs).run pins s σ H R I ⟨ρ, _, F, h1, rep, fun v F' H' g k => ⟨_, by rw [BR_str k.br], q _ F' H' g wk_enumS⟩⟩
  · subst h2
    refine (pi_enum k1 k2 (one_of h hc) hs).run pins s σ H R I ⟨ρ, _, F, h1, rep, fun v F' H' g k => ?_⟩
    obtain ⟨p, vs, rfl, hl, m⟩ := src_list (g.fz rep.fz) k
    have hr := g.fz rep.fz
    exact ⟨p, vs, rfl, SqL.of (m F' H' ⟨hr, fun _ _ e => e, fun _ _ _ _ e => e⟩).1, q _ F' H' g (wk_enum hl m)⟩
  · subst h2
    refine (pi_enumT k1 k2 (one_of h hc) hs).run pins s σ H R I ⟨ρ, _, F, h1, rep, fun v F' H' g k => ?_⟩
    obtain ⟨p, vs, rfl, hl, m0, m⟩ := src_tup (g.fz rep.fz) k
    exact ⟨p, vs, rfl, m0, q _ F' H' g (wk_enumT hl m)⟩
end
end Pi
end
section
set_option Elab.async false
set_option linter.all false
set_option maxRecDepth 100000
set_option maxHeartbeats 1000000
/-! Pure data over the hand layer: comprehensions. -/
namespace Pi
open PySem PySem.Spec PyProof.Rows L2
section
variable {ts : List Addr} {ρ : List Cell} {σ : L2.St} {F H F1 H1 : Hp}
theorem Rep.forget (r : Rep ts ρ σ F H) (vs : List Nat) : Rep ts (wipeC ρ vs) σ F H where
  fz := r.fz
  len := by rw [wipeC_len]; exact r.len
  cell := fun j c o h1 h2 => by
    rw [wipeC_get] at h1
    by_cases e : j ∈ vs
    · rw [if_pos e, Option.map_eq_some_iff] at h1
      obtain ⟨_, _, rfl⟩ := h1
      trivial
    · rw [if_neg e] at h1
      exact r.cell j c o h1 h2
  dis := fun j k ds es p hjk h1 h2 => by
    have no : ∀ {j : Nat} {ds : List PyData}, (wipeC ρ vs)[j]? = some (.ow ds) → ρ[j]? = some (.ow ds) := fun {j ds} q => by
      rw [wipeC_get] at q
      by_cases e : j ∈ vs
      · rw [if_pos e, Option.map_eq_some_iff] at q
        obtain ⟨_, _, q⟩ := q
        cases q
      · rw [if_neg e] at q; exact q
    exact r.dis j k ds es p hjk (no h1) (no h2)
/-- a list that is new to both is changed -/
theorem Grow.mut (g : Grow ts F H F1 H1) {D : Addr} {xs ys : List V} (h0 : H D = none) (h1 : F1 D = none) (h2 : H1 D = some (.lst xs)) : Grow ts F H F1 (upd H1 D (.lst ys)) where
  ff := g.ff
  fh := fun a o e => by rw [upd_ne (fun z => by subst z; rw [h1] at e; cases e)]; exact g.fh a o e
  hh := fun a o n e => by rw [upd_ne (fun z => by subst z; rw [h0] at e; cases e)]; exact g.hh a o n e
  nw := g.nw
  tb := fun P hP => by
    obtain ⟨ps, e, r⟩ := g.tb P hP
    exact ⟨ps, by rw [upd_ne (fun z => by subst z; rw [h2] at e; cases e)]; exact e, r⟩
theorem Grow.md (g : Grow ts F H F1 H1) (f : Fz ts F H) (fz : Bool) : Md fz ts F H F1 H1 := ⟨g.fz f, g.ff, fun _ => g.hh⟩
end
theorem collect_len {f : PyData → Option (List PyData)} : ∀ {ds out : List PyData}, collect f ds = some out → out.length ≤ sizeLine
  | [], _, h => by cases h; exact Nat.zero_le _
  | d :: ds, out, h => by
    simp only [collect, Option.bind_eq_some_iff] at h
    obtain ⟨xs, _, ys, _, h⟩ := h
    split at h
    · rename_i hz
      cases h
      rw [List.length_append]; exact hz
    · cases h
theorem collect_cons {f : PyData → Option (List PyData)} {d : PyData} {ds out : List PyData} (h : collect f (d :: ds) = some out) : ∃ xs ys, f d = some xs ∧ collect f ds = some ys ∧ out = xs ++ ys := by
  simp only [collect, Option.bind_eq_some_iff] at h
  obtain ⟨xs, h1, ys, h2, h⟩ := h
  split at h
  · cases h; exact ⟨xs, ys, h1, h2, rfl⟩
  · cases h
mutual
theorem slotIn_L {i : Nat} : ∀ {t : T}, i ∉ slotsL t → slotIn i t = false
  | .name j, h => by simpa [slotsL, slotIn] using h
  | .tup l, h => by
    simp only [slotsL] at h
    simp only [slotIn]
    exact slotsIn_L h
theorem slotsIn_L {i : Nat} : ∀ {l : List T}, i ∉ slotsLs l → slotsIn i l = false
  | [], _ => rfl
  | t :: l, h => by
    simp only [slotsLs, List.mem_append, not_or] at h
    simp only [slotsIn, Bool.or_eq_false_iff]
    exact ⟨slotIn_L h.1, slotsIn_L h.2⟩
end
mutual
theorem slotsL_own {own : List Nat} {i : Nat} : ∀ {t : T}, tgIn own t = true → i ∈ slotsL t → i ∈ own
  | .name j, h, k => by
    simp only [slotsL, List.mem_singleton] at k
    subst k
    simpa [tgIn] using h
  | .tup l, h, k => slotsLs_own (by simpa [tgIn] using h) (by simpa [slotsL] using k)
theorem slotsLs_own {own : List Nat} {i : Nat} : ∀ {l : List T}, tgsIn own l = true → i ∈ slotsLs l → i ∈ own
  | [], _, k => by simp [slotsLs] at k
  | t :: l, h, k => by
    simp only [tgsIn, Bool.and_eq_true] at h
    simp only [slotsLs, List.mem_append] at k
    rcases k with k | k
    · exact slotsL_own h.1 k
    · exact slotsLs_own h.2 k
end
mutual
theorem asg_len : ∀ {t : T} {d : PyData} {ρ ρ' : List Cell}, asg t d ρ = some ρ' → ρ'.length = ρ.length
  | .name i, d, ρ, ρ', h => by
    unfold asg at h
    cases h
    rw [List.length_set]
  | .tup l, d, ρ, ρ', h => by
    cases d <;> simp only [asg, reduceCtorEq] at h
    exact asgs_lenC h
theorem asgs_lenC : ∀ {l : List T} {ds : List PyData} {ρ ρ' : List Cell}, asgs l ds ρ = some ρ' → ρ'.length = ρ.length
  | [], [], _, _, h => by simp [asgs] at h; rw [h]
  | [], _ :: _, _, _, h => by simp [asgs] at h
  | _ :: _, [], _, _, h => by simp [asgs] at h
  | t :: l, d :: ds, ρ, ρ', h => by
    simp only [asgs, Option.bind_eq_some_iff] at h
    obtain ⟨ρ1, h1, h2⟩ := h
    rw [asgs_lenC h2, asg_len h1]
end
/-- a store within vs is forgotten with vs -/
theorem wipe_same {σ σ' : L2.St} {vs : List Nat} {t : T} (hl : σ'.length = σ.length) (hv : ∀ i ∈ slotsL t, i ∈ vs) (h : ∀ i, slotIn i t = false → σ'[i]? = (wipe σ vs)[i]?) : wipe σ' vs = wipe σ vs := by
  apply List.ext_getElem?
  intro i
  rw [wipe_get, wipe_get]
  by_cases e : i ∈ vs
  · rw [if_pos e, if_pos e]
    by_cases hi : i < σ.length
    · rw [List.getElem?_eq_getElem hi, List.getElem?_eq_getElem (by omega)]; rfl
    · rw [List.getElem?_eq_none (by omega), List.getElem?_eq_none (by omega)]
  · rw [if_neg e, if_neg e, h i (slotIn_L fun z => e (hv i z)), wipe_get, if_neg e]
section
variable {Γ : Gm} {ts : List Addr} {X : Cx} {c : Cc}
abbrev Blks (X : Cx) (sc : Scope) (P : Cx → Prop) : Prop := ∀ (s : Shared) (H : Hp) (C : Addr) (cl : List (Str × Addr)) (fp : List Addr), P (X.blk s H sc (compEnvC sc cl C X.env) fp)
theorem own_snd {N : List Str} {own : List Nat} : (ownP N own).map (·.2) = own := by
  unfold ownP
  rw [List.map_map]
  exact List.map_id' own
theorem comp1_rd {N : List Str} {own : List Nat} {t : T} {it : I} {ifs : List E} {elt : E} (hown : tgIn own t = true) : ∀ σ H Q, uE Γ ts (.comp own elt [.mk t it ifs]) σ H Q → tLc (uI Γ ts false it) (uG ts t) (uTs Γ ts ifs) (uV Γ ts elt) ((ownP N own).map (·.2)) σ H Q := fun σ H Q ⟨ρ, r, F, h1, rep, q⟩ => by
  unfold evE at h1
  rw [Option.map_eq_some_iff] at h1
  obtain ⟨out, h1, rfl⟩ := h1
  unfold evC at h1
  rw [Option.bind_eq_some_iff] at h1
  obtain ⟨items, h2, h3⟩ := h1
  refine ⟨ρ, items, F, h2, rep, fun J F1 H1 g1 wk D hD => ?_⟩
  have f1 := g1.fz rep.fz
  have hout := collect_len h3
  refine ⟨fun i m H' => m = items.length - i ∧ i ≤ items.length ∧ ∃ F' acc dacc rest, Grow ts F1 H1 F' H' ∧ H' D = some (.lst acc) ∧ F' D = none ∧ FdAll F' acc dacc ∧ collect (fun d => (asg t d (wipeC (wipeC ρ own) (slotsL t))).bind fun ρ' => (evT Γ ρ' ifs).bind fun b => if b then evC Γ (fun ρ' => (evE Γ ρ' elt).map fun r => [r.dat]) true ρ' ρ' [] else some []) (items.drop i) = some rest ∧ out = dacc ++ rest,
    ⟨items.length, by simp, Nat.zero_le _, F1, [], [], out, Grow.fresh f1 hD, upd_same, f1.noF hD, .nil, by simpa using h3, rfl⟩, fun i m H' ⟨hm, hin, F', acc, dacc, rest, g2, d1, d2, d3, d4, d5⟩ => ?_⟩
  by_cases hlt : i < items.length
  · refine .inr ⟨wk.go i F' H' hlt (g2.md f1 false), fun H'' => ∃ F'' acc' dacc' rest', Grow ts F1 H1 F'' H'' ∧ H'' D = some (.lst acc') ∧ F'' D = none ∧ FdAll F'' acc' dacc' ∧ collect (fun d => (asg t d (wipeC (wipeC ρ own) (slotsL t))).bind fun ρ' => (evT Γ ρ' ifs).bind fun b => if b then evC Γ (fun ρ' => (evE Γ ρ' elt).map fun r => [r.dat]) true ρ' ρ' [] else some []) (items.drop (i + 1)) = some rest' ∧ out = dacc' ++ rest', fun H'' hN => ⟨items.length - (i + 1), by omega, rfl, hlt, hN⟩, fun x H'' hy => ?_⟩
    obtain ⟨d, F2, e1, g3, k3⟩ := wk.yld i F' H' x H'' hlt (g2.md f1 false) hy
    have hdrop : items.drop i = d :: items.drop (i + 1) := by
      obtain ⟨hh, e⟩ := List.getElem?_eq_some_iff.mp e1
      rw [← e]; exact List.drop_eq_getElem_cons hh
    rw [hdrop] at d4
    obtain ⟨xs, ys, c1, c2, rfl⟩ := collect_cons d4
    simp only [Option.bind_eq_some_iff] at c1
    obtain ⟨ρ2, c3, b, c4, c5⟩ := c1
    have f' := g2.fz f1
    have rep2 : Rep ts ρ σ F2 H'' := ((rep.grow g1).grow g2).grow g3
    have g23 := g2.trans f1.tab g3
    have D2 : H'' D = some (.lst acc) := g3.lst f'.tab d1 (fun _ z => by cases z)
    have FD2 : F2 D = none := g3.nof d1 d2
    have f2 := g3.fz f'
    rw [own_snd]
    refine ⟨wipeC (wipeC ρ own) (slotsL t), d, ρ2, F2, c3, (rep2.wiped own).forget _, k3, fun σ2 r2 s2 => ⟨wipe_same ?_ (fun i => slotsL_own hown) s2, ρ2, b, F2, c4, r2, fun F3 H3 g4 => ?_⟩⟩
    · have a1 := r2.len
      have a2 := asg_len c3
      rw [← a1, a2, wipeC_len, wipeC_len]; exact rep2.len
    have D3 : H3 D = some (.lst acc) := g4.lst f2.tab D2 (fun _ z => by cases z)
    have FD3 : F3 D = none := g4.nof D2 FD2
    have g24 := g23.trans f1.tab g4
    have f3 := g4.fz f2
    refine ite2 (fun hb2 => ?_) (fun hb2 => ?_)
    · rw [if_pos hb2] at c5
      unfold evC at c5
      rw [Option.map_eq_some_iff] at c5
      obtain ⟨r3, c5, c6⟩ := c5
      subst c6
      refine ⟨ρ2, r3.dat, F3, by rw [c5]; rfl, r2.grow g4, fun y F4 H4 g5 k5 => ?_⟩
      have D4 : H4 D = some (.lst acc) := g5.lst f3.tab D3 (fun _ z => by cases z)
      have FD4 : F4 D = none := g5.nof D3 FD3
      have g25 := g24.trans f1.tab g5
      have ff : ∀ a o, F' a = some o → F4 a = some o := fun a o e => g5.ff a o (g4.ff a o (g3.ff a o e))
      refine ⟨acc, D4, ?_, F4, acc ++ [y], dacc ++ [r3.dat], ys, g25.mut hD FD4 D4, upd_same, FD4, dp_append (FdAll_mono ff d3) (.cons k5 .nil), c2, by rw [d5, List.append_assoc]⟩
      have l1 := dp_length d3
      have l2 : out.length = dacc.length + (1 + ys.length) := by rw [d5]; simp; omega
      omega
    · rw [if_neg hb2] at c5
      cases c5
      have ff : ∀ a o, F' a = some o → F3 a = some o := fun a o e => g4.ff a o (g3.ff a o e)
      exact ⟨F3, acc, dacc, ys, g24, D3, FD3, FdAll_mono ff d3, c2, by rw [d5]; rfl⟩
  · have e : i = items.length := by omega
    subst e
    have hr : rest = [] := by
      rw [List.drop_length] at d4
      cases d4; rfl
    subst hr
    rw [List.append_nil] at d5
    subst d5
    exact .inl ⟨wk.stop F' H' (g2.md f1 false), q (.ref D) F' H' (g1.trans rep.fz.tab g2) ⟨D, acc, rfl, g1.nn rep.fz.tab hD, d2, d1, d3⟩⟩
theorem comp1_ok (G : Good X ts Γ c) {own : List Nat} {t : T} {it : I} {ifs : List E} {elt : E} {tg iter eltE : Expr} {ifsE : List Expr} {sc : Scope} {pos : Pos} (ok : blkC c.N c.sc sc (ownP c.N own) = true) (hown : tgIn own t = true)
    (hi : PI X tg iter (uI Γ ts false it)) (hg : Blks X sc fun Y => PG Y tg (uG ts t)) (ht : Blks X sc fun Y => PTs Y ifsE (uTs Γ ts ifs)) (he : Blks X sc fun Y => PE Y eltE (uV Γ ts elt)) (hs : ∀ x, foldedSetIterable iter X.env x = pure x) :
    PE X (.ListComp eltE [⟨tg, iter, ifsE, 0⟩] sc pos) (uE Γ ts (.comp own elt [.mk t it ifs])) := by
  have hb : BlkOk X.N X.env.scope sc (ownP c.N own) := by rw [G.hN, G.hsc]; exact blkOk_by ok
  exact pe_weak (pe_lc G.calm G.nd hi hb hg ht he hs) (comp1_rd hown)
end
end Pi
end
section
set_option Elab.async false
set_option linter.all false
set_option maxRecDepth 100000
set_option maxHeartbeats 1000000
/-! Pure data over the hand layer: comprehensions of two clauses. -/
namespace Pi
open PySem PySem.Spec PyProof.Rows L2
theorem wipeC_ow {ρ : List Cell} {vs : List Nat} {i : Nat} {ds : List PyData} (h : (wipeC ρ vs)[i]? = some (.ow ds)) : i ∉ vs ∧ ρ[i]? = some (.ow ds) := by
  rw [wipeC_get] at h
  by_cases e : i ∈ vs
  · rw [if_pos e, Option.map_eq_some_iff] at h
    obtain ⟨_, _, h⟩ := h
    cases h
  · rw [if_neg e] at h; exact ⟨e, h⟩
mutual
theorem asg_ow {i : Nat} {ds : List PyData} : ∀ {t : T} {d : PyData} {ρ ρ' : List Cell}, asg t d ρ = some ρ' → ρ'[i]? = some (.ow ds) → slotIn i t = false ∧ ρ[i]? = some (.ow ds)
  | .name j, d, ρ, ρ', h, k => by
    unfold asg at h
    cases h
    rw [List.getElem?_set] at k
    by_cases e : j = i
    · rw [if_pos e] at k; split at k <;> cases k
    · rw [if_neg e] at k
      exact ⟨by simp [slotIn, Ne.symm e], k⟩
  | .tup l, d, ρ, ρ', h, k => by
    cases d <;> simp only [asg, reduceCtorEq] at h
    simp only [slotIn]
    exact asgs_ow h k
theorem asgs_ow {i : Nat} {ds : List PyData} : ∀ {l : List T} {es : List PyData} {ρ ρ' : List Cell}, asgs l es ρ = some ρ' → ρ'[i]? = some (.ow ds) → slotsIn i l = false ∧ ρ[i]? = some (.ow ds)
  | [], [], _, _, h, k => by simp [asgs] at h; subst h; exact ⟨rfl, k⟩
  | [], _ :: _, _, _, h, _ => by simp [asgs] at h
  | _ :: _, [], _, _, h, _ => by simp [asgs] at h
  | t :: l, d :: es, ρ, ρ', h, k => by
    simp only [asgs, Option.bind_eq_some_iff] at h
    obtain ⟨ρ1, h1, h2⟩ := h
    obtain ⟨a1, a2⟩ := asgs_ow h2 k
    obtain ⟨b1, b2⟩ := asg_ow h1 a2
    exact ⟨by simp [slotsIn, a1, b1], b2⟩
end
/-- the cells hold in another heap where what is owned stands -/
theorem Rep.move {ts : List Addr} {ρ : List Cell} {σ : L2.St} {F H Fb Hb : Hp} (r : Rep ts ρ σ F H) (f : Fz ts Fb Hb) (ff : ∀ a o, F a = some o → Fb a = some o)
    (k : ∀ (i : Nat) (ds : List PyData) (p : Addr), ρ[i]? = some (.ow ds) → σ[i]? = some (some (.ref p)) → Fb p = none ∧ Hb p = H p) : Rep ts ρ σ Fb Hb where
  fz := f
  len := r.len
  dis := r.dis
  cell := fun i c o h1 h2 => by
    have q := r.cell i c o h1 h2
    cases c with
    | un => trivial
    | fr d =>
      cases o with
      | none => exact q
      | some v => exact Fd_mono ff q
    | ow ds =>
      cases o with
      | none => exact q
      | some v =>
        obtain ⟨p, vs, rfl, e2, e3, e4⟩ := q
        obtain ⟨k1, k2⟩ := k i ds p h1 h2
        exact ⟨p, vs, rfl, k1, k2.trans e3, FdAll_mono ff e4⟩
section
variable {Γ : Gm} {ts : List Addr} {X : Cx} {c : Cc}
theorem comp2_rd {N : List Str} {own : List Nat} {t t1 : T} {it it1 : I} {ifs ifs1 : List E} {elt : E} (hown : tgIn own t = true) : ∀ σ H Q, uE Γ ts (.comp own elt [.mk t it ifs, .mk t1 it1 ifs1]) σ H Q → tLc2 (uI Γ ts false it) (uG ts t) (uTs Γ ts ifs) (uI Γ ts true it1) (uG ts t1) (uTs Γ ts ifs1) (uV Γ ts elt) ((ownP N own).map (·.2)) (slotsL t1) σ H Q := fun σ H Q ⟨ρ, r, F, h1, rep, q⟩ => by
  unfold evE at h1
  rw [Option.map_eq_some_iff] at h1
  obtain ⟨out, h1, rfl⟩ := h1
  unfold evC at h1
  rw [Option.bind_eq_some_iff] at h1
  obtain ⟨items, h2, h3⟩ := h1
  generalize hf : (fun d => (asg t d (wipeC (wipeC ρ own) (slotsL t))).bind fun ρ' => (evT Γ ρ' ifs).bind fun b => if b then evC Γ (fun ρ' => (evE Γ ρ' elt).map fun r => [r.dat]) true ρ' ρ' [.mk t1 it1 ifs1] else some []) = f at h3
  refine ⟨ρ, items, F, h2, rep, fun J F1 H1 g1 wk D hD => ?_⟩
  have f1 := g1.fz rep.fz
  have rep1 := rep.grow g1
  have hout := collect_len h3
  refine ⟨fun i m H' => m = items.length - i ∧ i ≤ items.length ∧ ∃ F' acc dacc rest, Grow ts F1 H1 F' H' ∧ H' D = some (.lst acc) ∧ F' D = none ∧ FdAll F' acc dacc ∧ collect f (items.drop i) = some rest ∧ out = dacc ++ rest,
    ⟨items.length, by simp, Nat.zero_le _, F1, [], [], out, Grow.fresh f1 hD, upd_same, f1.noF hD, .nil, by simpa using h3, rfl⟩, fun i m H' ⟨hm, hin, F', acc, dacc, rest, g2, d1, d2, d3, d4, d5⟩ => ?_⟩
  by_cases hlt : i < items.length
  · refine .inr ⟨wk.go i F' H' hlt (g2.md f1 false), fun H'' => ∃ F'' acc' dacc' rest', Grow ts F1 H1 F'' H'' ∧ H'' D = some (.lst acc') ∧ F'' D = none ∧ FdAll F'' acc' dacc' ∧ collect f (items.drop (i + 1)) = some rest' ∧ out = dacc' ++ rest', fun H'' hN => ⟨items.length - (i + 1), by omega, rfl, hlt, hN⟩, fun x H'' hy => ?_⟩
    obtain ⟨d, F2, e1, g3, k3⟩ := wk.yld i F' H' x H'' hlt (g2.md f1 false) hy
    have hdrop : items.drop i = d :: items.drop (i + 1) := by
      obtain ⟨hh, e⟩ := List.getElem?_eq_some_iff.mp e1
      rw [← e]; exact List.drop_eq_getElem_cons hh
    rw [hdrop] at d4
    obtain ⟨xs, ys, c1, c2, rfl⟩ := collect_cons d4
    rw [← hf] at c1
    simp only [Option.bind_eq_some_iff] at c1
    obtain ⟨ρ2, c3, b, c4, c5⟩ := c1
    have f' := g2.fz f1
    have rep2 : Rep ts ρ σ F2 H'' := (rep1.grow g2).grow g3
    have g23 := g2.trans f1.tab g3
    have D2 : H'' D = some (.lst acc) := g3.lst f'.tab d1 (fun _ z => by cases z)
    have FD2 : F2 D = none := g3.nof d1 d2
    have f2 := g3.fz f'
    rw [own_snd]
    refine ⟨wipeC (wipeC ρ own) (slotsL t), d, ρ2, F2, c3, (rep2.wiped own).forget _, k3, fun σ2 r2 s2 => ⟨wipe_same ?_ (fun i => slotsL_own hown) s2, ρ2, b, F2, c4, r2, fun F3 H3 g4 => ?_⟩⟩
    · have a1 := r2.len
      have a2 := asg_len c3
      rw [← a1, a2, wipeC_len, wipeC_len]; exact rep2.len
    have D3 : H3 D = some (.lst acc) := g4.lst f2.tab D2 (fun _ z => by cases z)
    have FD3 : F3 D = none := g4.nof D2 FD2
    have g24 := g23.trans f1.tab g4
    have f3 := g4.fz f2
    have ff3 : ∀ a o, F' a = some o → F3 a = some o := fun a o e => g4.ff a o (g3.ff a o e)
    refine ite2 (fun hb2 => ?_) (fun hb2 => ?_)
    · rw [if_pos hb2] at c5
      unfold evC at c5
      rw [Option.bind_eq_some_iff] at c5
      obtain ⟨items1, c6, c7⟩ := c5
      generalize hf1 : (fun d => (asg t1 d (wipeC ρ2 (slotsL t1))).bind fun ρ' => (evT Γ ρ' ifs1).bind fun b => if b then evC Γ (fun ρ' => (evE Γ ρ' elt).map fun r => [r.dat]) true ρ' ρ' [] else some []) = fi at c7
      -- what is owned here was owned ahead of the new list
      have own2 : ∀ (i : Nat) (ds : List PyData) (p : Addr), ρ2[i]? = some (.ow ds) → σ2[i]? = some (some (.ref p)) → F1 p = none ∧ ∃ vs, H1 p = some (.lst vs) := fun i ds p h h' => by
        obtain ⟨a1, a2⟩ := asg_ow c3 h
        obtain ⟨_, a3⟩ := wipeC_ow a2
        obtain ⟨a4, a5⟩ := wipeC_ow a3
        rw [s2 i a1, wipe_get, if_neg a4] at h'
        obtain ⟨p', vs, b1, b2, b3, b4⟩ := rep1.ow a5
        rw [b1] at h'
        cases h'
        exact ⟨b2, vs, b3⟩
      refine ⟨ρ2, items1, F3, c6, r2.grow g4, fun J1 F4 H4 g5 wk1 => ?_⟩
      have D4 : H4 D = some (.lst acc) := g5.lst f3.tab D3 (fun _ z => by cases z)
      have FD4 : F4 D = none := g5.nof D3 FD3
      have g25 := g24.trans f1.tab g5
      have r4 : Rep ts ρ2 σ2 F4 H4 := (r2.grow g4).grow g5
      have ff4 : ∀ a o, F' a = some o → F4 a = some o := fun a o e => g5.ff a o (ff3 a o e)
      have tot : out.length = dacc.length + (xs.length + ys.length) := by rw [d5]; simp
      refine ⟨fun j k H5 => k = items1.length - j ∧ j ≤ items1.length ∧ ∃ F5 acc5 dacc5 rest5, Grow ts F1 H1 F5 H5 ∧ (∀ a o, F4 a = some o → F5 a = some o) ∧ H5 D = some (.lst acc5) ∧ F5 D = none ∧ FdAll F5 acc5 (dacc ++ dacc5) ∧ collect fi (items1.drop j) = some rest5 ∧ xs = dacc5 ++ rest5,
        ⟨items1.length, by simp, Nat.zero_le _, F4, acc, [], xs, g25, fun _ _ e => e, D4, FD4, by rw [List.append_nil]; exact FdAll_mono ff4 d3, by simpa using c7, rfl⟩, fun j k H5 ⟨hk, hjn, F5, acc5, dacc5, rest5, g6, q0, q1, q2, q3, q4, q5⟩ => ?_⟩
      have f5 := g6.fz f1
      have md5 : Md true ts F4 H4 F5 H5 := ⟨f5, q0, fun z => by cases z⟩
      by_cases hlt1 : j < items1.length
      · refine .inr ⟨wk1.go j F5 H5 hlt1 md5, fun H6 => ∃ F6 acc6 dacc6 rest6, Grow ts F1 H1 F6 H6 ∧ (∀ a o, F4 a = some o → F6 a = some o) ∧ H6 D = some (.lst acc6) ∧ F6 D = none ∧ FdAll F6 acc6 (dacc ++ dacc6) ∧ collect fi (items1.drop (j + 1)) = some rest6 ∧ xs = dacc6 ++ rest6, fun H6 hN => ⟨items1.length - (j + 1), by omega, rfl, hlt1, hN⟩, fun x1 H6 hy1 => ?_⟩
        obtain ⟨dd, F6, u1, g7, u2⟩ := wk1.yld j F5 H5 x1 H6 hlt1 md5 hy1
        have hdrop1 : items1.drop j = dd :: items1.drop (j + 1) := by
          obtain ⟨hh, e⟩ := List.getElem?_eq_some_iff.mp u1
          rw [← e]; exact List.drop_eq_getElem_cons hh
        rw [hdrop1] at q4
        obtain ⟨xs1, ys1, w1, w2, rfl⟩ := collect_cons q4
        rw [← hf1] at w1
        simp only [Option.bind_eq_some_iff] at w1
        obtain ⟨ρ3, w3, b1, w4, w5⟩ := w1
        have g67 := g6.trans f1.tab g7
        have f6 := g7.fz f5
        have rep6 : Rep ts ρ2 σ2 F6 H6 := r4.move f6 (fun a o e => g7.ff a o (q0 a o e)) fun i ds p h h' => by
          obtain ⟨z1, vs, z2⟩ := own2 i ds p h h'
          refine ⟨g67.nof z2 z1, ?_⟩
          rw [g67.lst f1.tab z2 (fun _ z => by cases z), g25.lst f1.tab z2 (fun _ z => by cases z)]
        have D6 : H6 D = some (.lst acc5) := g7.lst f5.tab q1 (fun _ z => by cases z)
        have FD6 : F6 D = none := g7.nof q1 q2
        refine ⟨wipeC ρ2 (slotsL t1), dd, ρ3, F6, w3, rep6.wiped _, u2, fun σ3 r3 s3 => ⟨wipe_same ?_ (fun i h => h) s3, ρ3, b1, F6, w4, r3, fun F7 H7 g8 => ?_⟩⟩
        · have a1 := r3.len
          have a2 := asg_len w3
          rw [← a1, a2, wipeC_len]; exact rep6.len
        have D7 : H7 D = some (.lst acc5) := g8.lst f6.tab D6 (fun _ z => by cases z)
        have FD7 : F7 D = none := g8.nof D6 FD6
        have g68 := g67.trans f1.tab g8
        have f7 := g8.fz f6
        have ff7 : ∀ a o, F5 a = some o → F7 a = some o := fun a o e => g8.ff a o (g7.ff a o e)
        refine ite2 (fun hb3 => ?_) (fun hb3 => ?_)
        · rw [if_pos hb3] at w5
          unfold evC at w5
          rw [Option.map_eq_some_iff] at w5
          obtain ⟨r3', w5, w6⟩ := w5
          subst w6
          refine ⟨ρ3, r3'.dat, F7, by rw [w5]; rfl, r3.grow g8, fun y F8 H8 g9 k9 => ?_⟩
          have D8 : H8 D = some (.lst acc5) := g9.lst f7.tab D7 (fun _ z => by cases z)
          have FD8 : F8 D = none := g9.nof D7 FD7
          have g69 := g68.trans f1.tab g9
          have ff8 : ∀ a o, F5 a = some o → F8 a = some o := fun a o e => g9.ff a o (ff7 a o e)
          refine ⟨acc5, D8, ?_, F8, acc5 ++ [y], dacc5 ++ [r3'.dat], ys1, g69.mut hD FD8 D8, fun a o e => ff8 a o (q0 a o e), upd_same, FD8, ?_, w2, by rw [q5, List.append_assoc]⟩
          · have l1 := dp_length q3
            have l2 : xs.length = dacc5.length + (1 + ys1.length) := by rw [q5]; simp; omega
            rw [List.length_append] at l1
            omega
          · rw [← List.append_assoc]
            exact dp_append (FdAll_mono ff8 q3) (.cons k9 .nil)
        · rw [if_neg hb3] at w5
          cases w5
          exact ⟨F7, acc5, dacc5, ys1, g68, fun a o e => ff7 a o (q0 a o e), D7, FD7, FdAll_mono ff7 q3, w2, by rw [q5]; rfl⟩
      · have e : j = items1.length := by omega
        subst e
        have hr : rest5 = [] := by
          rw [List.drop_length] at q4
          cases q4; rfl
        subst hr
        rw [List.append_nil] at q5
        subst q5
        exact .inl ⟨wk1.stop F5 H5 md5, F5, acc5, dacc ++ xs, ys, g6, q1, q2, q3, c2, by rw [d5, List.append_assoc]⟩
    · rw [if_neg hb2] at c5
      cases c5
      exact ⟨F3, acc, dacc, ys, g24, D3, FD3, FdAll_mono ff3 d3, c2, by rw [d5]; rfl⟩
  · have e : i = items.length := by omega
    subst e
    have hr : rest = [] := by
      rw [List.drop_length] at d4
      cases d4; rfl
    subst hr
    rw [List.append_nil] at d5
    subst d5
    exact .inl ⟨wk.stop F' H' (g2.md f1 false), q (.ref D) F' H' (g1.trans rep.fz.tab g2) ⟨D, acc, rfl, g1.nn rep.fz.tab hD, d2, d1, d3⟩⟩
theorem comp2_ok (G : Good X ts Γ c) {own : List Nat} {t t1 : T} {it it1 : I} {ifs ifs1 : List E} {elt : E} {tg iter tg1 iter1 eltE : Expr} {ifsE ifsE1 : List Expr} {sc : Scope} {pos : Pos} (ok : blkC c.N c.sc sc (ownP c.N own) = true) (hown : tgIn own t = true) (hown1 : tgIn own t1 = true)
    (hi : PI X tg iter (uI Γ ts false it)) (hg : Blks X sc fun Y => PG Y tg (uG ts t)) (ht : Blks X sc fun Y => PTs Y ifsE (uTs Γ ts ifs))
    (hi1 : Blks X sc fun Y => PI Y tg1 iter1 (uI Γ ts true it1)) (hg1 : Blks X sc fun Y => PG Y tg1 (uG ts t1)) (ht1 : Blks X sc fun Y => PTs Y ifsE1 (uTs Γ ts ifs1))
    (he : Blks X sc fun Y => PE Y eltE (uV Γ ts elt)) (hs : ∀ x, foldedSetIterable iter X.env x = pure x) (hs1 : ∀ env x, foldedSetIterable iter1 env x = pure x) :
    PE X (.ListComp eltE [⟨tg, iter, ifsE, 0⟩, ⟨tg1, iter1, ifsE1, 0⟩] sc pos) (uE Γ ts (.comp own elt [.mk t it ifs, .mk t1 it1 ifs1])) := by
  have hb : BlkOk X.N X.env.scope sc (ownP c.N own) := by rw [G.hN, G.hsc]; exact blkOk_by ok
  exact pe_weak (pe_lc2 (vs1 := slotsL t1) G.calm G.nd hi hb (fun i hm => by rw [own_snd]; exact slotsL_own hown1 hm) hg ht hi1 hg1 ht1 he hs hs1) (comp2_rd hown)
end
end Pi
end
section
set_option Elab.async false
set_option linter.all false
set_option maxRecDepth 100000
set_option maxHeartbeats 1000000
/-! Pure data over the hand layer: all expressions. -/
namespace Pi
open PySem PySem.Spec PyProof.Rows L2
section
variable {Γ : Gm} {ts : List Addr} {X : Cx} {c : Cc}
theorem Good.blk (G : Good X ts Γ c) (sc : Scope) (hk : sc.kind = .function) : Blks X sc fun Y => Good Y ts Γ (c.inn sc) := fun s H C cl fp =>
  { hN := G.hN
    hsc := by
      show relS sc X.env.scope = relS sc c.sc
      rw [G.hsc]
    nd := G.nd
    calm := G.calm
    nox := rfl
    kind := hk
    fn := fun x hx => by
      show (sc.names.lookup x == some .cell) = true
      have : sc.names.lookup x = some .cell := hx
      rw [this]; rfl
    bs := G.bs
    un := G.un
    dp := G.dp
    tb := G.tb
    fs := G.fs }
theorem blkC_kind {N : List Str} {sc s : Scope} {own : List (Str × Nat)} (h : blkC N sc s own = true) : s.kind = .function := (blkOk_by h).kind
theorem const_ok {d : PyData} {k : Const} {j : Nat} {pos : Pos} (h : constOk d k = true) : PE X (.Constant k j pos) (uE Γ ts (.const d)) := by
  have key : ∀ {v : V}, (∀ F, Fd F v d) → PE X (.Constant k j pos) (tC v) → PE X (.Constant k j pos) (uE Γ ts (.const d)) := fun {v} hv h => pe_weak h fun σ H Q ⟨ρ, r, F, h1, rep, q⟩ => by
    unfold evE at h1
    cases h1
    exact q v F H (Grow.refl rep.fz) (hv F)
  cases d <;> cases k <;> simp only [constOk, Bool.false_eq_true, decide_eq_true_eq] at h
  · exact key (fun _ => .non) pe_non
  · subst h; exact key (fun _ => .bl _) pe_bl
  · subst h; exact key (fun _ => .int _) pe_int
  · subst h; exact key (fun _ => .str _) pe_str
theorem ifs0_ok : PTs X [] (uTs Γ ts []) := ⟨fun pins s σ H Q I ⟨ρ, b, F, h1, rep, q⟩ => by
  unfold evT at h1
  cases h1
  exact pts_nil.run pins s σ H Q I (q F H (Grow.refl rep.fz))⟩
theorem ifs1_ok {e : Expr} {ir : E} (h : PT X e (uT Γ ts ir)) : PTs X [e] (uTs Γ ts [ir]) := ⟨fun pins s σ H Q I ⟨ρ, b, F, h1, rep, q⟩ => by
  refine (pts_one h).run pins s σ H Q I ⟨ρ, b, F, ?_, rep, q⟩
  unfold evT at h1
  rw [Option.bind_eq_some_iff] at h1
  obtain ⟨k, h1, h2⟩ := h1
  unfold test
  rw [h1]
  split at h2
  · unfold evT at h2
    rename_i hk
    cases h2
    rw [hk]
  · rename_i hk
    cases h2
    simpa using hk⟩
theorem fold_ofE {e : Expr} {ir : E} (h : chkE c ir e = true) (env : Env) (x : Value) : foldedSetIterable e env x = pure x := by
  cases e <;> first | rfl | (cases ir <;> simp [chkE] at h)
theorem fold_ofI {e : Expr} {it : I} (h : chkI c it e = true) (env : Env) (x : Value) : foldedSetIterable e env x = pure x := by
  cases it with
  | seq a =>
    refine fold_ofE (c := c) (ir := a) ?_ env x
    unfold chkI at h
    exact h
  | range l => cases e <;> first | rfl | simp [chkI] at h
  | enum a => cases e <;> first | rfl | simp [chkI] at h
  | zip a b => cases e <;> first | rfl | simp [chkI] at h
/-- the comparisons that a chain makes -/
def ChOk (Γ : Gm) (ts : List Addr) (X : Cx) : Ch → List CmpOp → List Expr → Prop
  | .one op b, [o], [e] => op = o ∧ PE X e (uB Γ ts b)
  | .more op b h, o :: os, e :: es => op = o ∧ PE X e (uB Γ ts b) ∧ os ≠ [] ∧ es ≠ [] ∧ ChOk Γ ts X h os es
  | _, _, _ => False
theorem chainV (G : Good X ts Γ c) {pos : Pos} : ∀ (h : Ch) (ops : List CmpOp) (es : List Expr), ChOk Γ ts X h ops es → ∀ (pins : List (Addr × Obj)) (s : Shared) (σ : L2.St) (H : Hp) (ρ : List Cell) (F : Hp) (x : V) (v : Value) (dx : PyData) (k : Bool) (Q : VK),
    Inv X pins σ H s → RelV x v → evH Γ ρ dx h = some k → Rep ts ρ σ F H → BR F H x dx → (∀ F' H', Grow ts F H F' H' → Q (.bl k) H') → wpAny (model X.prog X.w) X.A (compareChain pos v ops (evalEach es X.env)) (EP X pins σ Q) X.xe s
  | .one op b, [o], [e], hc, pins, s, σ, H, ρ, F, x, v, dx, k, Q, I, rx, h1, rep, bx, q => by
    obtain ⟨rfl, hb⟩ := hc
    unfold evH at h1
    rw [Option.bind_eq_some_iff] at h1
    obtain ⟨dy, h1, h2⟩ := h1
    refine chain_last (thn (hb.run pins s σ H (fun y H1 => ∃ F1, Grow ts F H F1 H1 ∧ BR F1 H1 y dy) I ⟨ρ, dy, F, h1, rep, fun y F1 H1 g k => ⟨F1, g, k⟩⟩) fun u s1 ⟨y, H1, I1, r1, F1, g1, k1⟩ => ?_)
    exact cmpD_ok (ts := ts) op G.hu h2 pins s1 σ H1 x y v u Q I1 rx r1 ⟨F1, g1.fz rep.fz, bx.grow rep.fz.tab g1, k1, q F1 H1 g1⟩
  | .more op b h, o :: o2 :: os, e :: e2 :: es, hc, pins, s, σ, H, ρ, F, x, v, dx, k, Q, I, rx, h1, rep, bx, q => by
    obtain ⟨rfl, hb, _, _, hr⟩ := hc
    unfold evH at h1
    simp only [Option.bind_eq_some_iff] at h1
    obtain ⟨dy, h1, c1, h2, h3⟩ := h1
    refine chain_link (thn (hb.run pins s σ H (fun y H1 => ∃ F1, Grow ts F H F1 H1 ∧ BR F1 H1 y dy) I ⟨ρ, dy, F, h1, rep, fun y F1 H1 g k => ⟨F1, g, k⟩⟩) fun u s1 ⟨y, H1, I1, r1, F1, g1, k1⟩ => ?_)
    refine thn (cmpD_ok (ts := ts) op G.hu h2 pins s1 σ H1 x y v u (fun z H2 => z = .bl c1 ∧ H2 = H1) I1 rx r1 ⟨F1, g1.fz rep.fz, bx.grow rep.fz.tab g1, k1, rfl, rfl⟩) fun d s2 ⟨z, H2, I2, r2, e2, e3⟩ => ?_
    subst e2; subst e3
    cases r2
    refine wpAny_truthy_bool ?_
    cases c1 with
    | true =>
      rw [if_pos rfl] at h3
      exact ite_tt (chainV G h (o2 :: os) (_ :: es) hr pins s2 σ H2 ρ F1 y u dy k Q I2 r1 h3 (rep.grow g1) k1 fun F' H' g => q F' H' (g1.trans rep.fz.tab g))
    | false =>
      rw [if_neg Bool.false_ne_true] at h3
      cases h3
      exact ite_ff ⟨.bl false, H2, I2, rfl, q F1 H2 g1⟩
  | .one _ _, [], _, hc, _, _, _, _, _, _, _, _, _, _, _, _, _, _, _, _, _ => hc.elim
  | .one _ _, [_], [], hc, _, _, _, _, _, _, _, _, _, _, _, _, _, _, _, _, _ => hc.elim
  | .one _ _, [_], _ :: _ :: _, hc, _, _, _, _, _, _, _, _, _, _, _, _, _, _, _, _, _ => hc.elim
  | .one _ _, _ :: _ :: _, _, hc, _, _, _, _, _, _, _, _, _, _, _, _, _, _, _, _, _ => hc.elim
  | .more _ _ _, [], _, hc, _, _, _, _, _, _, _, _, _, _, _, _, _, _, _, _, _ => hc.elim
  | .more _ _ _, [_], [], hc, _, _, _, _, _, _, _, _, _, _, _, _, _, _, _, _, _ => hc.elim
  | .more _ _ _, [_], _ :: _, hc, _, _, _, _, _, _, _, _, _, _, _, _, _, _, _, _, _ => absurd rfl hc.2.2.1
  | .more _ _ _, _ :: _ :: _, [], hc, _, _, _, _, _, _, _, _, _, _, _, _, _, _, _, _, _ => hc.elim
  | .more _ _ _, _ :: _ :: _, [_], hc, _, _, _, _, _, _, _, _, _, _, _, _, _, _, _, _, _ => absurd rfl hc.2.2.2.1
theorem chainT (G : Good X ts Γ c) {pos : Pos} : ∀ (h : Ch) (ops : List CmpOp) (es : List Expr), ChOk Γ ts X h ops es → ∀ (pins : List (Addr × Obj)) (s : Shared) (σ : L2.St) (H : Hp) (ρ : List Cell) (F : Hp) (x : V) (v : Value) (dx : PyData) (k : Bool) (Q : Bool → Hp → Prop),
    Inv X pins σ H s → RelV x v → evH Γ ρ dx h = some k → Rep ts ρ σ F H → BR F H x dx → (∀ F' H', Grow ts F H F' H' → Q k H') → wpAny (model X.prog X.w) X.A (testChain pos v ops (evalEach es X.env)) (TP X pins σ Q) X.xe s
  | .one op b, [o], [e], hc, pins, s, σ, H, ρ, F, x, v, dx, k, Q, I, rx, h1, rep, bx, q => by
    obtain ⟨rfl, hb⟩ := hc
    unfold evH at h1
    rw [Option.bind_eq_some_iff] at h1
    obtain ⟨dy, h1, h2⟩ := h1
    refine test_last (thn (hb.run pins s σ H (fun y H1 => ∃ F1, Grow ts F H F1 H1 ∧ BR F1 H1 y dy) I ⟨ρ, dy, F, h1, rep, fun y F1 H1 g k => ⟨F1, g, k⟩⟩) fun u s1 ⟨y, H1, I1, r1, F1, g1, k1⟩ => ?_)
    refine thn (cmpD_ok (ts := ts) op G.hu h2 pins s1 σ H1 x y v u (fun z H2 => z = .bl k ∧ H2 = H1) I1 rx r1 ⟨F1, g1.fz rep.fz, bx.grow rep.fz.tab g1, k1, rfl, rfl⟩) fun d s2 ⟨z, H2, I2, r2, e2, e3⟩ => ?_
    subst e2; subst e3
    cases r2
    exact wpAny_truthy_bool ⟨H2, I2, q F1 H2 g1⟩
  | .more op b h, o :: o2 :: os, e :: e2 :: es, hc, pins, s, σ, H, ρ, F, x, v, dx, k, Q, I, rx, h1, rep, bx, q => by
    obtain ⟨rfl, hb, _, _, hr⟩ := hc
    unfold evH at h1
    simp only [Option.bind_eq_some_iff] at h1
    obtain ⟨dy, h1, c1, h2, h3⟩ := h1
    refine test_link (thn (hb.run pins s σ H (fun y H1 => ∃ F1, Grow ts F H F1 H1 ∧ BR F1 H1 y dy) I ⟨ρ, dy, F, h1, rep, fun y F1 H1 g k => ⟨F1, g, k⟩⟩) fun u s1 ⟨y, H1, I1, r1, F1, g1, k1⟩ => ?_)
    refine thn (cmpD_ok (ts := ts) op G.hu h2 pins s1 σ H1 x y v u (fun z H2 => z = .bl c1 ∧ H2 = H1) I1 rx r1 ⟨F1, g1.fz rep.fz, bx.grow rep.fz.tab g1, k1, rfl, rfl⟩) fun d s2 ⟨z, H2, I2, r2, e2, e3⟩ => ?_
    subst e2; subst e3
    cases r2
    refine wpAny_truthy_bool ?_
    cases c1 with
    | true =>
      rw [if_pos rfl] at h3
      exact ite_tt (chainT G h (o2 :: os) (_ :: es) hr pins s2 σ H2 ρ F1 y u dy k Q I2 r1 h3 (rep.grow g1) k1 fun F' H' g => q F' H' (g1.trans rep.fz.tab g))
    | false =>
      rw [if_neg Bool.false_ne_true] at h3
      cases h3
      exact ite_ff ⟨H2, I2, q F1 H2 g1⟩
  | .one _ _, [], _, hc, _, _, _, _, _, _, _, _, _, _, _, _, _, _, _, _, _ => hc.elim
  | .one _ _, [_], [], hc, _, _, _, _, _, _, _, _, _, _, _, _, _, _, _, _, _ => hc.elim
  | .one _ _, [_], _ :: _ :: _, hc, _, _, _, _, _, _, _, _, _, _, _, _, _, _, _, _, _ => hc.elim
  | .one _ _, _ :: _ :: _, _, hc, _, _, _, _, _, _, _, _, _, _, _, _, _, _, _, _, _ => hc.elim
  | .more _ _ _, [], _, hc, _, _, _, _, _, _, _, _, _, _, _, _, _, _, _, _, _ => hc.elim
  | .more _ _ _, [_], [], hc, _, _, _, _, _, _, _, _, _, _, _, _, _, _, _, _, _ => hc.elim
  | .more _ _ _, [_], _ :: _, hc, _, _, _, _, _, _, _, _, _, _, _, _, _, _, _, _, _ => absurd rfl hc.2.2.1
  | .more _ _ _, _ :: _ :: _, [], hc, _, _, _, _, _, _, _, _, _, _, _, _, _, _, _, _, _ => hc.elim
  | .more _ _ _, _ :: _ :: _, [_], hc, _, _, _, _, _, _, _, _, _, _, _, _, _, _, _, _, _ => absurd rfl hc.2.2.2.1
theorem chain_ok (G : Good X ts Γ c) {a : Expr} {ia : E} {h : Ch} {o o2 : CmpOp} {os : List CmpOp} {e e2 : Expr} {es : List Expr} {pos : Pos} (hm : lastMarks (o :: o2 :: os) (e :: e2 :: es) = false) (ha : PE X a (uB Γ ts ia)) (hh : ChOk Γ ts X h (o :: o2 :: os) (e :: e2 :: es)) :
    Snd Γ ts X (.Compare a (o :: o2 :: os) (e :: e2 :: es) pos) (.chain ia h) := by
  have key : ∀ ρ r, evE Γ ρ (.chain ia h) = some r → ∃ dx k, bor ρ ia (evE Γ ρ ia) = some dx ∧ evH Γ ρ dx h = some k ∧ r = .val (.bool k) := fun ρ r h => by
    unfold evE at h
    simp only [Option.bind_eq_some_iff, Option.map_eq_some_iff] at h
    obtain ⟨dx, h1, k, h2, h3⟩ := h
    exact ⟨dx, k, h1, h2, h3.symm⟩
  refine ⟨⟨fun pins s σ H Q I ⟨ρ, r, F, h1, rep, q⟩ => ?_⟩, ⟨fun pins s σ H Q I ⟨ρ, r, F, h1, rep, q⟩ => ?_⟩, fun z => z.elim⟩
  · obtain ⟨dx, k, e1, e3, rfl⟩ := key ρ r h1
    refine Compare_chain (thn (ha.run pins s σ H (fun y H1 => ∃ F1, Grow ts F H F1 H1 ∧ BR F1 H1 y dx) I ⟨ρ, dx, F, e1, rep, fun y F1 H1 g k => ⟨F1, g, k⟩⟩) fun u s1 ⟨y, H1, I1, r1, F1, g1, k1⟩ => ?_) hm
    exact chainV G h _ _ hh pins s1 σ H1 ρ F1 y u dx k Q I1 r1 e3 (rep.grow g1) k1 fun F' H' g => q _ F' H' (g1.trans rep.fz.tab g) (.bl _)
  · unfold test at h1
    rw [Option.bind_eq_some_iff] at h1
    obtain ⟨d, h0, h1⟩ := h1
    rw [bor_nv (by rintro ⟨i, hi⟩; cases hi), Option.map_eq_some_iff] at h0
    obtain ⟨r0, h0, rfl⟩ := h0
    obtain ⟨dx, k, e1, e3, er⟩ := key ρ r0 h0
    subst er
    cases h1
    refine isTrue_chain (thn (ha.run pins s σ H (fun y H1 => ∃ F1, Grow ts F H F1 H1 ∧ BR F1 H1 y dx) I ⟨ρ, dx, F, e1, rep, fun y F1 H1 g k => ⟨F1, g, k⟩⟩) fun u s1 ⟨y, H1, I1, r1, F1, g1, k1⟩ => ?_) hm
    exact chainT G h _ _ hh pins s1 σ H1 ρ F1 y u dx _ Q I1 r1 e3 (rep.grow g1) k1 fun F' H' g => q F' H' (g1.trans rep.fz.tab g)
end
end Pi
end
section
set_option Elab.async false
set_option linter.all false
set_option maxRecDepth 100000
set_option maxHeartbeats 2000000
/-! Pure data over the hand layer: a generator's frame, and how all and any walk it. -/
namespace Pi
open PySem PySem.Spec PyProof.Rows L2
/-- the names of a generator expression's scope: its own (with their places in N), or captured -/
structure GOk (N : List Str) (sc scope : Scope) (own : List (Str × Nat)) : Prop where
  kind : scope.kind = .function
  co : scope.isCoroutine = false
  nocell : ∀ y ∈ scope.names, y.2 ≠ .cell
  dot : scope.names.lookup (".0" : Str) = some NameKind.local
  ix : ∀ p ∈ own, N[p.2]? = some p.1
  free : ∀ y ∈ scope.names, y.2 = .free → sc.names.lookup y.1 = some .cell ∨ sc.names.lookup y.1 = some .free
  own : ∀ y ∈ scope.names, y.2 = .local → y.1 ∈ own.map (·.1) ∨ y.1 ∉ N
abbrev genE (X : Cx) (scope : Scope) (C : Addr) (code : Value) : Env := genEnv scope (cloFrom X.env.cells scope.names []) C code builtinsNs X.env
/-- the context of a generator's frame that was made at s -/
abbrev genCx (X : Cx) (A : Around) (s : Shared) (H : Hp) (cenv : Env) (fp : List Addr) : Cx := { X with A := A, s_0 := s, H_0 := H, env := cenv, outer := X.stack, stack := cenv :: X.stack, ex := fp, fn := fun _ => false, calm := true, pn := [], xe := fun _ _ => False }
section
variable {X : Cx} {pins : List (Addr × Obj)} {σ : L2.St} {H : Hp} {s : Shared}
theorem gen_start {scope : Scope} {own : List (Str × Nat)} {fp : List Addr} {A : Around} {code itv : Value} {h' : Heap} {oa : Obj} {gs : GenState} {tk : Nat} (I : Inv X pins σ H s) (ok : GOk X.N X.env.scope scope own) (hN : X.N.Nodup) (hfp : ∀ b ∈ fp, FpOk X pins H b ∧ b < s.heap.objs.size)
    (hA : A.frames = some (genE X scope s.heap.objs.size code :: X.stack)) (hd : A.handled = none) (hn' : h'.Ns s.heap.objs.size (fun y => if y = ".0" then some itv else none)) (hs' : Heap.SameBut s.heap.objs.size (s.heap.push { cls := .type "frame", data := .dict #[] }) h')
    (hoa : ∀ v, oa.data ≠ .cell v) (hfr : Obj.isFreed oa = false) (hgs : gs.bare = true) :
    Inv (genCx X A s H (genE X scope s.heap.objs.size code) fp) [(h'.objs.size, oa)] (wipe σ (own.map (·.2))) H { s with gens := s.gens.push gs, toks := tk, heap := h'.push oa } := by
  have hfree : ∀ y ∈ scope.names, y.2 = .free → ∃ c, X.env.cells.lookup y.1 = some c := fun y hy e => by
    rcases ok.free y hy e with k | k
    · exact I.ok.has _ (.inl k)
    · exact I.ok.has _ (.inr k)
  have sz' : h'.objs.size = s.heap.objs.size + 1 := by rw [hs'.1, Heap.size_push]
  have kp0 : ∀ b o, s.heap.get? b = some o → h'.get? b = some o := fun b o e => hs'.extBut b o (Nat.ne_of_lt (Heap.lt_size e)) (Heap.get?_push_of_some _ e)
  have kp : ∀ b o, s.heap.get? b = some o → (h'.push oa).get? b = some o := fun b o e => Heap.get?_push_of_some _ (kp0 b o e)
  have cm : ∀ {y c}, (cloFrom X.env.cells scope.names []).lookup y = some c → X.env.cells.lookup y = some c := fun {y c} e => by
    rcases cloFrom_mem (PySem.mem_of_lookup e) with hm | ⟨h1, h2⟩
    · cases hm
    · obtain ⟨c1, hc⟩ := hfree _ h1 rfl
      have hc : X.env.cells.lookup y = some c1 := hc
      have e2 : c = c1 := by
        rw [h2, hc] <;> rfl
      rw [e2]
      exact hc
  have look : ∀ {y}, scope.names.lookup y = some .free → ∃ c, (cloFrom X.env.cells scope.names []).lookup y = some c := fun {y} hl => by
    have hy : (y, NameKind.free) ∈ scope.names := PySem.mem_of_lookup hl
    exact mem_lookup (cloFrom_has (cells := X.env.cells) (acc := []) hy)
  have cellK : ∀ {c : Addr} {v : Option Value}, s.heap.IsCell c v → (h'.push oa).IsCell c v := fun {c v} ⟨o, ho, hd⟩ => ⟨o, kp _ _ ho, hd⟩
  refine ⟨⟨I.ok.mod, ok.kind, I.ok.glob, rfl, Nat.le_refl _, fun y z c e1 e2 => I.ok.inj y z c (cm e1) (cm e2), fun y hy => ?_, fun y c z _ => ?_, fun _ => hd, hA, .inr ⟨rfl, rfl⟩, fun b hb => ⟨Nat.ne_of_lt (hfp b hb).2, fun y c e => (hfp b hb).1.2.2.2.2.1 y c (cm e)⟩, I.bs, Nat.le_trans I.ok.bsz I.sz, fun b o e hb => ?_, fun b hb z => ?_, I.stack, I.stkFree⟩,
    rfl, I.bare.push hgs, Un.kept kp, ⟨_, hn'.push _, fun i y v e1 e2 e3 => ?_⟩, fun y c e => ?_, I.hok.fresh (Nat.le_refl _), fun y c e => I.freeC y c (cm e), fun p hp => ?_, I.hok.kept kp, by rw [wipe_length]; exact I.len⟩
  · have hy : scope.names.lookup y = some .cell ∨ scope.names.lookup y = some .free := hy
    rcases hy with hy | hy
    · exact absurd rfl (ok.nocell _ (PySem.mem_of_lookup hy))
    · exact look hy
  · have z : false = true := z
    cases z
  · rcases (hfp b hb).1.2.2.2.1 with z | z
    · exact I.ok.noex b o e z
    · exact absurd (Nat.lt_of_lt_of_le (Heap.lt_size e) (Nat.le_trans I.ok.bsz z)) (Nat.lt_irrefl _)
  · rcases List.mem_cons.mp (I.stkSub b z) with z | z
    · exact (hfp b hb).1.2.1 z
    · exact (hfp b hb).1.2.2.1 z
  · obtain ⟨e2, hne⟩ := wipe_some e2
    have e3 : Vis scope y := e3
    rcases e3 with k | k | k
    · rcases ok.own _ (PySem.mem_of_lookup k) rfl with e' | e'
      · obtain ⟨p, hp, hpy⟩ := List.mem_map.mp e'
        have e3 := ok.ix p hp
        have : p.1 = y := hpy
        rw [this] at e3
        exact absurd (List.mem_map.mpr ⟨p, hp, nodup_ix hN e3 e1⟩) hne
      · exact absurd (List.mem_of_getElem? e1) e'
    · exact absurd rfl (ok.nocell _ (PySem.mem_of_lookup k))
    · obtain ⟨m, hn, hl⟩ := I.loc
      have hvis : Vis X.env.scope y := (ok.free _ (PySem.mem_of_lookup k) rfl).elim (fun k => .inr (.inl k)) (fun k => .inr (.inr k))
      obtain ⟨w', r, q⟩ := hl i y v e1 e2 hvis
      obtain ⟨c2, h2⟩ := look k
      refine ⟨w', r, .inr ⟨.inr k, c2, h2, ?_⟩⟩
      have c1 := cm h2
      rcases q with ⟨k', _⟩ | ⟨_, c3, e', z⟩
      · have k' : X.env.scope.names.lookup y = some .local := k'
        rcases ok.free _ (PySem.mem_of_lookup k) rfl with k2 | k2 <;> rw [show X.env.scope.names.lookup y = _ from k2] at k' <;> cases k'
      · rw [c1] at e'
        cases e'
        exact cellK z
  · obtain ⟨w', z⟩ := I.cell y c (cm e)
    exact ⟨w', cellK z⟩
  · have e : p = (h'.objs.size, oa) := by simpa using hp
    subst e
    refine ⟨Heap.get?_push_size _ hfr, I.hok.fresh (by show s.heap.objs.size ≤ h'.objs.size; omega), ?_, fun z => ?_, hoa⟩
    · show h'.objs.size ≠ s.heap.objs.size
      omega
    · have hL := I.lt
      rcases List.mem_cons.mp (I.stkSub _ z) with z | z
      · have : (h'.objs.size : Nat) < s.heap.objs.size := by
          have h9 : h'.objs.size = X.env.locals := z
          rw [h9]; exact hL
        omega
      · exact I.nofs (by show s.heap.objs.size ≤ h'.objs.size; omega) z
end
end Pi
end
section
set_option Elab.async false
set_option linter.all false
set_option maxRecDepth 100000
set_option maxHeartbeats 2000000
/-! Pure data over the hand layer: a generator expression of one clause, walked by all and any. -/
namespace Pi
open PySem PySem.Spec PyProof.Rows L2
section
variable {Y : Cx} {pin : List (Addr × Obj)} {stop : Bool} {Qb : Bool → Hp → Prop}
/-- the generator has answered -/
def GFin (Y : Cx) (pin : List (Addr × Obj)) (Qb : Bool → Hp → Prop) (b : Bool) (s : Shared) : Prop := ∃ σ' H', Inv Y pin σ' H' s ∧ Qb b H'
def GYld (Y : Cx) (pin : List (Addr × Obj)) (stop : Bool) (Qb : Bool → Hp → Prop) : Protocol := fun _ _ v s kap =>
  ∃ (c : Bool) (σ' : L2.St) (H' : Hp), v = .bool c ∧ Inv Y pin σ' H' s ∧ (c = stop → Qb stop H') ∧ (c ≠ stop → ∀ s'' : Shared, s''.heap = s.heap → s''.os = s.os → AllBare s''.gens → kap (.send .none) s'')
abbrev GRet (Y : Cx) (pin : List (Addr × Obj)) (stop : Bool) (Qb : Bool → Hp → Prop) : GenEnd := fun _ _ r s₁ => r = .ok .next ∧ GFin Y pin Qb (!stop) s₁
theorem Inv.moved {σ : L2.St} {H : Hp} {s s' : Shared} (I : Inv Y pin σ H s) (hk : ∀ b o, s.heap.get? b = some o → s'.heap.get? b = some o) (ho : s'.os = s.os) (hg : AllBare s'.gens) : Inv Y pin σ H s' :=
  I.call' (ch := []) ho (Un.kept hk) (I.hok.kept hk) hg fun b z => absurd z (by simp)
theorem bare_set {s : Shared} {g : Nat} {x : GenState} (h : AllBare s.gens) (hx : x.bare = true) : AllBare (s.setGen g x).gens := by
  intro y hy
  unfold Shared.setGen at hy
  rcases Array.mem_or_eq_of_mem_setIfInBounds hy with hy | rfl
  · exact h y hy
  · exact hx
end
/-- all, any of (elt for tg in iter if ..): W by the turn and a measure -/
def GTurns (stop : Bool) (J : It) (g : TG) (tt : TT) (te : TE) (vs : List Nat) (σ : L2.St) (Qb : Bool → Hp → Prop) (W : Nat → Nat → Hp → Prop) : Prop := ∀ i m H, W i m H →
  (J.stop i H ∧ Qb (!stop) H) ∨ (J.go i H ∧ ∃ Nx : Hp → Prop, (∀ H', Nx H' → ∃ m', m' < m ∧ W (i + 1) m' H') ∧ ∀ x H', J.yld i H x H' → g x (wipe σ vs) H' fun σ2 H2 => wipe σ2 vs = wipe σ vs ∧ tt σ2 H2 fun b H3 =>
    if b = true then te σ2 H3 fun y H4 => ∃ c, y = .bl c ∧ (c = stop → Qb stop H4) ∧ (c ≠ stop → Nx H4) else Nx H3)
section
variable {Y : Cx} {stop : Bool} {Qb : Bool → Hp → Prop} {J : It} {g : TG} {tt : TT} {te : TE} {vs : List Nat} {σ : L2.St} {W : Nat → Nat → Hp → Prop} {AG : Around} {elt tg iter : Expr} {ifs : List Expr} {scope : Scope} {pos : Pos} {it a : Addr} {oa : Obj} {fp : List Addr} {tn : Nat → Heap → Prop}
theorem gen_seg (hc : Y.calm = true) (hpn : Y.pn = []) (hxe : Y.xe = fun _ _ => False) (hex : Y.ex = fp) (hco : Y.env.scope.isCoroutine = false) (T : Turn Y.prog Y.w Y.K tg J fp it tn) (hafp : ∀ b ∈ fp, a ≠ b) (pg : PG Y tg g) (pt : PTs Y ifs tt) (pe : PE Y elt te) (tu : GTurns stop J g tt te vs σ Qb W)
    (hA : AG.over (.compLoop (.GeneratorExp elt [⟨tg, iter, ifs, 0⟩] scope pos) 0 (.ref it) .none Y.env) [] = Y.A) :
    ∀ (m n i : Nat) (H : Hp) (s₀ s : Shared), m < n → W i m H → Inv Y [(a, oa)] (wipe σ vs) H s → tn i s.heap → (∀ b ∈ fp, H b = none) →
      Seg (model Y.prog Y.w) AG (GRet Y [(a, oa)] stop Qb) (GYld Y [(a, oa)] stop Qb) n s₀ (.compLoop (.GeneratorExp elt [⟨tg, iter, ifs, 0⟩] scope pos) 0 (.ref it) .none Y.env)
        ((model Y.prog Y.w).den (.compLoop (.GeneratorExp elt [⟨tg, iter, ifs, 0⟩] scope pos) 0 (.ref it) .none Y.env)) [] s := by
  have stat : ∀ {σ' : L2.St} {H' : Hp} {s' : Shared}, Inv Y [(a, oa)] σ' H' s' → (∀ b ∈ fp, H' b = none) → ∀ b ∈ fp, FpOk Y [(a, oa)] H' b := fun {σ' H' s'} I' hn b hb =>
    ⟨hn b hb, (I'.ok.exf b (by rw [hex]; exact hb)).1, I'.ok.exfs b (by rw [hex]; exact hb), .inl (by rw [hex]; exact hb), fun x c e => (I'.ok.exf b (by rw [hex]; exact hb)).2 x c e, fun p hp => by
      rw [hpn, List.nil_append, List.mem_singleton] at hp
      subst hp
      exact hafp b hb⟩
  intro m
  induction m using Nat.strongRecOn with
  | ind m ih =>
    intro n i H s₀ s hmn hw I st nfp
    show Seg _ AG _ _ _ s₀ _ ((compTurn (.GeneratorExp elt [⟨tg, iter, ifs, 0⟩] scope pos) 0 (.ref it) .none Y.env).onRaise (leaving Y.env)) [] s
    rw [compTurn_gen, Sem.onRaise_eq_wrap]
    refine seg_bind_wrap (wpAny_standAt ?_)
    rcases tu i m H hw with ⟨hs, hq⟩ | ⟨hgo, Nx, hNx, step⟩
    · refine seg_bind_wrap ?_
      rw [hA]
      refine thnF (T.done Y rfl rfl rfl hc i [(a, oa)] s _ H (fun _ _ => False) I (stat I nfp) st hs) fun r s6 ⟨hr, I6⟩ => ?_
      subst hr
      exact seg_end (.ok .next) ⟨rfl, _, _, I6, hq⟩
    · refine seg_bind_wrap ?_
      rw [hA]
      refine thnF (T.item Y rfl rfl rfl hc i [(a, oa)] s _ H (fun _ _ => False) I (stat I nfp) st hgo) fun r s6 ⟨u, hr, h6⟩ => ?_
      subst hr
      refine seg_bind_wrap ?_
      rw [hA]
      refine thnF h6 fun _ s7 ⟨x, H7, I7, r7, y7, st7, n7⟩ => ?_
      have I7' := I7.pinned (stat I7 n7) (T.obj _ _ st7)
      refine seg_bind_wrap ?_
      rw [hA]
      have pg' := pg.run _ s7 _ H7 x u _ I7' r7 (step x H7 y7)
      rw [hxe] at pg'
      refine thnF pg' fun _ s8 ⟨σ8, H8, I8, hw8, q8⟩ => ?_
      refine seg_bind_wrap ?_
      rw [hA]
      have pt' := pt.run _ s8 σ8 H8 _ I8 q8
      rw [hxe] at pt'
      refine thnF pt' fun b s9 ⟨H9, I9, q9⟩ => ?_
      -- the turn's end
      have fin : ∀ {s' : Shared} {H' : Hp}, Inv Y ([(a, oa)] ++ pinsAt fp s7.heap) σ8 H' s' → Nx H' → ∃ m', m' < m ∧ W (i + 1) m' H' ∧ Inv Y [(a, oa)] (wipe σ vs) H' s' ∧ tn (i + 1) s'.heap ∧ ∀ b ∈ fp, H' b = none := fun {s' H'} I' nx => by
        obtain ⟨m', hm, w'⟩ := hNx H' nx
        have pin' : ∀ b ∈ fp, ∀ o, s7.heap.get? b = some o → s'.heap.get? b = some o ∧ H' b = none := fun b hb o e =>
          let z := I'.pin (b, o) (List.mem_append_right _ (List.mem_append_right _ (mem_pinsAt hb e)))
          ⟨z.1, z.2.1⟩
        have hl : (wipe σ vs).length = σ8.length := by rw [← hw8, wipe_length]
        refine ⟨m', hm, w', I'.unpinned.weak hl (fun j v e => ?_), T.keep _ _ _ st7 fun b hb o e => (pin' b hb o e).1, fun b hb => ?_⟩
        · rw [← hw8] at e
          exact (wipe_some e).1
        · obtain ⟨o, e, _⟩ := T.obj _ _ st7 b hb
          exact (pin' b hb o e).2
      cases b with
      | false =>
        simp only [Bool.false_eq_true, if_false] at q9 ⊢
        obtain ⟨m', hm, w', I', st', nf'⟩ := fin I9 q9
        exact seg_again rfl (ih m' hm n (i + 1) H9 s₀ s9 (Nat.lt_trans hm hmn) w' I' st' nf')
      | true =>
        simp only [if_true] at q9 ⊢
        have hy : ∀ v, yieldOut Y.env v = yieldValue v := fun v => by simp only [yieldOut, hco, Bool.false_eq_true, if_false]
        simp only [hy]
        rw [Sem.bind_eq_wrap', Sem.bind_eq_wrap', Sem.wrap_wrap, Sem.wrap_wrap]
        refine seg_wrap ?_
        rw [hA]
        have pe' := pe.run _ s9 σ8 H9 _ I9 q9
        rw [hxe] at pe'
        refine thnF pe' fun z s10 ⟨yv, H10, I10, r10, c, ec, k1, k2⟩ => ?_
        subst ec
        obtain rfl : z = .bool c := r10
        obtain ⟨n', rfl⟩ : ∃ n', n = n' + 1 := ⟨n - 1, by omega⟩
        refine seg_at (seg_yield rfl rfl rfl ⟨c, σ8, H10, rfl, I10.unpinned, k1, fun hne s'' e1 e2 e3 => ?_⟩)
        obtain ⟨m', hm, w', I', st', nf'⟩ := fin I10 (k2 hne)
        refine seg_again rfl (ih m' hm n' (i + 1) H10 s'' s'' (by omega) w' (Inv.moved I' (fun b o e => by rw [e1]; exact e) e2 e3) ?_ nf')
        rw [e1]; exact st'
theorem gen_seg0 (hc : Y.calm = true) (hpn : Y.pn = []) (hxe : Y.xe = fun _ _ => False) (hex : Y.ex = fp) (hco : Y.env.scope.isCoroutine = false) (T : Turn Y.prog Y.w Y.K tg J fp it tn) (hafp : ∀ b ∈ fp, a ≠ b) (pg : PG Y tg g) (pt : PTs Y ifs tt) (pe : PE Y elt te) (tu : GTurns stop J g tt te vs σ Qb W)
    (hA : AG.over (.compLoop (.GeneratorExp elt [⟨tg, iter, ifs, 0⟩] scope pos) 0 (.ref it) .none Y.env) [] = Y.A) {m n : Nat} {H : Hp} {s₀ s : Shared} (hm : m < n) (hw : W 0 m H) (I : Inv Y [(a, oa)] (wipe σ vs) H s) (st : tn 0 s.heap) (nf : ∀ b ∈ fp, H b = none) :
    Seg (model Y.prog Y.w) AG (GRet Y [(a, oa)] stop Qb) (GYld Y [(a, oa)] stop Qb) n s₀ (.compStart (.GeneratorExp elt [⟨tg, iter, ifs, 0⟩] scope pos) 0 (.ref it) .none Y.env)
        ((model Y.prog Y.w).den (.compStart (.GeneratorExp elt [⟨tg, iter, ifs, 0⟩] scope pos) 0 (.ref it) .none Y.env)) [] s := by
  have loop := gen_seg hc hpn hxe hex hco T hafp pg pt pe tu hA m n 0 H s₀ s hm hw I st nf
  show Seg _ AG _ _ _ s₀ _ ((compStart (.GeneratorExp elt [⟨tg, iter, ifs, 0⟩] scope pos) 0 (.ref it) .none Y.env).onRaise (leaving Y.env)) [] s
  unfold compStart
  rw [Sem.onRaise_eq_wrap]
  show Seg _ AG _ _ _ s₀ _ ((ask >>= _).wrap _ _ _ _) [] s
  refine seg_bind_wrap (wpAny_askSetting ?_)
  split
  · exact seg_again rfl loop
  · first
      | exact seg_bind_wrap (wpAny_rule (seg_bind_wrap (wpAny_standAt (seg_bind_wrap (T.self _ 0 s _ _ st (seg_again rfl loop))))))
      | (refine seg_bind_wrap (wpAny_rule ?_); show Seg _ AG _ _ _ s₀ _ ((standAt iter.pos >>= _).wrap _ _ _ _) [] s; exact seg_bind_wrap (wpAny_standAt (seg_bind_wrap (T.self _ 0 s _ _ st (seg_again rfl loop)))))
end
/-! ### the consumer -/
section
variable {Y : Cx} {Qb : Bool → Hp → Prop} {A : Around} {a : Addr} {oa : Obj} {gno : Nat}
/-- one wakening -/
theorem gen_next {stop : Bool} {n : Nat} {gs : GenState} {s : Shared} {E : Value → Shared → Prop} {Q : Option Value → Shared → Prop} (hh : A.handled = none) (hroom : A.depth < recursionLimit) (hlim : s.heap.NoLimit) (hig : s.heap.IsGen a gno) (hgs : s.gens[gno]? = some gs) (hb : AllBare s.gens)
    (hgo : gs.Goes (model Y.prog Y.w) A.in1 (GRet Y [(a, oa)] stop Qb) (GYld Y [(a, oa)] stop Qb) n (.send .none) (s.setGen gno .running))
    (h0 : ∀ s', GFin Y [(a, oa)] Qb (!stop) s' → Q none s')
    (h1 : ∀ (c : Bool) s' σ' H', Inv Y [(a, oa)] σ' H' s' → (c = stop → Qb stop H') → (c ≠ stop → ∃ n' gs', n' < n ∧ s'.gens[gno]? = some gs' ∧ gs'.Goes (model Y.prog Y.w) A.in1 (GRet Y [(a, oa)] stop Qb) (GYld Y [(a, oa)] stop Qb) n' (.send .none) (s'.setGen gno .running)) → Q (some (.bool c)) s') :
    wpAny (model Y.prog Y.w) A (pyNext (.ref a)) Q E s := by
  refine GenW.wpAny_gsz (Nat.le_refl s.gens.size) ?_
  have hlt : gno < s.gens.size := by
    rcases Nat.lt_or_ge gno s.gens.size with h' | h'
    · exact h'
    · rw [Array.getElem?_eq_none h'] at hgs; cases hgs
  refine wpAny_pyNext_genexpQ (P := fun _ _ s₁ => GFin Y [(a, oa)] Qb (!stop) s₁) hh hlim hroom hig hgs hgo (fun v s₁ gs' hb' hv => ?_) (fun s₁ hp h' hk => ?_)
  · intro hsz
    obtain ⟨c, σ', H', rfl, I, k1, k2⟩ := hv
    have hsz' : s.gens.size ≤ s₁.gens.size := by rw [← GenW.setGen_size s₁ gno gs']; exact hsz
    have I' : Inv Y [(a, oa)] σ' H' (s₁.setGen gno gs') := Inv.moved (s' := s₁.setGen gno gs') I (fun _ _ e => e) rfl (bare_set I.bare hb')
    refine h1 c _ σ' H' I' k1 fun hne => ?_
    have kk := k2 hne ((s₁.setGen gno gs').setGen gno .running) rfl rfl (bare_set I'.bare rfl)
    cases n with
    | zero => exact kk.elim
    | succ n' =>
      refine ⟨n', gs', Nat.lt_succ_self _, ?_, kk⟩
      have hlt' : gno < s₁.gens.size := Nat.lt_of_lt_of_le hlt hsz'
      simp [Shared.setGen, hlt']
  · intro _
    obtain ⟨σ', H', I, q⟩ := hp
    exact h0 _ ⟨σ', H', Inv.moved (s' := { s₁.setGen gno .finished with heap := h' }) I hk rfl (bare_set I.bare rfl), q⟩
/-- what stands while the generator sleeps -/
structure GSleep (Y : Cx) (stop : Bool) (Qb : Bool → Hp → Prop) (A : Around) (a : Addr) (oa : Obj) (gno n : Nat) (s : Shared) : Prop where
  lim : s.heap.NoLimit
  gen : s.heap.IsGen a gno
  bare : AllBare s.gens
  st : ∃ gs, s.gens[gno]? = some gs ∧ gs.Goes (model Y.prog Y.w) A.in1.in1 (GRet Y [(a, oa)] stop Qb) (GYld Y [(a, oa)] stop Qb) n (.send .none) (s.setGen gno .running)
theorem GSleep.next {stop : Bool} {n : Nat} {gs : GenState} {s' : Shared} {σ' : L2.St} {H' : Hp} (hig : ∀ h : Heap, h.get? a = some oa → h.IsGen a gno) (I : Inv Y [(a, oa)] σ' H' s') (h : s'.gens[gno]? = some gs)
    (hgo : gs.Goes (model Y.prog Y.w) A.in1.in1 (GRet Y [(a, oa)] stop Qb) (GYld Y [(a, oa)] stop Qb) n (.send .none) (s'.setGen gno .running)) : GSleep Y stop Qb A a oa gno n s' :=
  ⟨I.nolimit, hig _ (I.pin (a, oa) (by simp)).1, I.bare, gs, h, hgo⟩
theorem gen_all (hig : ∀ h : Heap, h.get? a = some oa → h.IsGen a gno) (hh : A.handled = none) (hroom : A.depth < recursionLimit) {R : Result → Shared → Prop} (hR : ∀ b s', GFin Y [(a, oa)] Qb b s' → R (.ok (.ret (.bool b))) s') :
    ∀ (n : Nat) (s : Shared), GSleep Y false Qb A a oa gno n s → codeAny (model Y.prog Y.w) A (.builtin "all.loop" ⟨[.ref a], []⟩) R s := by
  intro n
  induction n using Nat.strongRecOn with
  | ind n ih =>
    intro s S
    obtain ⟨gs, hgs, hgo⟩ := S.st
    refine codeAny_builtin F.entry_all_loop ?_
    rw [Around.under_plainId F.plain_all_loop _]
    show wpAny _ A.in1 (pyNext (.ref a) >>= _) _ _ s
    refine wpAny_bind (gen_next (A := A.in1) hh hroom S.lim S.gen hgs S.bare hgo (fun s' f => ?_) fun c s' σ' H' I k1 k2 => ?_)
    · exact wpAny_bind (wpAny_rule (wpAny_pure (hR true s' f)))
    · refine wpAny_bind (wpAny_holding (wpAny_truthy_bool ?_))
      refine wpAny_bind (wpAny_letGo ?_)
      cases c with
      | true =>
        simp only [if_true]
        obtain ⟨n', gs', hn, e1, e2⟩ := k2 (by decide)
        exact wpAny_pure ⟨plainId_quiet F.plain_all_loop _, ih n' hn s' (.next hig I e1 e2)⟩
      | false =>
        simp only [Bool.false_eq_true, if_false]
        exact wpAny_bind (wpAny_rule (wpAny_pure (hR false s' ⟨σ', H', I, k1 rfl⟩)))
theorem gen_any (hig : ∀ h : Heap, h.get? a = some oa → h.IsGen a gno) (hh : A.handled = none) (hroom : A.depth < recursionLimit) {R : Result → Shared → Prop} (hR : ∀ b s', GFin Y [(a, oa)] Qb b s' → R (.ok (.ret (.bool b))) s') :
    ∀ (n : Nat) (s : Shared), GSleep Y true Qb A a oa gno n s → codeAny (model Y.prog Y.w) A (.builtin "any.loop" ⟨[.ref a], []⟩) R s := by
  intro n
  induction n using Nat.strongRecOn with
  | ind n ih =>
    intro s S
    obtain ⟨gs, hgs, hgo⟩ := S.st
    refine codeAny_builtin F.entry_any_loop ?_
    rw [Around.under_plainId F.plain_any_loop _]
    show wpAny _ A.in1 (pyNext (.ref a) >>= _) _ _ s
    refine wpAny_bind (gen_next (A := A.in1) hh hroom S.lim S.gen hgs S.bare hgo (fun s' f => ?_) fun c s' σ' H' I k1 k2 => ?_)
    · exact wpAny_bind (wpAny_rule (wpAny_pure (hR false s' f)))
    · refine wpAny_bind (wpAny_holding (wpAny_truthy_bool ?_))
      refine wpAny_bind (wpAny_letGo ?_)
      cases c with
      | false =>
        simp only [Bool.false_eq_true, if_false]
        obtain ⟨n', gs', hn, e1, e2⟩ := k2 (by decide)
        exact wpAny_pure ⟨plainId_quiet F.plain_any_loop _, ih n' hn s' (.next hig I e1 e2)⟩
      | true =>
        simp only [if_true]
        exact wpAny_bind (wpAny_rule (wpAny_pure (hR true s' ⟨σ', H', I, k1 rfl⟩)))
theorem call_allG (hig : ∀ h : Heap, h.get? a = some oa → h.IsGen a gno) (hh : A.handled = none) (hroom : A.depth < recursionLimit) {E : Value → Shared → Prop} {Q : Value → Shared → Prop} (hQ : ∀ b s', GFin Y [(a, oa)] Qb b s' → Q (.bool b) s') {n : Nat} {s : Shared} (S : GSleep Y false Qb A a oa gno n s) :
    wpAny (model Y.prog Y.w) A (call (.builtin "all") [.ref a]) Q E s := by
  refine call_function_tree F.kind_all F.plain_all F.entry_all (F.args_all1 _) ?_
  unfold Builtin.«all»
  refine wpAny_bind (m := oneArg "all" _) (wpAny_pure ?_)
  refine wpAny_bind (wpAny_pyIter_gen S.gen ?_)
  exact wpAny_pure ⟨plainId_quiet F.plain_all_loop _, gen_all hig hh hroom (fun b s' f => hQ b s' f) n s S⟩
theorem call_anyG (hig : ∀ h : Heap, h.get? a = some oa → h.IsGen a gno) (hh : A.handled = none) (hroom : A.depth < recursionLimit) {E : Value → Shared → Prop} {Q : Value → Shared → Prop} (hQ : ∀ b s', GFin Y [(a, oa)] Qb b s' → Q (.bool b) s') {n : Nat} {s : Shared} (S : GSleep Y true Qb A a oa gno n s) :
    wpAny (model Y.prog Y.w) A (call (.builtin "any") [.ref a]) Q E s := by
  refine call_function_tree F.kind_any F.plain_any F.entry_any (F.args_any1 _) ?_
  unfold Builtin.«any»
  refine wpAny_bind (m := oneArg "any" _) (wpAny_pure ?_)
  refine wpAny_bind (wpAny_pyIter_gen S.gen ?_)
  exact wpAny_pure ⟨plainId_quiet F.plain_any_loop _, gen_any hig hh hroom (fun b s' f => hQ b s' f) n s S⟩
end
end Pi
end
section
set_option Elab.async false
set_option linter.all false
set_option maxRecDepth 100000
set_option maxHeartbeats 2000000
/-! Pure data over the hand layer: all and any of a generator expression of one clause. -/
namespace Pi
open PySem PySem.Spec PyProof.Rows L2
theorem gOk_by {N : List Str} {sc scope : Scope} {own : List (Str × Nat)} (h : genC N sc scope own = true) : GOk N sc scope own := by
  unfold genC at h
  simp only [Bool.and_eq_true, List.all_eq_true, decide_eq_true_eq, Bool.not_eq_true'] at h
  obtain ⟨⟨⟨⟨h1, h2⟩, h3⟩, h4⟩, h5⟩ := h
  refine ⟨?_, h2, fun y hy e => ?_, ?_, h4, fun y hy e => ?_, fun y hy e => ?_⟩
  · split at h1
    · assumption
    · cases h1
  · have := h5 y hy
    rw [e] at this
    cases this
  · split at h3
    · assumption
    · cases h3
  · have := h5 y hy
    rw [e] at this
    simp only at this
    split at this
    · rename_i q; exact .inl q
    · rename_i q; exact .inr q
    · cases this
  · have := h5 y hy
    rw [e] at this
    simpa using this
theorem fold_gen {iter : Expr} {env : Env} (h1 : ∀ x, foldedSetIterable iter env x = pure x) (h2 : ∀ es p, iter ≠ .List es p) (x : Value) : genFold iter env x = pure x := by
  cases iter <;> first | exact h1 x | exact absurd rfl (h2 _ _)
/-- all(..), any(..) -/
def tGen (P : Addr) (stop : Bool) (wi : TI) (g : TG) (tt : TT) (te : TE) (vs : List Nat) : TE := fun σ H Q => wi σ H fun J H1 => GxR.TabG H1 P ∧ ∀ H2, GxR.Tabbed P H1 H2 → ∃ W : Nat → Nat → Hp → Prop, (∃ m, W 0 m H2) ∧ GTurns stop J g tt te vs σ (fun b H' => Q (.bl b) H') W
/-- the arounds in which the generator's frame runs -/
def GAr (X : Cx) (A : Around) : Prop := A.handled = none ∧ A.depth ≤ X.A.depth + 1 ∧ A.units ≤ X.A.units + 8
abbrev Gens (X : Cx) (sc : Scope) (P : Cx → Prop) : Prop := ∀ (A : Around) (s : Shared) (H : Hp) (C : Addr) (code : Value) (fp : List Addr), GAr X A → P (genCx X A s H (genE X sc C code) fp)
section
variable {X : Cx} {pins : List (Addr × Obj)} {σ : L2.St} {H : Hp} {s : Shared}
/-- the generator at a, ready to be walked -/
def GReady (X : Cx) (pins : List (Addr × Obj)) (σ : L2.St) (stop : Bool) (Qb : Bool → Hp → Prop) (a : Addr) (s5 : Shared) : Prop :=
  ∃ (Y : Cx) (oa : Obj) (gno n : Nat), Y.prog = X.prog ∧ Y.w = X.w ∧ (∀ h : Heap, h.get? a = some oa → h.IsGen a gno) ∧ GSleep Y stop Qb X.A a oa gno n s5 ∧ ∀ b s', GFin Y [(a, oa)] Qb b s' → ∃ H', Inv X pins σ H' s' ∧ Qb b H'
theorem gen_make {c P : Addr} {stop : Bool} {elt tg iter : Expr} {ifs : List Expr} {gpos : Pos} {scope : Scope} {own : List (Str × Nat)} {wi : TI} {g : TG} {tt : TT} {te : TE} {Q : VK} {Q' : Value → Shared → Prop}
    (hc : X.calm = true) (hdp : X.A.depth < recursionLimit) (hN : X.N.Nodup) (TB : GxR.TabB X.base X.mg c P) (hcode : X.env.code = .ref c) (ok : GOk X.N X.env.scope scope own) (hi : PI X tg iter wi)
    (hg : Gens X scope fun Y => PG Y tg g) (ht : Gens X scope fun Y => PTs Y ifs tt) (he : Gens X scope fun Y => PE Y elt te) (hs : ∀ x, genFold iter X.env x = pure x)
    (I : Inv X pins σ H s) (h : tGen P stop wi g tt te (own.map (·.2)) σ H Q) (hQ : ∀ a s5, GReady X pins σ stop (fun b H' => Q (.bl b) H') a s5 → Q' (.ref a) s5) :
    wpAny (model X.prog X.w) X.A (eval (.GeneratorExp elt [⟨tg, iter, ifs, 0⟩] scope gpos) X.env) Q' X.xe s := by
  have hfree : ∀ y ∈ scope.names, y.2 = .free → ∃ c, X.env.cells.lookup y.1 = some c := fun y hy e => by
    rcases ok.free y hy e with k | k
    · exact I.ok.has _ (.inl k)
    · exact I.ok.has _ (.inr k)
  refine wpAny_GeneratorExp_make ok.co (closure_ok hfree) ok.nocell ok.dot ok.kind hdp ?_ hs
  refine thn (hi.run pins s σ H _ I h) fun xv s1 hx => thn hx fun itv s2 h2 => ?_
  obtain ⟨it, fp, tn, J, H2, e, I2, T, st2, f2, ⟨ps, hP, hps⟩, q⟩ := h2
  subst e
  refine ⟨I2.nolimit, ?_⟩
  have hPs : s2.heap.get? P = some { cls := .none, data := .fields ps } := I2.hok P _ hP
  have cd : PySem.W.CodeHd s2.heap c P := TB.code.keeps I2.bk
  have sz : ∀ b ∈ fp, b < s2.heap.objs.size := fun b hb => by
    obtain ⟨o, e, _⟩ := T.obj _ _ st2 b hb
    exact Heap.lt_size e
  have cont : ∀ (code : Value) (h3 : Heap) (tk : Nat) (H3 : Hp), Inv X pins σ H3 { s2 with heap := h3, toks := tk } → GxR.Tabbed P H2 H3 → s2.heap.objs.size ≤ h3.objs.size → (∀ b u, b ≠ P → s2.heap.get? b = some u → h3.get? b = some u) →
      wpAny (model X.prog X.w) X.A (builtinsFor X.env.globals X.env.builtins) (fun bi s₄ =>
        ∀ h', h'.Ns s₄.heap.objs.size (fun y => if y = ".0" then some (.ref it) else none) → Heap.SameBut s₄.heap.objs.size (s₄.heap.push { cls := .type "frame", data := .dict #[] }) h' →
          Q' (.ref h'.objs.size) { s₄ with
            gens := s₄.gens.push (.fresh (.compStart (.GeneratorExp elt [⟨tg, iter, ifs, 0⟩] scope gpos) 0 (.ref it) .none (genEnv scope (cloFrom X.env.cells scope.names []) s₄.heap.objs.size code bi X.env))),
            toks := s₄.toks + 1 + 1 + 1,
            heap := h'.push { cls := .type "generator", data := .fields #[.int s₄.gens.size 0, .str "<genexpr>" (s₄.toks + 1), .str (X.env.qual ++ "<genexpr>") (s₄.toks + 1 + 1)] } }) X.xe { s2 with heap := h3, toks := tk } := by
    intro code h3 tk H3 I3 hT hsz hk3
    obtain ⟨bm, ob, e1, e2, e3, e4, e5, e6, e7, e8⟩ := TB.bm
    refine wpAny_builtinsFor (m := X.mg) (by rw [I3.ok.glob]; exact I3.mod.glob.keeps I3.bk) e1 e2 (I3.bk _ _ e5) e6 e7 e8 ?_
    intro h' hn' hs'
    obtain ⟨W, ⟨m0, w0⟩, tu⟩ := q H3 hT
    have nfp : ∀ b ∈ fp, b ≠ P := fun b hb z => by
      have h0 := (f2 b hb).1
      rw [z, hP] at h0
      cases h0
    have f3 : ∀ b ∈ fp, FpOk X pins H3 b ∧ b < h3.objs.size := fun b hb =>
      ⟨⟨by rw [hT.2 b (nfp b hb)]; exact (f2 b hb).1, (f2 b hb).2⟩, Nat.lt_of_lt_of_le (sz b hb) hsz⟩
    have st3 : tn 0 h3 := T.keep _ _ _ st2 fun b hb o e => hk3 b o (nfp b hb) e
    have oz : (X.A.in1.in1.over (.compLoop (.GeneratorExp elt [⟨tg, iter, ifs, 0⟩] scope gpos) 0 (.ref it) .none (genE X scope h3.objs.size code)) []).frames = some (genE X scope h3.objs.size code :: X.stack) := by
      show pushEnvs [genE X scope h3.objs.size code] (pushEnvs [] X.A.frames) = _
      rw [I3.ok.frames]
      rfl
    have oh : (X.A.in1.in1.over (.compLoop (.GeneratorExp elt [⟨tg, iter, ifs, 0⟩] scope gpos) 0 (.ref it) .none (genE X scope h3.objs.size code)) []).handled = none := I3.ok.hd hc
    have ar : GAr X (X.A.in1.in1.over (.compLoop (.GeneratorExp elt [⟨tg, iter, ifs, 0⟩] scope gpos) 0 (.ref it) .none (genE X scope h3.objs.size code)) []) := by
      refine ⟨oh, ?_, ?_⟩
      · show X.A.depth + 0 + 1 ≤ X.A.depth + 1
        omega
      · show X.A.units + 1 + 1 + 0 + 3 ≤ X.A.units + 8
        omega
    have I5 := gen_start (fp := fp) (itv := .ref it) (oa := { cls := .type "generator", data := .fields #[.int s2.gens.size 0, .str "<genexpr>" (tk + 1), .str (X.env.qual ++ "<genexpr>") (tk + 1 + 1)] })
      (gs := .fresh (.compStart (.GeneratorExp elt [⟨tg, iter, ifs, 0⟩] scope gpos) 0 (.ref it) .none (genE X scope h3.objs.size code))) (tk := tk + 1 + 1 + 1) I3 ok hN f3 oz oh hn' hs' (fun v z => by cases z) rfl rfl
    have kp0 : ∀ b o, h3.get? b = some o → h'.get? b = some o := fun b o e => hs'.extBut b o (Nat.ne_of_lt (Heap.lt_size e)) (Heap.get?_push_of_some _ e)
    have kp : ∀ b o, h3.get? b = some o → (h'.push { cls := .type "generator", data := .fields #[.int s2.gens.size 0, .str "<genexpr>" (tk + 1), .str (X.env.qual ++ "<genexpr>") (tk + 1 + 1)] }).get? b = some o := fun b o e => Heap.get?_push_of_some _ (kp0 b o e)
    have sz' : h'.objs.size = h3.objs.size + 1 := by
      have := hs'.1
      rw [this, Heap.size_push]
    have hig : ∀ h : Heap, h.get? h'.objs.size = some { cls := .type "generator", data := .fields #[.int s2.gens.size 0, .str "<genexpr>" (tk + 1), .str (X.env.qual ++ "<genexpr>") (tk + 1 + 1)] } → h.IsGen h'.objs.size s2.gens.size := fun h e => ⟨_, _, _, e, rfl, rfl, rfl⟩
    refine hQ _ _ ⟨genCx X (X.A.in1.in1.over (.compLoop (.GeneratorExp elt [⟨tg, iter, ifs, 0⟩] scope gpos) 0 (.ref it) .none (genE X scope h3.objs.size code)) []) { s2 with heap := h3, toks := tk } H3 (genE X scope h3.objs.size code) fp, { cls := .type "generator", data := .fields #[.int s2.gens.size 0, .str "<genexpr>" (tk + 1), .str (X.env.qual ++ "<genexpr>") (tk + 1 + 1)] }, s2.gens.size, m0 + 1, rfl, rfl,
      hig, ⟨I5.nolimit, hig _ (I5.pin (h'.objs.size, { cls := .type "generator", data := .fields #[.int s2.gens.size 0, .str "<genexpr>" (tk + 1), .str (X.env.qual ++ "<genexpr>") (tk + 1 + 1)] }) (by simp)).1, I5.bare, _, Array.getElem?_push_size .., rfl, ?_⟩, fun b s' ⟨σ', H', I6, qq⟩ => ⟨H', I3.call' (ch := fp) I6.os I6.base I6.hok I6.bare fun b hb => ⟨(f3 b hb).1.2.2.2.1, (f3 b hb).1.2.1, (f3 b hb).1.2.2.2.2.1, (f3 b hb).1.2.2.2.2.2⟩, qq⟩⟩
    have I6 := Inv.moved (s' := ({ s2 with heap := h'.push { cls := .type "generator", data := .fields #[.int s2.gens.size 0, .str "<genexpr>" (tk + 1), .str (X.env.qual ++ "<genexpr>") (tk + 1 + 1)] }, gens := s2.gens.push (.fresh (.compStart (.GeneratorExp elt [⟨tg, iter, ifs, 0⟩] scope gpos) 0 (.ref it) .none (genE X scope h3.objs.size code))), toks := tk + 1 + 1 + 1 } : Shared).setGen s2.gens.size .running) I5 (fun _ _ e => e) rfl (bare_set I5.bare rfl)
    refine gen_seg0 (Y := genCx X (X.A.in1.in1.over (.compLoop (.GeneratorExp elt [⟨tg, iter, ifs, 0⟩] scope gpos) 0 (.ref it) .none (genE X scope h3.objs.size code)) []) { s2 with heap := h3, toks := tk } H3 (genE X scope h3.objs.size code) fp) (fp := fp) (J := J) (tn := tn) (vs := own.map (·.2)) (σ := σ) (W := W) (m := m0) (H := H3) (tt := tt) (te := te) (g := g) rfl rfl rfl rfl ok.co T (fun b hb => ?_) (hg _ _ _ _ _ _ ar) (ht _ _ _ _ _ _ ar) (he _ _ _ _ _ _ ar) tu rfl (Nat.lt_succ_self _) w0 I6 ?_ fun b hb => (f3 b hb).1.1
    · intro z
      have h9 : b < h3.objs.size := (f3 b hb).2
      rw [← z] at h9
      have h10 : h'.objs.size < h3.objs.size := h9
      rw [sz'] at h10
      exact absurd (Nat.lt_of_succ_lt h10) (Nat.lt_irrefl _)
    · exact T.keep _ _ _ st3 fun b _ o e => kp b o e
  cases hf : codeAmong gpos ps.toList with
  | none =>
    refine wpAny_genexprCodeX hcode (cd.code hPs hps) (cd.tab hPs) hf fun c' h' tk hx hge hlt hco' _ htab' _ => ?_
    obtain ⟨o1, vs, f1, tf, fl, tg', inF, tx, tt', op, _, _, _, _, _, _, _, _, _, htr, _⟩ := hco'
    have hk : ∀ b u, b ≠ P → s2.heap.get? b = some u → h'.get? b = some u := fun b u hb e => hx b u hb e
    have I3 := GxR.inv_tab (g' := s2.gens) (d' := s2.drawn) (t' := tk) I2 hP hk htab'.2 I2.bare
    exact cont _ h' tk _ I3 ⟨⟨_, upd_same, htr⟩, fun b hb => upd_ne hb⟩ (Nat.le_trans hge (Nat.le_of_lt hlt)) hk
  | some cv =>
    refine wpAny_genexprCode_hit hcode (cd.code hPs hps) hf ?_
    exact cont cv s2.heap s2.toks H2 I2 ⟨⟨ps, hP, hps⟩, fun _ _ => rfl⟩ (Nat.le_refl _) fun _ _ _ e => e
theorem pe_gen {c P : Addr} {stop : Bool} {elt tg iter : Expr} {ifs : List Expr} {p gpos pos : Pos} {scope : Scope} {own : List (Str × Nat)} {wi : TI} {g : TG} {tt : TT} {te : TE}
    (hc : X.calm = true) (hdp : X.A.depth < recursionLimit) (hN : X.N.Nodup) (TB : GxR.TabB X.base X.mg c P) (hcode : X.env.code = .ref c) (ok : GOk X.N X.env.scope scope own) (hi : PI X tg iter wi)
    (hg : Gens X scope fun Y => PG Y tg g) (ht : Gens X scope fun Y => PTs Y ifs tt) (he : Gens X scope fun Y => PE Y elt te) (hs : ∀ x, genFold iter X.env x = pure x)
    {x : Str} (hx : x = Str.ofString (if stop then "any" else "all")) (hgl : Gl X x) (hm : X.mg x = none) (hn : x ≠ "__name__") (hdb : (x == ("__debug__" : Str)) = false) :
    PE X (.Call (.Name x p) [.GeneratorExp elt [⟨tg, iter, ifs, 0⟩] scope gpos] [] pos) (tGen P stop wi g tt te (own.map (·.2))) := by
  refine ⟨fun pins s σ H Q I h => ?_⟩
  have he' : starEach [.GeneratorExp elt [⟨tg, iter, ifs, 0⟩] scope gpos] X.env = (false, eval (.GeneratorExp elt [⟨tg, iter, ifs, 0⟩] scope gpos) X.env) :: starEach [] X.env := by rfl
  cases stop with
  | false =>
    subst hx
    refine wpAny_Call_Name_kw (ld_blt I hgl hm (show bootBuiltins (Str.ofString "all") = some (.builtin "all") from by decide) ?_ hn hdb)
    refine PyProof.Rows.callWith_builtin1 ?_ he' (by rfl)
    rw [he']
    show wpAny _ _ (spliced ((false, eval (.GeneratorExp elt [⟨tg, iter, ifs, 0⟩] scope gpos) X.env) :: backTo pos (starEach [] X.env))) _ _ s
    refine Calls.spliced_cons (gen_make hc hdp hN TB hcode ok hi hg ht he hs I h fun a s5 hR => ?_)
    obtain ⟨Y, oa, gno, n, e1, e2, hig, S, hfin⟩ := hR
    refine Calls.spliced_nil ?_
    have := call_allG (A := X.A) (E := X.xe) (Q := fun u s' => EP X pins σ Q u s') hig (I.ok.hd hc) hdp (fun b s' f => by
      obtain ⟨H', I', q⟩ := hfin b s' f
      exact ⟨.bl b, H', I', rfl, q⟩) S
    rw [e1, e2] at this
    exact this
  | true =>
    subst hx
    refine wpAny_Call_Name_kw (ld_blt I hgl hm (show bootBuiltins (Str.ofString "any") = some (.builtin "any") from by decide) ?_ hn hdb)
    refine PyProof.Rows.callWith_builtin1 ?_ he' (by rfl)
    rw [he']
    show wpAny _ _ (spliced ((false, eval (.GeneratorExp elt [⟨tg, iter, ifs, 0⟩] scope gpos) X.env) :: backTo pos (starEach [] X.env))) _ _ s
    refine Calls.spliced_cons (gen_make hc hdp hN TB hcode ok hi hg ht he hs I h fun a s5 hR => ?_)
    obtain ⟨Y, oa, gno, n, e1, e2, hig, S, hfin⟩ := hR
    refine Calls.spliced_nil ?_
    have := call_anyG (A := X.A) (E := X.xe) (Q := fun u s' => EP X pins σ Q u s') hig (I.ok.hd hc) hdp (fun b s' f => by
      obtain ⟨H', I', q⟩ := hfin b s' f
      exact ⟨.bl b, H', I', rfl, q⟩) S
    rw [e1, e2] at this
    exact this
end
/-! ### the reading -/
section
variable {Γ : Gm} {ts : List Addr} {X : Cx} {c : Cc}
theorem seek_cons {stop : Bool} {f : PyData → Option Bool} {d : PyData} {ds : List PyData} {r : Bool} (h : seek stop f (d :: ds) = some r) : ∃ b, f d = some b ∧ ((b = stop ∧ r = stop) ∨ (b ≠ stop ∧ seek stop f ds = some r)) := by
  unfold seek at h
  rw [Option.bind_eq_some_iff] at h
  obtain ⟨b, h1, h2⟩ := h
  refine ⟨b, h1, ?_⟩
  by_cases e : b = stop
  · rw [if_pos e] at h2
    exact .inl ⟨e, (Option.some.inj h2).symm⟩
  · rw [if_neg e] at h2
    exact .inr ⟨e, h2⟩
theorem grow_tab {P : Addr} {F H H2 : Hp} (f : Fz ts F H) (hP : P ∈ ts) (h : GxR.Tabbed P H H2) : Grow ts F H F H2 where
  ff := fun _ _ e => e
  fh := fun a o e => by
    by_cases z : a = P
    · subst z
      rw [f.dis a hP] at e; cases e
    · rw [h.2 a z]; exact f.sub a o e
  hh := fun a o n e => by
    rw [h.2 a (fun z => n (by rw [z]; exact hP))]; exact e
  nw := fun _ _ e => .inl e
  tb := fun Q hQ => by
    by_cases z : Q = P
    · rw [z]; exact h.1
    · obtain ⟨ps, e, r⟩ := f.tab Q hQ
      exact ⟨ps, by rw [h.2 Q z]; exact e, r⟩
theorem gen1_rd {N : List Str} {P : Addr} (hP : P ∈ ts) {stop : Bool} {own : List Nat} {t : T} {it : I} {ifs : List E} {elt : E} (hown : tgIn own t = true) : ∀ σ H Q, uE Γ ts (.gen stop own elt [.mk t it ifs]) σ H Q → tGen P stop (uI Γ ts false it) (uG ts t) (uTs Γ ts ifs) (uV Γ ts elt) ((ownP N own).map (·.2)) σ H Q := fun σ H Q ⟨ρ, r, F, h1, rep, q⟩ => by
  unfold evE at h1
  rw [Option.map_eq_some_iff] at h1
  obtain ⟨res, h1, rfl⟩ := h1
  unfold evG at h1
  rw [Option.bind_eq_some_iff] at h1
  obtain ⟨items, h2, h3⟩ := h1
  refine ⟨ρ, items, F, h2, rep, fun J F1 H1 g1 wk => ?_⟩
  have f1 := g1.fz rep.fz
  refine ⟨f1.tab P hP, fun H2 hT => ?_⟩
  have gT := grow_tab f1 hP hT
  refine ⟨fun i m H' => m = items.length - i ∧ i ≤ items.length ∧ ∃ F', Grow ts F1 H1 F' H' ∧ seek stop (fun d => (asg t d (wipeC (wipeC ρ own) (slotsL t))).bind fun ρ' => (evT Γ ρ' ifs).bind fun b => if b then evG Γ stop (fun ρ' => ((evE Γ ρ' elt).map Res.dat).bind boolD) true ρ' ρ' [] else some (!stop)) (items.drop i) = some res,
    ⟨items.length, by simp, Nat.zero_le _, F1, gT, by simpa using h3⟩, fun i m H' ⟨hm, hin, F', g2, d4⟩ => ?_⟩
  by_cases hlt : i < items.length
  · refine .inr ⟨wk.go i F' H' hlt (g2.md f1 false), fun H'' => ∃ F'', Grow ts F1 H1 F'' H'' ∧ seek stop (fun d => (asg t d (wipeC (wipeC ρ own) (slotsL t))).bind fun ρ' => (evT Γ ρ' ifs).bind fun b => if b then evG Γ stop (fun ρ' => ((evE Γ ρ' elt).map Res.dat).bind boolD) true ρ' ρ' [] else some (!stop)) (items.drop (i + 1)) = some res, fun H'' hN => ⟨items.length - (i + 1), by omega, rfl, hlt, hN⟩, fun x H'' hy => ?_⟩
    obtain ⟨d, F2, e1, g3, k3⟩ := wk.yld i F' H' x H'' hlt (g2.md f1 false) hy
    have hdrop : items.drop i = d :: items.drop (i + 1) := by
      obtain ⟨hh, e⟩ := List.getElem?_eq_some_iff.mp e1
      rw [← e]; exact List.drop_eq_getElem_cons hh
    rw [hdrop] at d4
    obtain ⟨b0, c1, c2⟩ := seek_cons d4
    simp only [Option.bind_eq_some_iff] at c1
    obtain ⟨ρ2, c3, b, c4, c5⟩ := c1
    have f' := g2.fz f1
    have rep2 : Rep ts ρ σ F2 H'' := ((rep.grow g1).grow g2).grow g3
    have g23 := g2.trans f1.tab g3
    have f2 := g3.fz f'
    rw [own_snd]
    refine ⟨wipeC (wipeC ρ own) (slotsL t), d, ρ2, F2, c3, (rep2.wiped own).forget _, k3, fun σ2 r2 s2 => ⟨wipe_same ?_ (fun i => slotsL_own hown) s2, ρ2, b, F2, c4, r2, fun F3 H3 g4 => ?_⟩⟩
    · have a1 := r2.len
      have a2 := asg_len c3
      rw [← a1, a2, wipeC_len, wipeC_len]; exact rep2.len
    have g24 := g23.trans f1.tab g4
    have f3 := g4.fz f2
    refine ite2 (fun hb2 => ?_) (fun hb2 => ?_)
    · rw [if_pos hb2] at c5
      unfold evG at c5
      rw [Option.bind_eq_some_iff] at c5
      obtain ⟨d5, c5, c6⟩ := c5
      refine ⟨ρ2, d5, F3, c5, r2.grow g4, fun y F4 H4 g5 k5 => ?_⟩
      have g25 := g24.trans f1.tab g5
      cases d5 <;> simp only [boolD, reduceCtorEq, Option.some.injEq] at c6
      subst c6
      cases k5
      refine ⟨_, rfl, fun e => ?_, fun e => ?_⟩
      · rcases c2 with ⟨_, z⟩ | ⟨z, _⟩
        · subst z
          exact q _ F4 H4 (g1.trans rep.fz.tab g25) (.bl _)
        · exact absurd e z
      · rcases c2 with ⟨z, _⟩ | ⟨_, z⟩
        · exact absurd z e
        · exact ⟨F4, g25, z⟩
    · rw [if_neg hb2] at c5
      cases c5
      rcases c2 with ⟨z, _⟩ | ⟨_, z⟩
      · cases stop <;> cases z
      · exact ⟨F3, g24, z⟩
  · have e : i = items.length := by omega
    subst e
    rw [List.drop_length] at d4
    unfold seek at d4
    cases d4
    exact .inl ⟨wk.stop F' H' (g2.md f1 false), q _ F' H' (g1.trans rep.fz.tab g2) (.bl _)⟩
/-- the context of the generator's frame -/
theorem Good.gn (G : Good X ts Γ c) (sc : Scope) (hk : sc.kind = .function) (hn : ∀ y ∈ sc.names, y.2 ≠ .cell) (h0 : 0 < c.g) : Gens X sc fun Y => Good Y ts Γ (c.gen sc) := fun A s H C code fp ar =>
  { hN := G.hN
    hsc := rfl
    nd := G.nd
    calm := rfl
    nox := rfl
    kind := hk
    fn := fun x hx => by
      have : sc.names.lookup x = some .cell := hx
      exact absurd rfl (hn _ (PySem.mem_of_lookup this))
    bs := G.bs
    un := by
      have h1 := G.un
      have h2 := ar.2.2
      show A.units + 16 * (c.g - 1) + 100 < _
      omega
    dp := by
      have h1 := G.dp
      have h2 := ar.2.1
      show A.depth + 3 * (c.g - 1) + 3 < _
      omega
    tb := fun z => by cases z
    fs := fun x f hx => by
      obtain ⟨fa, fd, ps, k, h1, h2, h3, h4, h5, h6⟩ := G.fs x f hx
      refine ⟨fa, fd, ps, k, h1, h2, h3, ⟨ar.1, ?_, ?_⟩, h5, h6⟩
      · have := h4.dp
        have h9 := ar.2.1
        show A.depth + 3 * (k + (c.g - 1)) + 5 < _
        omega
      · have := h4.un
        have h9 := ar.2.2
        show A.units + 16 * (k + (c.g - 1)) + 200 < _
        omega }
theorem gen1_ok (G : Good X ts Γ c) {stop : Bool} {own : List Nat} {t : T} {it : I} {ifs : List E} {elt : E} {tg iter eltE : Expr} {ifsE : List Expr} {sc : Scope} {x : Str} {p gpos pos : Pos} (hb : blt c x (if stop then "any" else "all") = true) (htb : c.tb = true) (ok : genC c.N c.sc sc (ownP c.N own) = true) (hown : tgIn own t = true)
    (hi : PI X tg iter (uI Γ ts false it)) (hg : Gens X sc fun Y => PG Y tg (uG ts t)) (ht : Gens X sc fun Y => PTs Y ifsE (uTs Γ ts ifs)) (he : Gens X sc fun Y => PE Y eltE (uV Γ ts elt)) (hs : ∀ x, foldedSetIterable iter X.env x = pure x) (hl : ∀ es p, iter ≠ .List es p) :
    PE X (.Call (.Name x p) [.GeneratorExp eltE [⟨tg, iter, ifsE, 0⟩] sc gpos] [] pos) (uE Γ ts (.gen stop own elt [.mk t it ifs])) := by
  obtain ⟨k0, k1, k2, k3, k4⟩ := blt_ok G hb
  obtain ⟨cc, P, e1, e2, e3⟩ := G.tb htb
  have hb : GOk X.N X.env.scope sc (ownP c.N own) := by rw [G.hN, G.hsc]; exact gOk_by ok
  have hdp : X.A.depth < recursionLimit := by have := G.dp; omega
  exact pe_weak (pe_gen G.calm hdp G.nd e2 e1 hb hi hg ht he (fold_gen hs hl) k0 k1 k2 k4 k3) (gen1_rd e3 hown)
end
end Pi
end
section
set_option Elab.async false
set_option linter.all false
set_option maxRecDepth 100000
set_option maxHeartbeats 2000000
/-! Pure data over the hand layer: sorted with a def as the key, the rule. -/
namespace Pi
open PySem PySem.Spec PyProof.Rows L2
def rSK (ts : List Addr) (fa : Addr) (f : List PyData → Option Res) : List V → List V → Hp → VK → Prop := fun xs zs H Q => zs = [.ref fa] ∧ ∃ F ds r, Fz ts F H ∧ BRs F H xs [.list ds] ∧ sortKeyD f ds = some r ∧ ∀ v F' H', Grow ts F H F' H' → RR H F' H' v r → Q v H'
section
variable {Γ : Gm} {ts : List Addr} {X : Cx} {c : Cc}
theorem sortKey_ok (G : Good X ts Γ c) {x y : Str} {p py pos kp : Pos} {e : Expr} {ia : E} {f : Nat} (hx : blt c x "sorted" = true) (hy : c.fs.lookup y = some f) (hgy : glB c.sc y = true) (hdy : (!dbg y) = true) (h0 : 0 < c.g) (hc : chkE c ia e = true) (h : PE X e (uB Γ ts ia)) :
    PE X (.Call (.Name x p) [e] [⟨some "key", .Name y py, kp⟩] pos) (uE Γ ts (.sortKey f ia)) := by
  obtain ⟨rfl, k1, k2, k3, k4⟩ := blt_ok G hx
  obtain ⟨d1, d2, d3⟩ := dbg_ok hdy
  obtain ⟨fa, fd, ps, k, h1, h2, h3, h4, h5, h6⟩ := G.fs y f hy
  have hr : Room k X.A.in1.in1 := by
    refine ⟨h4.hd, ?_, ?_⟩
    · have := h4.dp
      show X.A.depth + 3 * k + 5 < _
      omega
    · have := h4.un
      show X.A.units + 1 + 1 + 16 * k + 200 < _
      omega
  have cr : CallRK X (.builtin "sorted") [Str.ofString "key"] (rSK ts fa (Γ.call f)) := by
    intro pins s σ H xs zs us ws Q I rv rz ⟨ez, F, ds, r, fz, a0, hs, q⟩
    subst ez
    obtain rfl := Vals.ref1 rz
    obtain ⟨x, rfl, a⟩ := a0.one
    obtain ⟨p, vs, rfl, a2, a3⟩ := BR_list fz a
    obtain rfl := Vals.ref1 rv
    exact sortKey_run G.calm G.hu hr h6 h3 h5 I fz a2 a3 hs q
  have hst := star_of hc (env := X.env) []
  refine pe_weak (pe_callBK cr k1 k2 (show bootBuiltins (Str.ofString "sorted") = some (.builtin "sorted") from by decide) (pa_cons h pa_nil hst) (pk_cons (pe_glob (v := .ref fa) (glB_ok G hgy) h1 rfl d1) pk_nil) k4 k3 (by rw [hst]; rfl) (by rw [hst]; rfl)) fun σ H Q ⟨ρ, r, F, e1, rep, q⟩ => ?_
  unfold evE at e1
  simp only [Option.bind_eq_some_iff] at e1
  obtain ⟨ds, ⟨d, e1, e2⟩, e3⟩ := e1
  cases d <;> simp only [listD, reduceCtorEq, Option.some.injEq] at e2
  subst e2
  refine ⟨ρ, _, F, e1, rep, fun v F' H' g k => ?_⟩
  have hcons : ∀ vs : List V, vs = [] → (fun (us : List V) (H1 : Hp) => True) vs H' := fun _ _ => trivial
  refine ⟨rfl, F', _, r, g.fz rep.fz, .cons k .nil, e3, fun v F2 H2 g2 k2 => q v F2 H2 (g.trans rep.fz.tab g2) (k2.back rep.fz.tab g)⟩
end
end Pi
end
section
set_option Elab.async false
set_option linter.all false
set_option maxRecDepth 100000
set_option maxHeartbeats 4000000
/-! Pure data over the hand layer: every expression that passes the look. -/
namespace Pi
open PySem PySem.Spec PyProof.Rows L2
section
variable {c : Cc} {e : Expr}
theorem inv_neg {a : E} (h : chkE c (.neg a) e = true) : ∃ x p, e = .UnaryOp .USub x p ∧ chkE c a x = true := by
  cases e <;> try (simp [chkE] at h; done)
  rename_i op x p
  cases op <;> first | exact ⟨x, p, rfl, by simpa [chkE] using h⟩ | simp [chkE] at h
theorem inv_not {a : E} (h : chkE c (.not a) e = true) : ∃ x p, e = .UnaryOp .Not x p ∧ chkE c a x = true := by
  cases e <;> try (simp [chkE] at h; done)
  rename_i op x p
  cases op <;> first | exact ⟨x, p, rfl, by simpa [chkE] using h⟩ | simp [chkE] at h
theorem inv_cmp {op : CmpOp} {a b : E} (h : chkE c (.cmp op a b) e = true) : ∃ l r p, e = .Compare l [op] [r] p ∧ behindInMarks op r = false ∧ chkE c a l = true ∧ chkE c b r = true := by
  cases e <;> try (simp [chkE] at h; done)
  rename_i l ops es p
  match ops, es, h with
  | [o], [r], h =>
    simp only [chkE, Bool.and_eq_true, decide_eq_true_eq, Bool.not_eq_true'] at h
    obtain ⟨⟨⟨rfl, h1⟩, h2⟩, h3⟩ := h
    exact ⟨l, r, p, rfl, h1, h2, h3⟩
  | [], _, h => simp [chkE] at h
  | _ :: _ :: _, _, h => simp [chkE] at h
  | [_], [], h => simp [chkE] at h
  | [_], _ :: _ :: _, h => simp [chkE] at h
theorem inv_and {a b : E} (h : chkE c (.and a b) e = true) : ∃ x y r p, e = .BoolOp .And (x :: y :: r) p ∧ chkE c a x = true ∧ ((r = [] ∧ chkE c b y = true) ∨ (r ≠ [] ∧ chkE c b (.BoolOp .And (y :: r) p) = true)) := by
  cases e <;> try (simp [chkE] at h; done)
  rename_i op vs p
  cases op with
  | And =>
    match vs, h with
    | [x, y], h =>
      simp only [chkE, Bool.and_eq_true] at h
      exact ⟨x, y, [], p, rfl, h.1, .inl ⟨rfl, h.2⟩⟩
    | x :: y :: z :: r, h =>
      simp only [chkE, Bool.and_eq_true] at h
      exact ⟨x, y, z :: r, p, rfl, h.1, .inr ⟨by simp, h.2⟩⟩
    | [], h => simp [chkE] at h
    | [_], h => simp [chkE] at h
  | Or => simp [chkE] at h
theorem inv_or {a b : E} (h : chkE c (.or a b) e = true) : ∃ x y r p, e = .BoolOp .Or (x :: y :: r) p ∧ chkE c a x = true ∧ ((r = [] ∧ chkE c b y = true) ∨ (r ≠ [] ∧ chkE c b (.BoolOp .Or (y :: r) p) = true)) := by
  cases e <;> try (simp [chkE] at h; done)
  rename_i op vs p
  cases op with
  | Or =>
    match vs, h with
    | [x, y], h =>
      simp only [chkE, Bool.and_eq_true] at h
      exact ⟨x, y, [], p, rfl, h.1, .inl ⟨rfl, h.2⟩⟩
    | x :: y :: z :: r, h =>
      simp only [chkE, Bool.and_eq_true] at h
      exact ⟨x, y, z :: r, p, rfl, h.1, .inr ⟨by simp, h.2⟩⟩
    | [], h => simp [chkE] at h
    | [_], h => simp [chkE] at h
  | And => simp [chkE] at h
theorem inv_sl {a : E} {lo hi : Option E} (h : chkE c (.sl a lo hi) e = true) : ∃ x l u p2 p, e = .Subscript x (.Slice l u none p2) p ∧ chkE c a x = true ∧ chkO c lo l = true ∧ chkO c hi u = true := by
  cases e <;> try (simp [chkE] at h; done)
  rename_i x s p
  cases s <;> try (simp [chkE] at h; done)
  rename_i l u st p2
  cases st with
  | none =>
    simp only [chkE, Bool.and_eq_true] at h
    exact ⟨x, l, u, p2, p, rfl, h.1.1, h.1.2, h.2⟩
  | some _ => simp [chkE] at h
theorem inv_ix {a i : E} (h : chkE c (.ix a i) e = true) : ∃ x y p, e = .Subscript x y p ∧ chkE c a x = true ∧ chkE c i y = true := by
  cases e <;> try (simp [chkE] at h; done)
  rename_i x s p
  simp only [chkE, Bool.and_eq_true] at h
  exact ⟨x, s, p, rfl, h.1, h.2⟩
theorem inv_call {f : Nat} {l : List E} (h : chkE c (.call f l) e = true) : ∃ x p es pos, e = .Call (.Name x p) es [] pos ∧ c.fs.lookup x = some f ∧ glB c.sc x = true ∧ (!dbg x) = true ∧ chkL c l es = true ∧ 0 < es.length := by
  cases e <;> try (simp [chkE] at h; done)
  rename_i fn es ks pos
  cases fn <;> try (simp [chkE] at h; done)
  rename_i x p
  cases ks with
  | nil =>
    simp only [chkE, Bool.and_eq_true, decide_eq_true_eq] at h
    exact ⟨x, p, es, pos, rfl, h.1.1.1.1, h.1.1.1.2, h.1.1.2, h.1.2, h.2⟩
  | cons _ _ => simp [chkE] at h
theorem inv_bi {b : Bi} {l : List E} (h : chkE c (.bi b l) e = true) : ∃ x p es pos, e = .Call (.Name x p) es [] pos ∧
    ((∃ t, isiT b = some t ∧ blt c x "isinstance" = true ∧ ∃ e' y p2, es = [e', .Name y p2] ∧ blt c y t = true ∧ chkL c l [e'] = true) ∨ (∃ f, biV b = some f ∧ blt c x (biN b) = true ∧ chkL c l es = true ∧ 0 < es.length)) := by
  cases e <;> try (simp [chkE] at h; done)
  rename_i fn es ks pos
  cases fn <;> try (simp [chkE] at h; done)
  rename_i x p
  cases ks with
  | nil =>
    simp only [chkE] at h
    refine ⟨x, p, es, pos, rfl, ?_⟩
    cases hi : isiT b with
    | some t =>
      rw [hi] at h
      simp only [Bool.and_eq_true] at h
      obtain ⟨h1, h2⟩ := h
      match es, h2 with
      | [e', .Name y p2], h2 =>
        simp only [Bool.and_eq_true] at h2
        exact .inl ⟨t, rfl, h1, e', y, p2, rfl, h2.1, h2.2⟩
    | none =>
      rw [hi] at h
      simp only [Bool.and_eq_true, decide_eq_true_eq, Option.isSome_iff_exists] at h
      obtain ⟨⟨⟨⟨f, h1⟩, h2⟩, h3⟩, h4⟩ := h
      exact .inr ⟨f, h1, h2, h3, h4⟩
  | cons _ _ => simp [chkE] at h
theorem inv_comp {own : List Nat} {elt : E} {cl : List C} (h : chkE c (.comp own elt cl) e = true) : ∃ x gs sc p, e = .ListComp x gs sc p ∧ blkC c.N c.sc sc (ownP c.N own) = true ∧ chkC c (c.inn sc) own cl gs = true ∧ chkE (c.inn sc) elt x = true ∧ 0 < cl.length ∧ cl.length ≤ 2 := by
  cases e <;> try (simp [chkE] at h; done)
  rename_i x gs sc p
  simp only [chkE, Bool.and_eq_true, decide_eq_true_eq] at h
  exact ⟨x, gs, sc, p, rfl, h.1.1.1.1, h.1.1.1.2, h.1.1.2, h.1.2, h.2⟩
theorem inv_gen {stop : Bool} {own : List Nat} {elt : E} {cl : List C} (h : chkE c (.gen stop own elt cl) e = true) : ∃ x p e' gs sc gp pos, e = .Call (.Name x p) [.GeneratorExp e' gs sc gp] [] pos ∧ blt c x (if stop then "any" else "all") = true ∧ c.tb = true ∧ 0 < c.g ∧ genC c.N c.sc sc (ownP c.N own) = true ∧ notLst gs = true ∧ chkC c (c.gen sc) own cl gs = true ∧ chkE (c.gen sc) elt e' = true ∧ cl.length = 1 := by
  cases e <;> try (simp [chkE] at h; done)
  rename_i fn es ks pos
  cases fn <;> try (simp [chkE] at h; done)
  rename_i x p
  match es, ks, h with
  | [g], [], h =>
    cases g <;> try (simp [chkE] at h; done)
    rename_i e' gs sc gp
    simp only [chkE, Bool.and_eq_true, decide_eq_true_eq] at h
    obtain ⟨⟨⟨⟨⟨⟨⟨h1, h2⟩, h3⟩, h4⟩, h5⟩, h6⟩, h7⟩, h8⟩ := h
    exact ⟨x, p, e', gs, sc, gp, pos, rfl, h1, h2, h3, h4, h5, h6, h7, h8⟩
  | [], _, h => simp [chkE] at h
  | [_], _ :: _, h => simp [chkE] at h
  | _ :: _ :: _, _, h => simp [chkE] at h
theorem inv_sk {f : Nat} {a : E} (h : chkE c (.sortKey f a) e = true) : ∃ x p e' y py kp pos, e = .Call (.Name x p) [e'] [⟨some "key", .Name y py, kp⟩] pos ∧ blt c x "sorted" = true ∧ c.fs.lookup y = some f ∧ glB c.sc y = true ∧ (!dbg y) = true ∧ 0 < c.g ∧ chkE c a e' = true := by
  cases e <;> try (simp [chkE] at h; done)
  rename_i fn es ks pos
  cases fn <;> try (simp [chkE] at h; done)
  rename_i x p
  match es, ks, h with
  | [e'], [⟨some k, g, kp⟩], h =>
    cases g <;> try (simp [chkE] at h; done)
    rename_i y py
    simp only [chkE, Bool.and_eq_true, decide_eq_true_eq] at h
    obtain ⟨⟨⟨⟨⟨⟨h1, rfl⟩, h3⟩, h4⟩, h5⟩, h6⟩, h7⟩ := h
    exact ⟨x, p, e', y, py, kp, pos, rfl, h1, h3, h4, h5, h6, h7⟩
  | [], _, h => simp [chkE] at h
  | [_], [], h => simp [chkE] at h
  | [_], [⟨none, _, _⟩], h => simp [chkE] at h
  | [_], _ :: _ :: _, h => simp [chkE] at h
  | _ :: _ :: _, _, h => simp [chkE] at h
theorem inv_chain {a : E} {r : Ch} (h : chkE c (.chain a r) e = true) : ∃ l ops es p, e = .Compare l ops es p ∧ r.isMore = true ∧ lastMarks ops es = false ∧ chkE c a l = true ∧ chkH c r ops es = true := by
  cases e <;> try (simp [chkE] at h; done)
  rename_i l ops es p
  simp only [chkE, Bool.and_eq_true, Bool.not_eq_true'] at h
  exact ⟨l, ops, es, p, rfl, h.1.1.1, h.1.1.2, h.1.2, h.2⟩
theorem inv_one {op : CmpOp} {b : E} {ops : List CmpOp} {es : List Expr} (h : chkH c (.one op b) ops es = true) : ∃ e, ops = [op] ∧ es = [e] ∧ chkE c b e = true := by
  match ops, es, h with
  | [o], [r], h =>
    simp only [chkH, Bool.and_eq_true, decide_eq_true_eq] at h
    obtain ⟨rfl, h⟩ := h
    exact ⟨r, rfl, rfl, h⟩
  | [], _, h => simp [chkH] at h
  | _ :: _ :: _, _, h => simp [chkH] at h
  | [_], [], h => simp [chkH] at h
  | [_], _ :: _ :: _, h => simp [chkH] at h
theorem inv_more {op : CmpOp} {b : E} {r : Ch} {ops : List CmpOp} {es : List Expr} (h : chkH c (.more op b r) ops es = true) : ∃ o2 os e e2 es', ops = op :: o2 :: os ∧ es = e :: e2 :: es' ∧ chkE c b e = true ∧ chkH c r (o2 :: os) (e2 :: es') = true := by
  match ops, es, h with
  | o :: o2 :: os, e :: e2 :: es', h =>
    simp only [chkH, Bool.and_eq_true, decide_eq_true_eq] at h
    obtain ⟨⟨rfl, h1⟩, h2⟩ := h
    exact ⟨o2, os, e, e2, es', rfl, rfl, h1, h2⟩
  | [], _, h => simp [chkH] at h
  | [_], _, h => simp [chkH] at h
  | _ :: _ :: _, [], h => simp [chkH] at h
  | _ :: _ :: _, [_], h => simp [chkH] at h
theorem inv_C {ci : Cc} {own : List Nat} {tg : T} {it : I} {ifs : List E} {l : List C} {gs : List Comprehension} (h : chkC ci c own (.mk tg it ifs :: l) gs = true) : ∃ t i fs gs', gs = ⟨t, i, fs, 0⟩ :: gs' ∧ chkT c tg t = true ∧ tgIn own tg = true ∧ it.ok tg = true ∧ chkI ci it i = true ∧ chkL c ifs fs = true ∧ ifs.length ≤ 1 ∧ chkC c c own l gs' = true := by
  match gs, h with
  | ⟨t, i, fs, a⟩ :: gs', h =>
    simp only [chkC, Bool.and_eq_true, decide_eq_true_eq] at h
    obtain ⟨⟨⟨⟨⟨⟨⟨rfl, h1⟩, h2⟩, h3⟩, h4⟩, h5⟩, h6⟩, h7⟩ := h
    exact ⟨t, i, fs, gs', rfl, h1, h2, h3, h4, h5, h6, h7⟩
  | [], h => simp [chkC] at h
end
section
variable (Γ : Gm) (ts : List Addr)
theorem snd_tup {e : Expr} {tg : T} {c : Cc} (h : chkT c tg e = true) (hi : tg.isTup = true) : ∃ es k p, e = .Tuple es k p := by
  cases tg with
  | name i => cases hi
  | tup l => cases e <;> simp [chkT] at h; exact ⟨_, _, _, rfl⟩
mutual
theorem sndE : ∀ (ir : E) (X : Cx) (c : Cc) (e : Expr), Good X ts Γ c → chkE c ir e = true → Snd Γ ts X e ir
  | .const d, X, c, e, G, h => by
    have h' := h
    cases e <;> simp only [chkE, Bool.false_eq_true] at h
    exact Snd.plain G h' (const_ok h) (fun _ => rfl) (fun z => z)
  | .var i, X, c, e, G, h => by
    have h' := h
    cases e <;> simp only [chkE, Bool.false_eq_true] at h
    refine Snd.plain G h' (pe_weak (var_ok G h) fun σ H Q ⟨ρ, r, F, h1, rep, q⟩ => ?_) (fun _ => rfl) (fun z => z)
    rw [evE_var] at h1
    split at h1
    · rename_i d hd
      cases h1
      obtain ⟨v, e1, e2⟩ := rep.fr hd
      exact ⟨v, e1, q v F H (Grow.refl rep.fz) e2⟩
    · cases h1
  | .bin op a b, X, c, e, G, h => by
    have h' := h
    cases e <;> simp only [chkE, Bool.false_eq_true, Bool.and_eq_true, decide_eq_true_eq] at h
    obtain ⟨⟨rfl, h1⟩, h2⟩ := h
    exact Snd.plain G h' (bin_ok G (uB_of G h1 (sndE a X c _ G h1).v) (uB_of G h2 (sndE b X c _ G h2).v)) (fun _ => rfl) (fun z => z)
  | .neg a, X, c, e, G, h => by
    obtain ⟨x, p, rfl, h1⟩ := inv_neg h
    exact Snd.plain G h (neg_ok (uB_of G h1 (sndE a X c x G h1).v)) (fun _ => rfl) (fun z => z)
  | .not a, X, c, e, G, h => by
    obtain ⟨x, p, rfl, h1⟩ := inv_not h
    have s := sndE a X c x G h1
    exact not_ok (uB_of G h1 s.v) s.t
  | .cmp op a b, X, c, e, G, h => by
    obtain ⟨l, r, p, rfl, h0, h1, h2⟩ := inv_cmp h
    exact cmp_ok G h0 (uB_of G h1 (sndE a X c l G h1).v) (uB_of G h2 (sndE b X c r G h2).v)
  | .chain a hh, X, c, e, G, h => by
    obtain ⟨l, ops, es, p, rfl, hm, hl, h1, h2⟩ := inv_chain h
    have s := sndE a X c l G h1
    have k := sndH hh X c ops es G h2
    cases hh with
    | one op b => cases hm
    | more op b r =>
      obtain ⟨o2, os, e1, e2, es', rfl, rfl, _, _⟩ := inv_more h2
      exact chain_ok G hl (uB_of G h1 s.v) k
  | .and a b, X, c, e, G, h => by
    obtain ⟨x, y, r, p, rfl, h1, h2⟩ := inv_and h
    have s := sndE a X c x G h1
    rcases h2 with ⟨rfl, h2⟩ | ⟨hr, h2⟩
    · have s2 := sndE b X c y G h2
      exact and_ok (uB_of G h1 s.v) s.t (one_ok s2.v) (onew_ok s2.t)
    · have s2 := sndE b X c _ G h2
      exact and_ok (uB_of G h1 s.v) s.t s2.v (s2.w trivial)
  | .or a b, X, c, e, G, h => by
    obtain ⟨x, y, r, p, rfl, h1, h2⟩ := inv_or h
    have s := sndE a X c x G h1
    rcases h2 with ⟨rfl, h2⟩ | ⟨hr, h2⟩
    · have s2 := sndE b X c y G h2
      exact or_ok (uB_of G h1 s.v) s.t (one_ok s2.v) (onew_ok s2.t)
    · have s2 := sndE b X c _ G h2
      exact or_ok (uB_of G h1 s.v) s.t s2.v (s2.w trivial)
  | .ite t a b, X, c, e, G, h => by
    cases e <;> simp only [chkE, Bool.false_eq_true, Bool.and_eq_true] at h
    have s1 := sndE t X c _ G h.1.1
    have s2 := sndE a X c _ G h.1.2
    have s3 := sndE b X c _ G h.2
    exact ite_ok s1.t s2.v s3.v s2.t s3.t
  | .tup l, X, c, e, G, h => by
    have h' := h
    cases e <;> simp only [chkE, Bool.false_eq_true] at h
    exact Snd.plain G h' (tup_ok (sndL l X c _ G h).1) (fun _ => rfl) (fun z => z)
  | .lst l, X, c, e, G, h => by
    have h' := h
    cases e <;> simp only [chkE, Bool.false_eq_true] at h
    exact Snd.plain G h' (lst_ok (sndL l X c _ G h).1) (fun _ => rfl) (fun z => z)
  | .ix a i, X, c, e, G, h => by
    obtain ⟨x, y, p, rfl, h1, h2⟩ := inv_ix h
    exact Snd.plain G h (ix_ok h2 (uB_of G h1 (sndE a X c x G h1).v) (uB_of G h2 (sndE i X c y G h2).v)) (fun _ => rfl) (fun z => z)
  | .sl a lo hi, X, c, e, G, h => by
    obtain ⟨x, l, u, p2, p, rfl, h1, h2, h3⟩ := inv_sl h
    exact Snd.plain G h (sl_ok (uB_of G h1 (sndE a X c x G h1).v) (sndO lo X c l G h2) (sndO hi X c u G h3)) (fun _ => rfl) (fun z => z)
  | .comp own elt cl, X, c, e, G, h => by
    have h' := h
    obtain ⟨x, gs, sc, p, rfl, hb, hC, hE, h0, h2⟩ := inv_comp h
    have hk := blkC_kind hb
    have he : Blks X sc fun Y => PE Y x (uV Γ ts elt) := fun s H C cl fp => uV_of (sndE elt _ _ x (G.blk sc hk s H C cl fp) hE).v
    refine Snd.plain G h' ?_ (fun _ => rfl) (fun z => z)
    match cl, hC, h0, h2 with
    | [.mk tg it ifs], hC, _, _ =>
      obtain ⟨t, i, fs, gs', rfl, k1, k2, k3, k4, k5, k6, k7⟩ := inv_C hC
      have hg : gs' = [] := by cases gs' <;> simp [chkC] at k7 ⊢
      subst hg
      exact comp1_ok G hb k2 (sndI it X c i t G k4 k3 k1 false) (fun s H C cl fp => tg_ok (G.blk sc hk s H C cl fp) tg t k1) (fun s H C cl fp => sndIfs ifs _ _ fs (G.blk sc hk s H C cl fp) k5 k6) he (fold_ofI k4 _)
    | [.mk tg it ifs, .mk tg1 it1 ifs1], hC, _, _ =>
      obtain ⟨t, i, fs, gs', rfl, k1, k2, k3, k4, k5, k6, k7⟩ := inv_C hC
      obtain ⟨t1, i1, fs1, gs1, rfl, m1, m2, m3, m4, m5, m6, m7⟩ := inv_C k7
      have hg : gs1 = [] := by cases gs1 <;> simp [chkC] at m7 ⊢
      subst hg
      exact comp2_ok G hb k2 m2 (sndI it X c i t G k4 k3 k1 false) (fun s H C cl fp => tg_ok (G.blk sc hk s H C cl fp) tg t k1) (fun s H C cl fp => sndIfs ifs _ _ fs (G.blk sc hk s H C cl fp) k5 k6)
        (fun s H C cl fp => sndI it1 _ _ i1 t1 (G.blk sc hk s H C cl fp) m4 m3 m1 true) (fun s H C cl fp => tg_ok (G.blk sc hk s H C cl fp) tg1 t1 m1) (fun s H C cl fp => sndIfs ifs1 _ _ fs1 (G.blk sc hk s H C cl fp) m5 m6) he (fold_ofI k4 _) (fold_ofI m4)
    | [], _, h0, _ => simp at h0
    | _ :: _ :: _ :: _, _, _, h2 => simp at h2
  | .gen stop own elt cl, X, c, e, G, h => by
    have h' := h
    obtain ⟨x, p, e', gs, sc, gp, pos, rfl, hb, htb, hg0, ok, hnl, hC, hE, hlen⟩ := inv_gen h
    have hk : sc.kind = .function := (gOk_by ok).kind
    have hn := (gOk_by ok).nocell
    have he : Gens X sc fun Y => PE Y e' (uV Γ ts elt) := fun A s H C code fp ar => uV_of (sndE elt _ _ e' (G.gn sc hk hn hg0 A s H C code fp ar) hE).v
    refine Snd.plain G h' ?_ (fun _ => rfl) (fun z => z)
    match cl, hC, hlen with
    | [.mk tg it ifs], hC, _ =>
      obtain ⟨t, i, fs, gs', rfl, k1, k2, k3, k4, k5, k6, k7⟩ := inv_C hC
      have hg : gs' = [] := by cases gs' <;> simp [chkC] at k7 ⊢
      subst hg
      exact gen1_ok G hb htb ok k2 (sndI it X c i t G k4 k3 k1 false) (fun A s H C code fp ar => tg_ok (G.gn sc hk hn hg0 A s H C code fp ar) tg t k1) (fun A s H C code fp ar => sndIfs ifs _ _ fs (G.gn sc hk hn hg0 A s H C code fp ar) k5 k6) he (fold_ofI k4 _)
        (fun es p z => by subst z; simp [notLst] at hnl)
    | [], _, h0 => simp at h0
    | _ :: _ :: _, _, h2 => simp at h2
  | .call f l, X, c, e, G, h => by
    obtain ⟨x, p, es, pos, rfl, h1, h2, h3, h4, h5⟩ := inv_call h
    cases es with
    | nil => simp at h5
    | cons e1 es => exact Snd.plain G h (call_ok G h1 h2 h3 h4 (sndL l X c _ G h4).1) (fun _ => rfl) (fun z => z)
  | .bi b l, X, c, e, G, h => by
    obtain ⟨x, p, es, pos, rfl, h1 | h1⟩ := inv_bi h
    · obtain ⟨t, k1, k2, e', y, p2, rfl, k3, k4⟩ := h1
      match l, k4 with
      | [ia], k4 =>
        simp only [chkL, Bool.and_eq_true] at k4
        exact Snd.plain G h (isi_ok' G k1 k2 k3 k4.1 (uB_of G k4.1 (sndE ia X c e' G k4.1).v)) (fun _ => rfl) (fun z => z)
      | [], k4 => simp [chkL] at k4
      | _ :: _ :: _, k4 => simp [chkL] at k4
    · obtain ⟨f, k1, k2, k3, k4⟩ := h1
      cases es with
      | nil => simp at k4
      | cons e1 es => exact Snd.plain G h (bi_ok G k1 k2 k3 (sndL l X c _ G k3).2) (fun _ => rfl) (fun z => z)
  | .sortKey f a, X, c, e, G, h => by
    obtain ⟨x, p, e', y, py, kp, pos, rfl, h1, h2, h3, h4, h5, h6⟩ := inv_sk h
    exact Snd.plain G h (sortKey_ok G h1 h2 h3 h4 h5 h6 (uB_of G h6 (sndE a X c e' G h6).v)) (fun _ => rfl) (fun z => z)
theorem sndH : ∀ (hh : Ch) (X : Cx) (c : Cc) (ops : List CmpOp) (es : List Expr), Good X ts Γ c → chkH c hh ops es = true → ChOk Γ ts X hh ops es
  | .one op b, X, c, ops, es, G, h => by
    obtain ⟨e, rfl, rfl, h1⟩ := inv_one h
    exact ⟨rfl, uB_of G h1 (sndE b X c e G h1).v⟩
  | .more op b r, X, c, ops, es, G, h => by
    obtain ⟨o2, os, e, e2, es', rfl, rfl, h1, h2⟩ := inv_more h
    exact ⟨rfl, uB_of G h1 (sndE b X c e G h1).v, by simp, by simp, sndH r X c _ _ G h2⟩
theorem sndIfs : ∀ (l : List E) (X : Cx) (c : Cc) (es : List Expr), Good X ts Γ c → chkL c l es = true → l.length ≤ 1 → PTs X es (uTs Γ ts l)
  | [], X, c, [], G, h, _ => ifs0_ok
  | [], X, c, _ :: _, G, h, _ => by simp [chkL] at h
  | _ :: _, X, c, [], G, h, _ => by simp [chkL] at h
  | [a], X, c, [e], G, h, _ => by
    simp only [chkL, Bool.and_eq_true] at h
    exact ifs1_ok (sndE a X c e G h.1).t
  | [_], X, c, _ :: _ :: _, G, h, _ => by simp [chkL] at h
  | _ :: _ :: _, X, c, _, G, h, k => by simp at k
theorem sndI : ∀ (it : I) (X : Cx) (c : Cc) (e tg : Expr), Good X ts Γ c → chkI c it e = true → ∀ {t : T} {ct : Cc}, it.ok t = true → chkT ct t tg = true → ∀ fz, PI X tg e (uI Γ ts fz it)
  | .seq a, X, c, e, tg, G, h, t, ct, k1, k2, fz => by
    have h1 : chkE c a e = true := by unfold chkI at h; exact h
    exact seq_ok fz (uS_of G h1 (sndE a X c e G h1).v fz)
  | .range l, X, c, e, tg, G, h, t, ct, k1, k2, fz => by
    cases e <;> try (simp [chkI] at h; done)
    rename_i fn es ks pos
    cases fn <;> try (simp [chkI] at h; done)
    cases ks with
    | nil =>
      simp only [chkI, Bool.and_eq_true, decide_eq_true_eq] at h
      exact range_ok G fz h.1.1.1 h.1.1.2 h.1.2 h.2 (sndL l X c es G h.1.1.2).2
    | cons _ _ => simp [chkI] at h
  | .enum a, X, c, e, tg, G, h, t, ct, k1, k2, fz => by
    cases e <;> try (simp [chkI] at h; done)
    rename_i fn es ks pos
    cases fn <;> try (simp [chkI] at h; done)
    match es, ks, h with
    | [e], [], h =>
      simp only [chkI, Bool.and_eq_true] at h
      obtain ⟨elts, k, p, rfl⟩ := snd_tup k2 k1
      exact enum_ok G fz h.1 h.2 (uS_of G h.2 (sndE a X c e G h.2).v fz)
    | [], _, h => simp [chkI] at h
    | [_], _ :: _, h => simp [chkI] at h
    | _ :: _ :: _, _, h => simp [chkI] at h
  | .zip a b, X, c, e, tg, G, h, t, ct, k1, k2, fz => by
    cases e <;> simp [chkI] at h
theorem sndO : ∀ (o : Option E) (X : Cx) (c : Cc) (e : Option Expr), Good X ts Γ c → chkO c o e = true → PO X e (uO Γ ts o)
  | none, X, c, none, G, h => partN_ok
  | none, X, c, some _, G, h => by simp [chkO] at h
  | some a, X, c, none, G, h => by simp [chkO] at h
  | some a, X, c, some e, G, h => by
    unfold chkO at h
    exact partS_ok (uB_of G h (sndE a X c e G h).v)
theorem sndL : ∀ (l : List E) (X : Cx) (c : Cc) (es : List Expr), Good X ts Γ c → chkL c l es = true → PA X es (uA Γ ts l) ∧ PA X es (uL Γ ts l)
  | [], X, c, [], G, h => ⟨nilA_ok, nilL_ok⟩
  | [], X, c, _ :: _, G, h => by simp [chkL] at h
  | _ :: _, X, c, [], G, h => by simp [chkL] at h
  | a :: l, X, c, e :: es, G, h => by
    simp only [chkL, Bool.and_eq_true] at h
    have s1 := sndE a X c e G h.1
    obtain ⟨s2, s3⟩ := sndL l X c es G h.2
    exact ⟨consA_ok h.1 s1.v s2, consL_ok h.1 (uB_of G h.1 s1.v) s3⟩
end
end
end Pi
end
section
set_option Elab.async false
set_option linter.all false
set_option maxRecDepth 100000
set_option maxHeartbeats 1000000
/-! Pure data over the hand layer: statements. -/
namespace Pi
open PySem PySem.Spec PyProof.Rows L2
def isTupE : Expr → Bool
  | .Tuple .. => true
  | _ => false
def isLc : Expr → Bool
  | .ListComp .. => true
  | _ => false
/-- y.pop(..), x = y.pop(..) -/
def popShape : Stmt → Option (Option Str × Str × List Expr × Bool)
  | .Expr (.Call (.Attribute (.Name x _) m ap) as [] cp) _ => if m = Str.ofString "pop" then some (none, x, as, ap.endLine == cp.line) else none
  | .Assign [.Name w _] (.Call (.Attribute (.Name x _) m ap) as [] cp) _ => if m = Str.ofString "pop" then some (some w, x, as, ap.endLine == cp.line) else none
  | _ => none
def popTg (c : Cc) : Option Nat → Option Str → Bool
  | none, none => true
  | some z, some w => tgOk c z w
  | _, _ => false
mutual
def chkS (c : Cc) : S → Stmt → Bool
  | .set i e, .Assign [.Name x _] v _ => tgOk c i x && chkE c e v
  | .unpack l e, .Assign [.Tuple us _ _] v _ => chkTs c l us && chkE c e v && !isTupE v
  | .append y e, .Expr (.Call (.Attribute (.Name x _) m ap) [v] [] cp) _ => decide (m = Str.ofString "append") && varOk c y x && chkE c e v && (ap.endLine == cp.line)
  | .extend y e, .Expr (.Call (.Attribute (.Name x _) m ap) [v] [] cp) _ => decide (m = Str.ofString "extend") && varOk c y x && chkE c e v && (ap.endLine == cp.line)
  | .pop x y i, st => match popShape st with
    | some (w, n, as, l) => l && varOk c y n && popTg c x w && (match as with
      | [] => chkO c i none
      | [v] => chkO c i (some v)
      | _ => false)
    | none => false
  | .store y i e, .Assign [.Subscript (.Name x _) ix _] v _ => varOk c y x && chkE c i ix && chkE c e v && !isLc v
  | .aug i op e, .AugAssign (.Name x _) o v _ => decide (op = o) && tgOk c i x && varOk c i x && chkE c e v
  | .ret e, .Return (some v) _ => chkE c e v
  | .retN, .Return none _ => true
  | .ifs t a b, .If x y z _ => chkE c t x && chkSs c a y && chkSs c b z
  | .loop tg it body, .For t i b [] _ => chkT c tg t && it.ok tg && chkI c it i && chkSs c body b
  | .whl t body, .While x b [] _ => chkE c t x && chkSs c body b
  | .brk, .Break _ => true
  | .cont, .Continue _ => true
  | .pass, .Pass _ => true
  | _, _ => false
def chkSs (c : Cc) : List S → List Stmt → Bool
  | [], [] => true
  | .frz i :: ss, sts => chkSs c ss sts
  | s :: ss, st :: sts => chkS c s st && chkSs c ss sts
  | _, _ => false
end
/-- what is asked of the heap at the entry -/
structure Bz (ts : List Addr) (F0 B : Hp) : Prop where
  tab : TabOk ts B
  dis : ∀ P ∈ ts, F0 P = none
theorem Fz.bz {ts : List Addr} {F H : Hp} (f : Fz ts F H) : Bz ts F H := ⟨f.tab, f.dis⟩
theorem Bz.fz {ts : List Addr} {F0 B F H : Hp} (f : Bz ts F0 B) (g : Grow ts F0 B F H) : Fz ts F H :=
  ⟨g.fh, g.tb, fun P hP => by
    cases e : F P with
    | none => rfl
    | some o =>
      rcases g.nw P o e with q | q
      · rw [f.dis P hP] at q; cases q
      · exact absurd q (f.tab.ne hP)⟩
/-- from a later frozen part to the first -/
theorem Grow.lower {ts : List Addr} {F0 B F2 H2 F H : Hp} (g : Grow ts F0 B F2 H2) (k : Grow ts F2 B F H) : Grow ts F0 B F H :=
  ⟨fun a o e => k.ff a o (g.ff a o e), k.fh, k.hh, fun a o e => by
    rcases k.nw a o e with q | q
    · exact g.nw a o q
    · exact .inr q, k.tb⟩
structure RepS (ts : List Addr) (B F0 : Hp) (ρ : List Cell) (σ : L2.St) (F H : Hp) : Prop where
  rep : Rep ts ρ σ F H
  f0 : Bz ts F0 B
  gr : Grow ts F0 B F H
  own : ∀ (i : Nat) (ds : List PyData) (p : Addr), ρ[i]? = some (.ow ds) → σ[i]? = some (some (.ref p)) → B p = none
def EndsOk (ts : List Addr) (B F0 : Hp) (D : Ends) : Out → Prop
  | .nx ρ' => ∀ σ' F' H', RepS ts B F0 ρ' σ' F' H' → D.nx σ' H'
  | .rt r => ∀ v F' H', Grow ts F0 B F' H' → RR B F' H' v r → D.rt v H'
  | .bk ρ' => ∀ σ' F' H', RepS ts B F0 ρ' σ' F' H' → D.bk σ' H'
  | .ct ρ' => ∀ σ' F' H', RepS ts B F0 ρ' σ' F' H' → D.ct σ' H'
section
variable {ts : List Addr} {B F0 : Hp} {ρ : List Cell} {σ : L2.St} {F H F1 H1 : Hp}
theorem RepS.grow (r : RepS ts B F0 ρ σ F H) (g : Grow ts F H F1 H1) : RepS ts B F0 ρ σ F1 H1 :=
  ⟨r.rep.grow g, r.f0, r.gr.trans r.f0.tab g, r.own⟩
/-- with all that is frozen by now -/
theorem RepS.raise (r : RepS ts B F0 ρ σ F H) : RepS ts B F ρ σ F H :=
  ⟨r.rep, ⟨r.f0.tab, r.rep.fz.dis⟩, ⟨fun _ _ e => e, r.gr.fh, r.gr.hh, fun _ _ e => .inl e, r.gr.tb⟩, r.own⟩
theorem RepS.lower {Fa Ha : Hp} (g : Grow ts F0 B Fa Ha) (f : Bz ts F0 B) (r : RepS ts B Fa ρ σ F H) : RepS ts B F0 ρ σ F H := ⟨r.rep, f, g.lower r.gr, r.own⟩
/-- a slot gets frozen data -/
theorem RepS.setFr (r : RepS ts B F0 ρ σ F H) {i : Nat} {v : V} {d : PyData} (h : Fd F v d) : RepS ts B F0 (ρ.set i (.fr d)) (σ.set i (some v)) F H where
  rep := r.rep.setFr h
  f0 := r.f0
  gr := r.gr
  own := fun j ds p h1 h2 => by
    rw [List.getElem?_set] at h1 h2
    by_cases e : i = j
    · rw [if_pos e] at h1; split at h1 <;> cases h1
    · rw [if_neg e] at h1 h2; exact r.own j ds p h1 h2
/-- .. a new list -/
theorem RepS.setOw (r : RepS ts B F0 ρ σ F1 H1) {i : Nat} {p : Addr} {vs : List V} {ds : List PyData} (h0 : ∀ (j : Nat) (es : List PyData) (q : Addr), ρ[j]? = some (.ow es) → σ[j]? = some (some (.ref q)) → q ≠ p) (hB : B p = none) (hF : F1 p = none) (hH : H1 p = some (.lst vs)) (h : FdAll F1 vs ds) :
    RepS ts B F0 (ρ.set i (.ow ds)) (σ.set i (some (.ref p))) F1 H1 where
  f0 := r.f0
  gr := r.gr
  own := fun j es q h1 h2 => by
    rw [List.getElem?_set] at h1 h2
    by_cases e : i = j
    · rw [if_pos e] at h2; split at h2 <;> cases h2; exact hB
    · rw [if_neg e] at h1 h2; exact r.own j es q h1 h2
  rep :=
    { fz := r.rep.fz
      len := by rw [List.length_set, List.length_set]; exact r.rep.len
      cell := fun j c o h1 h2 => by
        rw [List.getElem?_set] at h1 h2
        by_cases e : i = j
        · rw [if_pos e] at h1 h2
          split at h1
          · split at h2
            · cases h1; cases h2; exact ⟨p, vs, rfl, hF, hH, h⟩
            · cases h2
          · cases h1
        · rw [if_neg e] at h1 h2
          exact r.rep.cell j c o h1 h2
      dis := fun j k es fs q hjk h1 h2 h3 h4 => by
        rw [List.getElem?_set] at h1 h2 h3 h4
        by_cases e1 : i = j
        · by_cases e2 : i = k
          · exact hjk (e1.symm.trans e2)
          · rw [if_pos e1] at h3
            rw [if_neg e2] at h2 h4
            split at h3 <;> cases h3
            exact h0 k fs p h2 h4 rfl
        · rw [if_neg e1] at h1 h3
          by_cases e2 : i = k
          · rw [if_pos e2] at h4
            split at h4 <;> cases h4
            exact h0 j es p h1 h3 rfl
          · rw [if_neg e2] at h2 h4
            exact r.rep.dis j k es fs q hjk h1 h2 h3 h4 }
/-- an owned list is changed -/
theorem RepS.change (r : RepS ts B F0 ρ σ F H) {y : Nat} {p : Addr} {vs ws : List V} {ds es : List PyData} (h1 : ρ[y]? = some (.ow ds)) (h2 : σ[y]? = some (some (.ref p))) (h3 : F p = none) (h4 : H p = some (.lst vs)) (h5 : FdAll F ws es) :
    RepS ts B F0 (ρ.set y (.ow es)) σ F (upd H p (.lst ws)) where
  f0 := r.f0
  gr := r.gr.mut (r.own y ds p h1 h2) h3 h4
  own := fun j fs q k1 k2 => by
    rw [List.getElem?_set] at k1
    by_cases e : y = j
    · subst e; exact r.own y ds q h1 k2
    · rw [if_neg e] at k1; exact r.own j fs q k1 k2
  rep :=
    { fz := r.f0.fz (r.gr.mut (r.own y ds p h1 h2) h3 h4)
      len := by rw [List.length_set]; exact r.rep.len
      cell := fun j c o k1 k2 => by
        rw [List.getElem?_set] at k1
        by_cases e : y = j
        · rw [if_pos e] at k1
          split at k1
          · cases k1
            subst e
            rw [h2] at k2
            cases k2
            exact ⟨p, ws, rfl, h3, upd_same, h5⟩
          · cases k1
        · rw [if_neg e] at k1
          have q := r.rep.cell j c o k1 k2
          cases c with
          | un => trivial
          | fr d => cases o <;> exact q
          | ow fs =>
            cases o with
            | none => exact q
            | some v =>
              obtain ⟨p', vs', rfl, e2, e3, e4⟩ := q
              have ne : p' ≠ p := fun z => by
                subst z
                exact r.rep.dis y j ds fs p' e h1 k1 h2 k2
              exact ⟨p', vs', rfl, e2, by rw [upd_ne ne]; exact e3, e4⟩
      dis := fun j k es' fs q hjk k1 k2 k3 => by
        have ex : ∀ {j : Nat} {es' : List PyData}, (ρ.set y (.ow es))[j]? = some (.ow es') → ∃ ds', ρ[j]? = some (.ow ds') := fun {j es'} z => by
          rw [List.getElem?_set] at z
          by_cases e : y = j
          · subst e; exact ⟨ds, h1⟩
          · rw [if_neg e] at z; exact ⟨es', z⟩
        obtain ⟨d1, q1⟩ := ex k1
        obtain ⟨d2, q2⟩ := ex k2
        exact r.rep.dis j k d1 d2 q hjk q1 q2 k3 }
/-- an owned list is frozen from here on -/
theorem RepS.freeze (r : RepS ts B F0 ρ σ F H) {y : Nat} {ds : List PyData} (h1 : ρ[y]? = some (.ow ds)) : ∃ F', RepS ts B F0 (ρ.set y (.fr (.list ds))) σ F' H := by
  obtain ⟨p, vs, h2, h3, h4, h5⟩ := r.rep.ow h1
  have hB := r.own y ds p h1 h2
  have ff : ∀ a o, F a = some o → upd F p (.lst vs) a = some o := fun a o e => by
    rw [upd_ne (fun z => by subst z; rw [h3] at e; cases e)]; exact e
  have g : Grow ts F0 B (upd F p (.lst vs)) H := ⟨fun a o e => ff a o (r.gr.ff a o e), fun a o e => by
    by_cases h : a = p
    · subst h; rw [upd_same] at e; rw [h4]; exact e
    · rw [upd_ne h] at e; exact r.gr.fh a o e, r.gr.hh, fun a o e => by
    by_cases h : a = p
    · subst h; exact .inr hB
    · rw [upd_ne h] at e; exact r.gr.nw a o e, r.gr.tb⟩
  refine ⟨upd F p (.lst vs), ⟨r.f0.fz g, by rw [List.length_set]; exact r.rep.len, fun j c o k1 k2 => ?_, fun j k es fs q hjk k1 k2 k3 => ?_⟩, r.f0, g, fun j fs q k1 k2 => ?_⟩
  · rw [List.getElem?_set] at k1
    by_cases e : y = j
    · rw [if_pos e] at k1
      split at k1
      · cases k1
        subst e
        rw [h2] at k2
        cases k2
        exact .lst upd_same (FdAll_mono ff h5)
      · cases k1
    · rw [if_neg e] at k1
      have q := r.rep.cell j c o k1 k2
      cases c with
      | un => trivial
      | fr d =>
        cases o with
        | none => exact q
        | some v => exact Fd_mono ff q
      | ow fs =>
        cases o with
        | none => exact q
        | some v =>
          obtain ⟨p', vs', rfl, e2, e3, e4⟩ := q
          have ne : p' ≠ p := fun z => by
            subst z
            exact r.rep.dis y j ds fs p' e h1 k1 h2 k2
          exact ⟨p', vs', rfl, by rw [upd_ne ne]; exact e2, e3, FdAll_mono ff e4⟩
  · have ex : ∀ {j : Nat} {es' : List PyData}, (ρ.set y (.fr (.list ds)))[j]? = some (.ow es') → ρ[j]? = some (.ow es') := fun {j es'} z => by
      rw [List.getElem?_set] at z
      by_cases e : y = j
      · rw [if_pos e] at z; split at z <;> cases z
      · rw [if_neg e] at z; exact z
    exact r.rep.dis j k es fs q hjk (ex k1) (ex k2) k3
  · rw [List.getElem?_set] at k1
    by_cases e : y = j
    · rw [if_pos e] at k1; split at k1 <;> cases k1
    · rw [if_neg e] at k1; exact r.own j fs q k1 k2
/-- a result at a name -/
theorem RepS.setR (r : RepS ts B F0 ρ σ F H) (g : Grow ts F H F1 H1) {i : Nat} {v : V} {x : Res} (h : RR H F1 H1 v x) : RepS ts B F0 (ρ.set i x.cell) (σ.set i (some v)) F1 H1 := by
  have r1 := r.grow g
  cases x with
  | val d => exact r1.setFr h
  | new ds =>
    obtain ⟨p, vs, rfl, e2, e3, e4, e5⟩ := h
    refine r1.setOw (fun j es q k1 k2 z => ?_) (r.gr.nn r.f0.tab e2) e3 e4 e5
    subst z
    obtain ⟨p', ws, k3, _, k5, _⟩ := r.rep.ow k1
    rw [k2] at k3
    cases k3
    rw [e2] at k5; cases k5
end
end Pi
end
section
set_option Elab.async false
set_option linter.all false
set_option maxRecDepth 100000
set_option maxHeartbeats 1000000
/-! Pure data over the hand layer: each statement. -/
namespace Pi
open PySem PySem.Spec PyProof.Rows L2
section
variable (Γ : Gm) (ts : List Addr)
def uSt (s : S) : TS := fun D σ H => ∃ ρ o F B F0, evS Γ ρ s = some o ∧ RepS ts B F0 ρ σ F H ∧ EndsOk ts B F0 D o
def uSs (s : List S) : TS := fun D σ H => ∃ ρ o F B F0, evSs Γ ρ s = some o ∧ RepS ts B F0 ρ σ F H ∧ EndsOk ts B F0 D o
end
section
variable {Γ : Gm} {ts : List Addr} {X : Cx} {c : Cc} {e : Expr} {ir : E} {pos : Pos}
theorem owned_some {ρ : List Cell} {y : Nat} {ds : List PyData} (h : owned ρ y = some ds) : ρ[y]? = some (.ow ds) := by
  unfold owned at h
  split at h
  · rename_i h2; cases h; exact h2
  · cases h
theorem nil_ok : PSs X [] (uSs Γ ts []) := pss_weak pss_nil fun D σ H ⟨ρ, o, F, B, F0, h1, r, q⟩ => by
  unfold evSs at h1
  cases h1
  exact q σ F H r
theorem cons_ok {st : Stmt} {s : S} {sts : List Stmt} {ss : List S} (h1 : PS X st (uSt Γ ts s)) (h2 : PSs X sts (uSs Γ ts ss)) : PSs X (st :: sts) (uSs Γ ts (s :: ss)) := pss_weak (pss_cons h1 h2) fun D σ H ⟨ρ, o, F, B, F0, h1, r, q⟩ => by
  unfold evSs at h1
  rw [Option.bind_eq_some_iff] at h1
  obtain ⟨o1, h1, h3⟩ := h1
  refine ⟨ρ, o1, F, B, F0, h1, r, ?_⟩
  cases o1 with
  | nx ρ' => exact fun σ' F' H' r' => ⟨ρ', o, F', B, F0, h3, r', q⟩
  | rt v => cases h3; exact q
  | bk ρ' => cases h3; exact q
  | ct ρ' => cases h3; exact q
theorem frz_ok {i : Nat} {sts : List Stmt} {ss : List S} (h : PSs X sts (uSs Γ ts ss)) : PSs X sts (uSs Γ ts (.frz i :: ss)) := pss_weak h fun D σ H ⟨ρ, o, F, B, F0, h1, r, q⟩ => by
  unfold evSs at h1
  rw [Option.bind_eq_some_iff] at h1
  obtain ⟨o1, h1, h3⟩ := h1
  unfold evS at h1
  split at h1
  · rename_i ds hd
    cases h1
    obtain ⟨F', r'⟩ := r.freeze hd
    exact ⟨_, o, F', B, F0, h3, r', q⟩
  · cases h1
    exact ⟨_, o, F, B, F0, h3, r, q⟩
  · cases h1
theorem swap_none (hc : chkE c ir e = true) (hl : isLc e = false) (tg : Option Expr) (line : Nat) (env : Env) : swapsWith e tg line env = pure false := by
  cases e <;> first | rfl | (simp [isLc] at hl; done) | (cases ir <;> simp [chkE] at hc)
theorem set_rd {te : TE} {i : Nat} {x : E} (w : ∀ σ H Q, uE Γ ts x σ H Q → te σ H Q) : ∀ D σ H, uSt Γ ts (.set i x) D σ H → tAsg te (gName i) D σ H := fun D σ H ⟨ρ, o, F, B, F0, h1, r, q⟩ => by
  unfold evS at h1
  rw [Option.map_eq_some_iff] at h1
  obtain ⟨x', h1, rfl⟩ := h1
  exact w σ H _ ⟨ρ, x', F, h1, r.rep, fun v F' H' g k => q _ F' H' (r.setR g k)⟩
theorem swap_lc {elt : Expr} {gs : List Comprehension} {sc : Scope} {p p2 : Pos} {x : Str} {line : Nat} {env : Env} :
    swapsWith (.ListComp elt gs sc p) (some (.Name x p2)) line env = pure (env.blockKind == .function && env.kindOf x == some .local && p2.line == (Expr.ListComp elt gs sc p).pos.line && !(sc.names.any fun (n, k) => n == x && (k == .local || k == .cell))) := rfl
/-- x = e, e no comprehension; or one that is stored as any -/
theorem set_ok (G : Good X ts Γ c) {i : Nat} {x : Str} {p2 : Pos} (ht : tgOk c i x = true) (he : PE X e (uE Γ ts ir)) (hs : swapsWith e (some (.Name x p2)) pos.line X.env = pure false) : PS X (.Assign [.Name x p2] e pos) (uSt Γ ts (.set i ir)) := by
  unfold tgOk at ht
  simp only [Bool.and_eq_true, decide_eq_true_eq] at ht
  obtain ⟨k1, k2⟩ := locB_ok G ht.1.2
  exact ps_weak (ps_set (i := i) G.nd (by rw [G.hN]; exact ht.1.1) k1 he hs k2) (set_rd fun _ _ _ q => q)
theorem set_sw (G : Good X ts Γ c) {i : Nat} {x : Str} {p2 p : Pos} {elt : Expr} {gs : List Comprehension} {sc : Scope} {t : TS} (ht : tgOk c i x = true) (he : PE X (.ListComp elt gs sc p) (uE Γ ts ir))
    (h : X.env.scope.names.lookup x = some .local → swapsWith (.ListComp elt gs sc p) (some (.Name x p2)) pos.line X.env = pure true → X.N[i]? = some x → PS X (.Assign [.Name x p2] (.ListComp elt gs sc p) pos) (uSt Γ ts (.set i ir))) : PS X (.Assign [.Name x p2] (.ListComp elt gs sc p) pos) (uSt Γ ts (.set i ir)) := by
  cases hb : (X.env.blockKind == .function && X.env.kindOf x == some .local && p2.line == (Expr.ListComp elt gs sc p).pos.line && !(sc.names.any fun (n, k) => n == x && (k == .local || k == .cell))) with
  | false => exact set_ok G ht he (by rw [swap_lc, hb])
  | true =>
    have hb' := hb
    simp only [Bool.and_eq_true] at hb
    have hl : X.env.scope.names.lookup x = some .local := by
      have := hb.1.1.2
      exact beq_iff_eq.mp this
    unfold tgOk at ht
    simp only [Bool.and_eq_true, decide_eq_true_eq] at ht
    exact h hl (by rw [swap_lc, hb']) (by rw [G.hN]; exact ht.1.1)
theorem unpack_ok (G : Good X ts Γ c) {l : List T} {us : List Expr} {k : Nat} {p2 : Pos} (hc : chkE c ir e = true) (hn : isTupE e = false) (ht : chkTs c l us = true) (he : PE X e (uE Γ ts ir)) : PS X (.Assign [.Tuple us k p2] e pos) (uSt Γ ts (.unpack l ir)) := by
  have hs : swapsWithSole [.Tuple us k p2] e pos.line X.env = pure false := by
    cases e <;> first | rfl | (cases ir <;> simp [chkE] at hc)
  have hw : swappedStores [.Tuple us k p2] e X.env = pure none := by
    cases e <;> first | rfl | (simp [isTupE] at hn)
  refine ps_weak (ps_asg (uV_of he) (tg_ok G (.tup l) (.Tuple us k p2) (by simpa [chkT] using ht)) hs hw rfl) fun D σ H ⟨ρ, o, F, B, F0, h1, r, q⟩ => ?_
  unfold evS at h1
  rw [Option.bind_eq_some_iff] at h1
  obtain ⟨d, h1, h2⟩ := h1
  rw [Option.map_eq_some_iff] at h2
  obtain ⟨ρ', h2, rfl⟩ := h2
  refine ⟨ρ, d, F, h1, r.rep, fun v F' H' g k => ⟨ρ, d, ρ', F', h2, r.rep.grow g, k, fun σ' r' s' => q σ' F' H' ⟨r', r.f0, r.gr.trans r.f0.tab g, fun i ds p h h' => ?_⟩⟩⟩
  obtain ⟨a1, a2⟩ := asg_ow h2 h
  rw [s' i a1] at h'
  exact r.own i ds p a2 h'
theorem ret_ok (G : Good X ts Γ c) (hc : chkE c ir e = true) (he : PE X e (uE Γ ts ir)) : PS X (.Return (some e) pos) (uSt Γ ts (.ret ir)) := by
  refine ⟨fun pins s σ H D I ⟨ρ, o, F, B, F0, h1, r, q⟩ => ?_⟩
  unfold evS at h1
  cases hr : evE Γ ρ ir with
  | some x =>
    rw [hr] at h1
    have ho : o = .rt x := by
      split at h1 <;> simp_all
    subst ho
    exact (ps_ret he).run pins s σ H D I ⟨ρ, x, F, hr, r.rep, fun v F' H' g k => q v F' H' (r.gr.trans r.f0.tab g) (k.back r.f0.tab r.gr)⟩
  | none =>
    rw [hr] at h1
    by_cases hv : ∃ i, ir = .var i
    · obtain ⟨i, rfl⟩ := hv
      rw [bor_var] at h1
      cases e <;> simp only [chkE, Bool.false_eq_true] at hc
      cases hi : ρ[i]? with
      | none => rw [hi] at h1; simp at h1
      | some cl =>
        cases cl with
        | un => rw [hi] at h1; simp at h1
        | fr d => rw [hi] at h1; simp at h1
        | ow ds =>
          rw [hi] at h1
          simp only [Option.some.injEq] at h1
          subst h1
          obtain ⟨p, vs, e1, e2, e3, e4⟩ := r.rep.ow hi
          exact (ps_ret (var_ok G hc)).run pins s σ H D I ⟨_, e1, q _ F H r.gr ⟨p, vs, rfl, r.own i ds p hi e1, e2, e3, e4⟩⟩
    · rw [bor_nv hv] at h1
      simp at h1
theorem retN_ok : PS X (.Return none pos) (uSt Γ ts .retN) := ps_weak ps_retN fun D σ H ⟨ρ, o, F, B, F0, h1, r, q⟩ => by
  unfold evS at h1
  cases h1
  exact q .non F H r.gr .non
theorem if_ok {t : Expr} {it : E} {a b : List Stmt} {ia ib : List S} (ht : PT X t (uT Γ ts it)) (ha : PSs X a (uSs Γ ts ia)) (hb : PSs X b (uSs Γ ts ib)) : PS X (.If t a b pos) (uSt Γ ts (.ifs it ia ib)) := ps_weak (ps_if ht ha hb) fun D σ H ⟨ρ, o, F, B, F0, h1, r, q⟩ => by
  unfold evS at h1
  rw [Option.bind_eq_some_iff] at h1
  obtain ⟨k, h1, h2⟩ := h1
  refine ⟨ρ, k, F, h1, r.rep, fun F' H' g => ?_⟩
  split at h2
  · rename_i hk
    rw [if_pos hk]
    exact ⟨ρ, o, F', B, F0, h2, r.grow g, q⟩
  · rename_i hk
    rw [if_neg hk]
    exact ⟨ρ, o, F', B, F0, h2, r.grow g, q⟩
theorem brk_ok : PS X (.Break pos) (uSt Γ ts .brk) := ps_weak ps_break fun D σ H ⟨ρ, o, F, B, F0, h1, r, q⟩ => by
  unfold evS at h1; cases h1; exact q σ F H r
theorem cont_ok : PS X (.Continue pos) (uSt Γ ts .cont) := ps_weak ps_continue fun D σ H ⟨ρ, o, F, B, F0, h1, r, q⟩ => by
  unfold evS at h1; cases h1; exact q σ F H r
theorem pass_ok : PS X (.Pass pos) (uSt Γ ts .pass) := ps_weak ps_pass fun D σ H ⟨ρ, o, F, B, F0, h1, r, q⟩ => by
  unfold evS at h1; cases h1; exact q σ F H r
theorem passes (G : Good X ts Γ c) : PassesOwn (model X.prog X.w) X.A X.env X.xe := by
  rw [G.nox]; exact PassesOwn.never
theorem for_ok (G : Good X ts Γ c) {tg : T} {it : I} {body : List S} {tgE iter : Expr} {bodyE : List Stmt} (hi : PI X tgE iter (uI Γ ts true it)) (hg : PG X tgE (uG ts tg)) (hb : PSs X bodyE (uSs Γ ts body)) (hs : ∀ x, foldedSetIterable iter X.env x = pure x) :
    PS X (.For tgE iter bodyE [] pos) (uSt Γ ts (.loop tg it body)) := by
  refine ps_weak (ps_for (passes G) G.calm hi hg hb hs) fun D σ H ⟨ρ, o, F, B, F0, h1, r, q⟩ => ?_
  unfold evS at h1
  rw [Option.bind_eq_some_iff] at h1
  obtain ⟨items, h1, h2⟩ := h1
  refine ⟨ρ, items, F, h1, r.rep, fun J F1 H1 g1 wk => ?_⟩
  have r1 := r.grow g1
  refine ⟨fun i m σ' H' => m = items.length - i ∧ i ≤ items.length ∧ ∃ ρ' F', RepS ts B F0 ρ' σ' F' H' ∧ (∀ a o, F1 a = some o → F' a = some o) ∧ loopS (fun ρ' => evSs Γ ρ' body) tg (items.drop i) ρ' = some o,
    ⟨items.length, by simp, Nat.zero_le _, ρ, F1, r1, fun _ _ e => e, by simpa using h2⟩, fun i m σ' H' ⟨hm, hin, ρ', F', r', ff, hl⟩ => ?_⟩
  have md : Md true ts F1 H1 F' H' := ⟨r'.rep.fz, ff, fun z => by cases z⟩
  by_cases hlt : i < items.length
  · refine .inr ⟨wk.go i F' H' hlt md, fun σ2 H2 => ∃ ρ2 F2, RepS ts B F0 ρ2 σ2 F2 H2 ∧ (∀ a o, F1 a = some o → F2 a = some o) ∧ loopS (fun ρ' => evSs Γ ρ' body) tg (items.drop (i + 1)) ρ2 = some o, fun σ2 H2 hN => ⟨items.length - (i + 1), by omega, rfl, hlt, hN⟩, fun x H2 hy => ?_⟩
    obtain ⟨d, F2, e1, g2, k2⟩ := wk.yld i F' H' x H2 hlt md hy
    have hdrop : items.drop i = d :: items.drop (i + 1) := by
      obtain ⟨hh, e⟩ := List.getElem?_eq_some_iff.mp e1
      rw [← e]; exact List.drop_eq_getElem_cons hh
    rw [hdrop] at hl
    simp only [loopS, Option.bind_eq_some_iff] at hl
    obtain ⟨ρ2, h3, o2, h4, h5⟩ := hl
    have r2 := r'.grow g2
    refine ⟨ρ', d, ρ2, F2, h3, r2.rep, k2, fun σ2 rr2 s2 => ?_⟩
    have r3 : RepS ts B F0 ρ2 σ2 F2 H2 := ⟨rr2, r2.f0, r2.gr, fun j ds p k k' => by
      obtain ⟨a1, a2⟩ := asg_ow h3 k
      rw [s2 j a1] at k'
      exact r2.own j ds p a2 k'⟩
    refine ⟨ρ2, o2, F2, B, F2, h4, r3.raise, ?_⟩
    have ff2 : ∀ a o, F1 a = some o → F2 a = some o := fun a o e => g2.ff a o (ff a o e)
    cases o2 with
    | nx ρ3 => exact fun σ3 F3 H3 r4 => ⟨ρ3, F3, r4.lower r3.gr r.f0, fun a o e => r4.gr.ff a o (ff2 a o e), h5⟩
    | ct ρ3 => exact fun σ3 F3 H3 r4 => ⟨ρ3, F3, r4.lower r3.gr r.f0, fun a o e => r4.gr.ff a o (ff2 a o e), h5⟩
    | bk ρ3 =>
      cases h5
      exact fun σ3 F3 H3 r4 => q σ3 F3 H3 (r4.lower r3.gr r.f0)
    | rt v =>
      cases h5
      exact fun v' F3 H3 g4 k4 => q v' F3 H3 (r3.gr.lower g4) k4
  · have e : i = items.length := by omega
    subst e
    rw [List.drop_length] at hl
    cases hl
    exact .inl ⟨wk.stop F' H' md, q σ' F' H' r'⟩
theorem while_ok (G : Good X ts Γ c) {t : Expr} {it : E} {body : List S} {bodyE : List Stmt} (ht : PT X t (uT Γ ts it)) (hb : PSs X bodyE (uSs Γ ts body)) : PS X (.While t bodyE [] pos) (uSt Γ ts (.whl it body)) := by
  refine ps_weak (ps_while (passes G) ht hb) fun D σ H ⟨ρ, o, F, B, F0, h1, r, q⟩ => ?_
  unfold evS at h1
  refine ⟨fun m σ' H' => ∃ ρ' F', RepS ts B F0 ρ' σ' F' H' ∧ whileS (fun ρ' => test Γ ρ' it) (fun ρ' => evSs Γ ρ' body) m ρ' = some o, ⟨Γ.wh, ρ, F, r, h1⟩, fun m σ' H' ⟨ρ', F', r', h2⟩ => ?_⟩
  cases m with
  | zero => cases h2
  | succ m =>
    simp only [whileS, Option.bind_eq_some_iff] at h2
    obtain ⟨b, h2, h3⟩ := h2
    refine ⟨ρ', b, F', h2, r'.rep, fun F2 H2 g => ?_⟩
    have r2 := r'.grow g
    refine ite2 (fun hb => ?_) (fun hb => ?_)
    · rw [if_pos hb, Option.bind_eq_some_iff] at h3
      obtain ⟨o2, h3, h4⟩ := h3
      refine ⟨fun σ3 H3 => ∃ ρ3 F3, RepS ts B F0 ρ3 σ3 F3 H3 ∧ whileS (fun ρ' => test Γ ρ' it) (fun ρ' => evSs Γ ρ' body) m ρ3 = some o, fun σ3 H3 hN => ⟨m, Nat.lt_succ_self m, hN⟩, ρ', o2, F2, B, F0, h3, r2, ?_⟩
      cases o2 with
      | nx ρ3 => exact fun σ3 F3 H3 r4 => ⟨ρ3, F3, r4, h4⟩
      | ct ρ3 => exact fun σ3 F3 H3 r4 => ⟨ρ3, F3, r4, h4⟩
      | bk ρ3 => cases h4; exact q
      | rt v => cases h4; exact q
    · rw [if_neg hb] at h3
      cases h3
      exact q σ' F2 H2 r2
/-! ### lists that change -/
theorem few_of {cpos : Pos} {env : Env} (hc : chkE c ir e = true) : ((backTo cpos (starEach [e] env)).all (fun x => !x.1) && (backToKw cpos (keywordEach [] env)).all (fun x => x.1.isSome) && decide (([e] : List Expr).length + ([] : List Keyword).length + (if ([] : List Keyword).isEmpty then 0 else 1) < 30)) = true := by
  rw [star_of hc]; rfl
theorem ty_list {H : Hp} {p : Addr} {vs : List V} (h : H p = some (.lst vs)) : tyV X.K "list" (.ref p) H := .inl ⟨rfl, _, SqL.of h⟩
theorem append_ok (G : Good X ts Γ c) {y : Nat} {x : Str} {p1 p2 cp : Pos} (hy : varOk c y x = true) (hc : chkE c ir e = true) (hl : (p2.endLine == cp.line) = true) (he : PE X e (uE Γ ts ir)) : PS X (.Expr (.Call (.Attribute (.Name x p1) (Str.ofString "append") p2) [e] [] cp) pos) (uSt Γ ts (.append y ir)) := by
  refine ps_weak (ps_expr (pe_bm PySem.F.plainAttrs_list PySem.F.slot_list_append PySem.F.type_list_append mt_append (var_ok G hy) (pa_cons (uV_of he) pa_nil (star_of hc [])) rfl (few_of hc) hl (star_of hc []) rfl) rfl) fun D σ H ⟨ρ, o, F, B, F0, h1, r, q⟩ => ?_
  unfold evS at h1
  simp only [Option.bind_eq_some_iff] at h1
  obtain ⟨d, h1, ds, h2, h3⟩ := h1
  split at h3
  · rename_i hz
    cases h3
    have hd := owned_some h2
    obtain ⟨p, vs, e1, e2, e3, e4⟩ := r.rep.ow hd
    refine ⟨_, e1, ty_list e3, ρ, d, F, h1, r.rep, fun v F1 H1 g k => ?_⟩
    have r1 := r.grow g
    have e3' := g.lst r.rep.fz.tab e3 (fun _ z => by cases z)
    exact ⟨p, vs, v, rfl, rfl, e3', by rw [dp_length e4]; exact hz, q σ F1 _ (r1.change hd e1 (g.nof e3 e2) e3' (dp_append (FdAll_mono g.ff e4) (.cons k .nil)))⟩
  · cases h3
theorem extend_ok (G : Good X ts Γ c) {y : Nat} {x : Str} {p1 p2 cp : Pos} (hy : varOk c y x = true) (hc : chkE c ir e = true) (hl : (p2.endLine == cp.line) = true) (he : PE X e (uE Γ ts ir)) : PS X (.Expr (.Call (.Attribute (.Name x p1) (Str.ofString "extend") p2) [e] [] cp) pos) (uSt Γ ts (.extend y ir)) := by
  refine ps_weak (ps_expr (pe_bm PySem.F.plainAttrs_list PySem.F.slot_list_extend PySem.F.type_list_extend mt_extend (var_ok G hy) (pa_cons (uB_of G hc he) pa_nil (star_of hc [])) rfl (few_of hc) hl (star_of hc []) rfl) rfl) fun D σ H ⟨ρ, o, F, B, F0, h1, r, q⟩ => ?_
  unfold evS at h1
  simp only [Option.bind_eq_some_iff] at h1
  obtain ⟨d, h1, es, h0, ds, h2, h3⟩ := h1
  cases d <;> simp only [listD, reduceCtorEq, Option.some.injEq] at h0
  subst h0
  split at h3
  · rename_i hz
    cases h3
    have hd := owned_some h2
    obtain ⟨p, vs, e1, e2, e3, e4⟩ := r.rep.ow hd
    refine ⟨_, e1, ty_list e3, ρ, _, F, h1, r.rep, fun v F1 H1 g k => ?_⟩
    have r1 := r.grow g
    have e3' := g.lst r.rep.fz.tab e3 (fun _ z => by cases z)
    obtain ⟨p', ws, rfl, k2, k3⟩ := BR_list (g.fz r.rep.fz) k
    exact ⟨p, p', vs, ws, rfl, rfl, e3', k2, by rw [dp_length e4, dp_length k3]; exact hz, q σ F1 _ (r1.change hd e1 (g.nof e3 e2) e3' (dp_append (FdAll_mono g.ff e4) k3))⟩
  · cases h3
theorem popIx_some {n j : Nat} {k : Int} (h : popIx n k = some j) : -(2 ^ 63) ≤ k ∧ k < 2 ^ 63 ∧ ixN n k = some j := by
  unfold popIx at h
  split at h
  · rename_i hz
    simp only [Bool.and_eq_true, decide_eq_true_eq] at hz
    exact ⟨hz.1, hz.2, h⟩
  · cases h
theorem pop0_rd {y : Nat} {ρ : List Cell} {σ : L2.St} {F H B F0 : Hp} {ds : List PyData} {j : Nat} {d : PyData} {Q : VK} (r : RepS ts B F0 ρ σ F H) (hd : ρ[y]? = some (.ow ds)) (hj : popIx ds.length (-1) = some j) (hx : ds[j]? = some d)
    (q : ∀ v H', RepS ts B F0 (ρ.set y (.ow (ds.eraseIdx j))) σ F H' → Fd F v d → Q v H') : tBM0 X.K "list" rPop (tVar y) σ H Q := by
  obtain ⟨p, vs, e1, e2, e3, e4⟩ := r.rep.ow hd
  have hl := dp_length e4
  obtain ⟨v, hv, fv⟩ := dp_get e4 hx
  have hj2 : j = ds.length - 1 ∧ 0 < ds.length := by
    have hj := (popIx_some hj).2.2
    unfold ixN at hj
    rw [if_neg (by omega)] at hj
    split at hj
    · cases hj; omega
    · cases hj
  refine ⟨_, e1, ty_list e3, p, vs, v, rfl, rfl, e3, by rw [hl, ← hj2.1]; exact hv, ?_⟩
  have : vs.dropLast = vs.eraseIdx j := by
    rw [hj2.1, ← hl, List.eraseIdx_eq_dropLast (by omega)]
  rw [this]
  exact q v _ (r.change hd e1 e2 e3 (dp_eraseIdx j e4)) fv
theorem pop1_rd {y : Nat} {i : E} {ρ : List Cell} {σ : L2.St} {F H B F0 : Hp} {ds : List PyData} {k : Int} {j : Nat} {d : PyData} {Q : VK} (r : RepS ts B F0 ρ σ F H) (hi : (bor ρ i (evE Γ ρ i)).bind intD = some k) (hd : ρ[y]? = some (.ow ds)) (hj : popIx ds.length k = some j) (hx : ds[j]? = some d)
    (q : ∀ v F' H', RepS ts B F0 (ρ.set y (.ow (ds.eraseIdx j))) σ F' H' → Fd F' v d → Q v H') : tBM X.K "list" rPopAt (tVar y) (tCons (uB Γ ts i) tNil) σ H Q := by
  obtain ⟨p, vs, e1, e2, e3, e4⟩ := r.rep.ow hd
  have hl := dp_length e4
  obtain ⟨v, hv, fv⟩ := dp_get e4 hx
  rw [Option.bind_eq_some_iff] at hi
  obtain ⟨dk, hi, hk⟩ := hi
  cases intD_some hk
  obtain ⟨z1, z2, hj⟩ := popIx_some hj
  obtain ⟨s1, s2, s3, s4⟩ := ixN_seq hj
  refine ⟨_, e1, ty_list e3, ρ, _, F, hi, r.rep, fun u F1 H1 g b => ?_⟩
  have e3' := g.lst r.rep.fz.tab e3 (fun _ z => by cases z)
  refine ⟨p, vs, k, j, v, rfl, by rw [BR_int b], e3', z1, z2, by rw [hl]; exact s1, hv, ?_⟩
  exact q v F1 _ ((r.grow g).change hd e1 (g.nof e3 e2) e3' (dp_eraseIdx j (FdAll_mono g.ff e4))) (Fd_mono g.ff fv)
def popR (x : Option Nat) (ρ : List Cell) (d : PyData) : List Cell := match x with
  | none => ρ
  | some x => ρ.set x (.fr d)
theorem popS_inv {x : Option Nat} {y : Nat} {i : Option E} {ρ : List Cell} {o : Out} (h : evS Γ ρ (.pop x y i) = some o) : ∃ k ds j d, evO Γ ρ i = some k ∧ ρ[y]? = some (.ow ds) ∧ popIx ds.length (k.getD (-1)) = some j ∧ ds[j]? = some d ∧ o = .nx (popR x (ρ.set y (.ow (ds.eraseIdx j))) d) := by
  unfold evS at h
  simp only [Option.bind_eq_some_iff] at h
  obtain ⟨k, h1, ds, h2, j, h3, d, h4, h5⟩ := h
  refine ⟨k, ds, j, d, h1, owned_some h2, h3, h4, ?_⟩
  cases x <;> (cases h5; rfl)
abbrev popE (x : Str) (p1 p2 cp : Pos) (es : List Expr) : Expr := .Call (.Attribute (.Name x p1) (Str.ofString "pop") p2) es [] cp
theorem pop0_pe (G : Good X ts Γ c) {y : Nat} {x : Str} {p1 p2 cp : Pos} (hy : varOk c y x = true) (hl : (p2.endLine == cp.line) = true) : PE X (popE x p1 p2 cp []) (tBM0 X.K "list" rPop (tVar y)) :=
  pe_bm0 PySem.F.plainAttrs_list PySem.F.slot_list_pop PySem.F.type_list_pop mt_pop (var_ok G hy) rfl hl
theorem pop1_pe (G : Good X ts Γ c) {y : Nat} {x : Str} {p1 p2 cp : Pos} (hy : varOk c y x = true) (hc : chkE c ir e = true) (hl : (p2.endLine == cp.line) = true) (he : PE X e (uE Γ ts ir)) : PE X (popE x p1 p2 cp [e]) (tBM X.K "list" rPopAt (tVar y) (tCons (uB Γ ts ir) tNil)) :=
  pe_bm PySem.F.plainAttrs_list PySem.F.slot_list_pop PySem.F.type_list_pop mt_popAt (var_ok G hy) (pa_cons (uB_of G hc he) pa_nil (star_of hc [])) rfl (few_of hc) hl (star_of hc []) rfl
theorem popN0_ok (G : Good X ts Γ c) {y : Nat} {x : Str} {p1 p2 cp : Pos} (hy : varOk c y x = true) (hl : (p2.endLine == cp.line) = true) : PS X (.Expr (popE x p1 p2 cp []) pos) (uSt Γ ts (.pop none y none)) :=
  ps_weak (ps_expr (pop0_pe G hy hl) rfl) fun D σ H ⟨ρ, o, F, B, F0, h1, r, q⟩ => by
    obtain ⟨k, ds, j, d, e1, e2, e3, e4, rfl⟩ := popS_inv h1
    unfold evO at e1
    cases e1
    exact pop0_rd r e2 e3 e4 fun v H' r' _ => q σ F H' r'
theorem popN1_ok (G : Good X ts Γ c) {y : Nat} {x : Str} {p1 p2 cp : Pos} (hy : varOk c y x = true) (hc : chkE c ir e = true) (hl : (p2.endLine == cp.line) = true) (he : PE X e (uE Γ ts ir)) : PS X (.Expr (popE x p1 p2 cp [e]) pos) (uSt Γ ts (.pop none y (some ir))) :=
  ps_weak (ps_expr (pop1_pe G hy hc hl he) rfl) fun D σ H ⟨ρ, o, F, B, F0, h1, r, q⟩ => by
    obtain ⟨k, ds, j, d, e1, e2, e3, e4, rfl⟩ := popS_inv h1
    unfold evO at e1
    rw [Option.map_eq_some_iff] at e1
    obtain ⟨k', e1, rfl⟩ := e1
    exact pop1_rd r e1 e2 e3 e4 fun v F' H' r' _ => q σ F' H' r'
theorem popS0_ok (G : Good X ts Γ c) {y z : Nat} {x w : Str} {p0 p1 p2 cp : Pos} (hz : tgOk c z w = true) (hy : varOk c y x = true) (hl : (p2.endLine == cp.line) = true) : PS X (.Assign [.Name w p0] (popE x p1 p2 cp []) pos) (uSt Γ ts (.pop (some z) y none)) := by
  unfold tgOk at hz
  simp only [Bool.and_eq_true, decide_eq_true_eq] at hz
  obtain ⟨k1, k2⟩ := locB_ok G hz.1.2
  refine ps_weak (ps_set (i := z) G.nd (by rw [G.hN]; exact hz.1.1) k1 (pop0_pe G hy hl) rfl k2) fun D σ H ⟨ρ, o, F, B, F0, h1, r, q⟩ => ?_
  obtain ⟨k, ds, j, d, e1, e2, e3, e4, rfl⟩ := popS_inv h1
  unfold evO at e1
  cases e1
  exact pop0_rd r e2 e3 e4 fun v H' r' f => q _ F H' (r'.setFr f)
theorem popS1_ok (G : Good X ts Γ c) {y z : Nat} {x w : Str} {p0 p1 p2 cp : Pos} (hz : tgOk c z w = true) (hy : varOk c y x = true) (hc : chkE c ir e = true) (hl : (p2.endLine == cp.line) = true) (he : PE X e (uE Γ ts ir)) : PS X (.Assign [.Name w p0] (popE x p1 p2 cp [e]) pos) (uSt Γ ts (.pop (some z) y (some ir))) := by
  unfold tgOk at hz
  simp only [Bool.and_eq_true, decide_eq_true_eq] at hz
  obtain ⟨k1, k2⟩ := locB_ok G hz.1.2
  refine ps_weak (ps_set (i := z) G.nd (by rw [G.hN]; exact hz.1.1) k1 (pop1_pe G hy hc hl he) rfl k2) fun D σ H ⟨ρ, o, F, B, F0, h1, r, q⟩ => ?_
  obtain ⟨k, ds, j, d, e1, e2, e3, e4, rfl⟩ := popS_inv h1
  unfold evO at e1
  rw [Option.map_eq_some_iff] at e1
  obtain ⟨k', e1, rfl⟩ := e1
  exact pop1_rd r e1 e2 e3 e4 fun v F' H' r' f => q _ F' H' (r'.setFr f)
theorem assign_sub_of {o i : Expr} {ii : E} (hc : chkE c ii i = true) {env : Env} {pos : Pos} : ∀ v, assign (.Subscript o i pos) env v = (do
      let ov ← holding [v] (eval o env)
      let iv ← holding [v, ov] (eval i env)
      standAt pos
      holding [v, ov, iv] (setItem ov iv v)
      release [v, ov, iv] []) := by
  intro v
  cases i <;> first | rfl | (cases ii <;> simp [chkE] at hc)
theorem store_ok (G : Good X ts Γ c) {y : Nat} {x : Str} {p1 p2 : Pos} {ii : E} {i : Expr} (hy : varOk c y x = true) (hi : chkE c ii i = true) (hc : chkE c ir e = true) (hl : isLc e = false) (hii : PE X i (uE Γ ts ii)) (he : PE X e (uE Γ ts ir)) :
    PS X (.Assign [.Subscript (.Name x p1) i p2] e pos) (uSt Γ ts (.store y ii ir)) := by
  have hs : swapsWithSole [.Subscript (.Name x p1) i p2] e pos.line X.env = pure false := by
    unfold swapsWithSole
    exact swap_none hc hl _ _ _
  refine ps_weak (ps_asg (uV_of he) (pg_sub (var_ok G hy) (uB_of G hi hii) set_list (assign_sub_of hi)) hs rfl rfl) fun D σ H ⟨ρ, o, F, B, F0, h1, r, q⟩ => ?_
  unfold evS at h1
  simp only [Option.bind_eq_some_iff] at h1
  obtain ⟨d, h1, k, ⟨dk, h2, h3⟩, ds, h4, j, h5, h6⟩ := h1
  cases h6
  cases intD_some h3
  have hd := owned_some h4
  refine ⟨ρ, d, F, h1, r.rep, fun v F1 H1 g1 k1 => ?_⟩
  have r1 := r.grow g1
  obtain ⟨p, vs, e1, e2, e3, e4⟩ := r1.rep.ow hd
  refine ⟨_, e1, ρ, _, F1, h2, r1.rep, fun u F2 H2 g2 k2 => ?_⟩
  have e3' := g2.lst r1.rep.fz.tab e3 (fun _ z => by cases z)
  refine ⟨p, vs, k, j, rfl, BR_int k2, e3', by rw [dp_length e4]; exact h5, ?_⟩
  exact q σ F2 _ ((r1.grow g2).change hd e1 (g2.nof e3 e2) e3' (dp_set (Fd_mono g2.ff k1) j (FdAll_mono g2.ff e4)))
theorem augD_ok {op : Operator} {da db d : PyData} (h : augD op da db = some d) : OpR X (inplaceOp op) (fun x y H Q => ∃ F, Fz ts F H ∧ BR F H x da ∧ BR F H y db ∧ ∀ v, Fd F v d → Q v H) := by
  unfold augD at h
  split at h
  · cases h
    exact opR_weak iop_add fun x y H Q ⟨F, f, a, b, q⟩ => ⟨_, _, BR_int a, BR_int b, q _ (.int _)⟩
  · split at h
    · rename_i hz
      cases h
      exact opR_weak iop_add_str fun x y H Q ⟨F, f, a, b, q⟩ => ⟨_, _, BR_str a, BR_str b, hz, q _ (.str _)⟩
    · cases h
  · cases h
    exact opR_weak iop_sub fun x y H Q ⟨F, f, a, b, q⟩ => ⟨_, _, BR_int a, BR_int b, q _ (.int _)⟩
  · split at h
    · rename_i hz
      cases h
      exact opR_weak iop_mul fun x y H Q ⟨F, f, a, b, q⟩ => ⟨_, _, BR_int a, BR_int b, mulOk_c hz, q _ (.int _)⟩
    · cases h
  · split at h
    · rename_i hz
      cases h
      simp only [Bool.and_eq_true, decide_eq_true_eq] at hz
      exact opR_weak iop_fdiv fun x y H Q ⟨F, f, a, b, q⟩ => ⟨_, _, BR_int a, BR_int b, hz, q _ (.int _)⟩
    · cases h
  · split at h
    · rename_i hz
      cases h
      simp only [decide_eq_true_eq] at hz
      exact opR_weak iop_mod fun x y H Q ⟨F, f, a, b, q⟩ => ⟨_, _, BR_int a, BR_int b, hz, q _ (.int _)⟩
    · cases h
  · cases h
theorem aug_ok (G : Good X ts Γ c) {i : Nat} {x : Str} {op : Operator} {p1 : Pos} (hz : tgOk c i x = true) (he : PE X e (uB Γ ts ir)) : PS X (.AugAssign (.Name x p1) op e pos) (uSt Γ ts (.aug i op ir)) := by
  unfold tgOk at hz
  simp only [Bool.and_eq_true, decide_eq_true_eq] at hz
  obtain ⟨k1, k2⟩ := locB_ok G hz.1.2
  have ho : PIp X op (fun x y H Q => ∃ da db d, augD op da db = some d ∧ ∃ F, Fz ts F H ∧ BR F H x da ∧ BR F H y db ∧ ∀ v, Fd F v d → Q v H) := fun pins s σ H x y v u Q I rx ry ⟨da, db, d, h, q⟩ =>
    augD_ok h pins s σ H x y v u Q I rx ry q
  refine ps_weak (ps_aug (i := i) G.nd (by rw [G.hN]; exact hz.1.1) k1 he ho k2) fun D σ H ⟨ρ, o, F, B, F0, h1, r, q⟩ => ?_
  unfold evS at h1
  simp only [Option.bind_eq_some_iff, Option.map_eq_some_iff] at h1
  obtain ⟨da, h1, db, h2, d, h3, rfl⟩ := h1
  rw [bor_var] at h1
  have hx : ∃ v, σ[i]? = some (some v) ∧ BR F H v da := by
    split at h1
    · rename_i ds hd
      cases h1
      obtain ⟨p, vs, e1, e2, e3, e4⟩ := r.rep.ow hd
      exact ⟨_, e1, .inr ⟨p, vs, ds, rfl, rfl, e3, e4⟩⟩
    · rw [Option.map_eq_some_iff] at h1
      obtain ⟨r', h1, rfl⟩ := h1
      rw [evE_var] at h1
      split at h1
      · rename_i d hd
        cases h1
        obtain ⟨v, e1, e2⟩ := r.rep.fr hd
        exact ⟨v, e1, .inl e2⟩
      · cases h1
  obtain ⟨v, e1, e2⟩ := hx
  exact ⟨v, e1, ρ, db, F, h2, r.rep, fun u F1 H1 g k => ⟨da, db, d, h3, F1, g.fz r.rep.fz, e2.grow r.rep.fz.tab g, k, fun z f => q _ F1 H1 ((r.grow g).setFr f)⟩⟩
end
end Pi
end
section
set_option Elab.async false
set_option linter.all false
set_option maxRecDepth 100000
set_option maxHeartbeats 4000000
/-! Pure data over the hand layer: every body that passes the look. -/
namespace Pi
open PySem PySem.Spec PyProof.Rows L2
section
variable {c : Cc}
theorem tailss {i : Nat} {ss : List S} {sts : List Stmt} (h : chkSs c (.frz i :: ss) sts = true) : chkSs c ss sts = true := by
  unfold chkSs at h
  exact h
theorem headss {s : S} {ss : List S} {sts : List Stmt} (hs : ∀ i, s ≠ .frz i) (h : chkSs c (s :: ss) sts = true) : ∃ st sts', sts = st :: sts' ∧ chkS c s st = true ∧ chkSs c ss sts' = true := by
  cases sts with
  | nil => cases s <;> first | exact absurd rfl (hs _) | simp [chkSs] at h
  | cons st sts' => cases s <;> first | exact absurd rfl (hs _) | (simp only [chkSs, Bool.and_eq_true] at h; exact ⟨st, sts', rfl, h.1, h.2⟩)
theorem inv_set {i : Nat} {e : E} {st : Stmt} (h : chkS c (.set i e) st = true) : ∃ x p v pos, st = .Assign [.Name x p] v pos ∧ tgOk c i x = true ∧ chkE c e v = true := by
  cases st <;> try (simp [chkS] at h; done)
  rename_i tgs v pos
  match tgs, h with
  | [.Name x p], h =>
    simp only [chkS, Bool.and_eq_true] at h
    exact ⟨x, p, v, pos, rfl, h.1, h.2⟩
theorem inv_unpack {l : List T} {e : E} {st : Stmt} (h : chkS c (.unpack l e) st = true) : ∃ us k p v pos, st = .Assign [.Tuple us k p] v pos ∧ chkTs c l us = true ∧ chkE c e v = true ∧ isTupE v = false := by
  cases st <;> try (simp [chkS] at h; done)
  rename_i tgs v pos
  match tgs, h with
  | [.Tuple us k p], h =>
    simp only [chkS, Bool.and_eq_true, Bool.not_eq_true'] at h
    exact ⟨us, k, p, v, pos, rfl, h.1.1, h.1.2, h.2⟩
theorem inv_append {y : Nat} {e : E} {st : Stmt} (h : chkS c (.append y e) st = true) : ∃ x p1 p2 v cp pos, st = .Expr (.Call (.Attribute (.Name x p1) (Str.ofString "append") p2) [v] [] cp) pos ∧ varOk c y x = true ∧ chkE c e v = true ∧ (p2.endLine == cp.line) = true := by
  cases st <;> try (simp [chkS] at h; done)
  rename_i v pos
  cases v <;> try (simp [chkS] at h; done)
  rename_i f as ks cp
  cases f <;> try (simp [chkS] at h; done)
  rename_i o m p2
  cases o <;> try (simp [chkS] at h; done)
  match as, ks, h with
  | [v], [], h =>
    simp only [chkS, Bool.and_eq_true, decide_eq_true_eq] at h
    obtain ⟨⟨⟨rfl, h1⟩, h2⟩, h3⟩ := h
    exact ⟨_, _, _, v, cp, pos, rfl, h1, h2, h3⟩
theorem inv_extend {y : Nat} {e : E} {st : Stmt} (h : chkS c (.extend y e) st = true) : ∃ x p1 p2 v cp pos, st = .Expr (.Call (.Attribute (.Name x p1) (Str.ofString "extend") p2) [v] [] cp) pos ∧ varOk c y x = true ∧ chkE c e v = true ∧ (p2.endLine == cp.line) = true := by
  cases st <;> try (simp [chkS] at h; done)
  rename_i v pos
  cases v <;> try (simp [chkS] at h; done)
  rename_i f as ks cp
  cases f <;> try (simp [chkS] at h; done)
  rename_i o m p2
  cases o <;> try (simp [chkS] at h; done)
  match as, ks, h with
  | [v], [], h =>
    simp only [chkS, Bool.and_eq_true, decide_eq_true_eq] at h
    obtain ⟨⟨⟨rfl, h1⟩, h2⟩, h3⟩ := h
    exact ⟨_, _, _, v, cp, pos, rfl, h1, h2, h3⟩
theorem inv_shape {st : Stmt} {w : Option Str} {n : Str} {as : List Expr} {l : Bool} (h : popShape st = some (w, n, as, l)) : ∃ p1 p2 cp pos, l = (p2.endLine == cp.line) ∧
    ((w = none ∧ st = .Expr (popE n p1 p2 cp as) pos) ∨ ∃ w' p0, w = some w' ∧ st = .Assign [.Name w' p0] (popE n p1 p2 cp as) pos) := by
  unfold popShape at h
  split at h
  · split at h
    · rename_i hm
      cases h
      subst hm
      exact ⟨_, _, _, _, rfl, .inl ⟨rfl, rfl⟩⟩
    · cases h
  · split at h
    · rename_i hm
      cases h
      subst hm
      exact ⟨_, _, _, _, rfl, .inr ⟨_, _, rfl, rfl⟩⟩
    · cases h
  · cases h
theorem inv_pop {x : Option Nat} {y : Nat} {i : Option E} {st : Stmt} (h : chkS c (.pop x y i) st = true) : ∃ w n as l, popShape st = some (w, n, as, l) ∧ l = true ∧ varOk c y n = true ∧ popTg c x w = true ∧ ((as = [] ∧ chkO c i none = true) ∨ ∃ v, as = [v] ∧ chkO c i (some v) = true) := by
  unfold chkS at h
  split at h
  · rename_i w n as l hs
    simp only [Bool.and_eq_true] at h
    refine ⟨w, n, as, l, hs, h.1.1.1, h.1.1.2, h.1.2, ?_⟩
    match as, h.2 with
    | [], h2 => exact .inl ⟨rfl, h2⟩
    | [v], h2 => exact .inr ⟨v, rfl, h2⟩
  · cases h
theorem inv_store {y : Nat} {i e : E} {st : Stmt} (h : chkS c (.store y i e) st = true) : ∃ x p1 ix p2 v pos, st = .Assign [.Subscript (.Name x p1) ix p2] v pos ∧ varOk c y x = true ∧ chkE c i ix = true ∧ chkE c e v = true ∧ isLc v = false := by
  cases st <;> try (simp [chkS] at h; done)
  rename_i tgs v pos
  match tgs, h with
  | [.Subscript (.Name x p1) ix p2], h =>
    simp only [chkS, Bool.and_eq_true, Bool.not_eq_true'] at h
    exact ⟨x, p1, ix, p2, v, pos, rfl, h.1.1.1, h.1.1.2, h.1.2, h.2⟩
theorem inv_aug {i : Nat} {op : Operator} {e : E} {st : Stmt} (h : chkS c (.aug i op e) st = true) : ∃ x p v pos, st = .AugAssign (.Name x p) op v pos ∧ tgOk c i x = true ∧ varOk c i x = true ∧ chkE c e v = true := by
  cases st <;> try (simp [chkS] at h; done)
  rename_i tg o v pos
  cases tg <;> try (simp [chkS] at h; done)
  simp only [chkS, Bool.and_eq_true, decide_eq_true_eq] at h
  obtain ⟨⟨⟨rfl, h1⟩, h2⟩, h3⟩ := h
  exact ⟨_, _, v, pos, rfl, h1, h2, h3⟩
theorem inv_ret {e : E} {st : Stmt} (h : chkS c (.ret e) st = true) : ∃ v pos, st = .Return (some v) pos ∧ chkE c e v = true := by
  cases st <;> try (simp [chkS] at h; done)
  rename_i v pos
  cases v with
  | none => simp [chkS] at h
  | some v => exact ⟨v, pos, rfl, by simpa [chkS] using h⟩
theorem inv_loop {tg : T} {it : I} {b : List S} {st : Stmt} (h : chkS c (.loop tg it b) st = true) : ∃ t i bs pos, st = .For t i bs [] pos ∧ chkT c tg t = true ∧ it.ok tg = true ∧ chkI c it i = true ∧ chkSs c b bs = true := by
  cases st <;> try (simp [chkS] at h; done)
  rename_i t i bs or pos
  cases or with
  | nil =>
    simp only [chkS, Bool.and_eq_true] at h
    exact ⟨t, i, bs, pos, rfl, h.1.1.1, h.1.1.2, h.1.2, h.2⟩
  | cons _ _ => simp [chkS] at h
theorem inv_whl {e : E} {b : List S} {st : Stmt} (h : chkS c (.whl e b) st = true) : ∃ t bs pos, st = .While t bs [] pos ∧ chkE c e t = true ∧ chkSs c b bs = true := by
  cases st <;> try (simp [chkS] at h; done)
  rename_i t bs or pos
  cases or with
  | nil =>
    simp only [chkS, Bool.and_eq_true] at h
    exact ⟨t, bs, pos, rfl, h.1, h.2⟩
  | cons _ _ => simp [chkS] at h
theorem inv_ifs {e : E} {a b : List S} {st : Stmt} (h : chkS c (.ifs e a b) st = true) : ∃ t x y pos, st = .If t x y pos ∧ chkE c e t = true ∧ chkSs c a x = true ∧ chkSs c b y = true := by
  cases st <;> try (simp [chkS] at h; done)
  simp only [chkS, Bool.and_eq_true] at h
  exact ⟨_, _, _, _, rfl, h.1.1, h.1.2, h.2⟩
end
section
variable (Γ : Gm) (ts : List Addr)
/-- x = e -/
theorem set_all {X : Cx} {c : Cc} {i : Nat} {e : E} {x : Str} {p pos : Pos} {v : Expr} (G : Good X ts Γ c) (ht : tgOk c i x = true) (hc : chkE c e v = true) : PS X (.Assign [.Name x p] v pos) (uSt Γ ts (.set i e)) := by
  have s := sndE Γ ts e X c v G hc
  cases hl : isLc v with
  | false => exact set_ok G ht s.v (swap_none hc hl _ _ _)
  | true =>
    cases v <;> simp only [isLc, Bool.false_eq_true] at hl
    rename_i elt gs sc pl
    refine set_sw (t := fun _ _ _ => False) G ht s.v fun hy hsw hN => ?_
    cases e <;> try (simp [chkE] at hc; done)
    rename_i own eltI cl
    obtain ⟨_, _, _, _, e0, hb, hC, hE, h0, h2⟩ := inv_comp hc
    cases e0
    have hk := blkC_kind hb
    have hbo : BlkOk X.N X.env.scope sc (ownP c.N own) := by rw [G.hN, G.hsc]; exact blkOk_by hb
    have he : Blks X sc fun Y => PE Y elt (uV Γ ts eltI) := fun s H C cl fp => uV_of (sndE Γ ts eltI _ _ elt (G.blk sc hk s H C cl fp) hE).v
    match cl, hC, h0, h2 with
    | [.mk tg it ifs], hC, _, _ =>
      obtain ⟨t, i2, fs, gs', rfl, k1, k2, k3, k4, k5, k6, k7⟩ := inv_C hC
      have hg : gs' = [] := by cases gs' <;> simp [chkC] at k7 ⊢
      subst hg
      exact ps_weak (ps_setLc G.calm G.nd hN hy hsw (sndI Γ ts it X c i2 t G k4 k3 k1 false) hbo (fun s H C cl fp => tg_ok (G.blk sc hk s H C cl fp) tg t k1) (fun s H C cl fp => sndIfs Γ ts ifs _ _ fs (G.blk sc hk s H C cl fp) k5 k6) he (fold_ofI k4 _)) (set_rd (comp1_rd k2))
    | [.mk tg it ifs, .mk tg1 it1 ifs1], hC, _, _ =>
      obtain ⟨t, i2, fs, gs', rfl, k1, k2, k3, k4, k5, k6, k7⟩ := inv_C hC
      obtain ⟨t1, i1, fs1, gs1, rfl, m1, m2, m3, m4, m5, m6, m7⟩ := inv_C k7
      have hg : gs1 = [] := by cases gs1 <;> simp [chkC] at m7 ⊢
      subst hg
      exact ps_weak (ps_setLc2 (vs1 := slotsL tg1) G.calm G.nd hN hy hsw (sndI Γ ts it X c i2 t G k4 k3 k1 false) hbo (fun i hm => by rw [own_snd]; exact slotsL_own m2 hm) (fun s H C cl fp => tg_ok (G.blk sc hk s H C cl fp) tg t k1) (fun s H C cl fp => sndIfs Γ ts ifs _ _ fs (G.blk sc hk s H C cl fp) k5 k6)
        (fun s H C cl fp => sndI Γ ts it1 _ _ i1 t1 (G.blk sc hk s H C cl fp) m4 m3 m1 true) (fun s H C cl fp => tg_ok (G.blk sc hk s H C cl fp) tg1 t1 m1) (fun s H C cl fp => sndIfs Γ ts ifs1 _ _ fs1 (G.blk sc hk s H C cl fp) m5 m6) he (fold_ofI k4 _) (fold_ofI m4)) (set_rd (comp2_rd k2))
    | [], _, h0, _ => simp at h0
    | _ :: _ :: _ :: _, _, _, h2 => simp at h2
mutual
theorem sndS : ∀ (s : S) (X : Cx) (c : Cc) (st : Stmt), Good X ts Γ c → chkS c s st = true → PS X st (uSt Γ ts s)
  | .frz i, X, c, st, G, h => by cases st <;> simp [chkS] at h
  | .set i e, X, c, st, G, h => by
    obtain ⟨x, p, v, pos, rfl, h1, h2⟩ := inv_set h
    exact set_all Γ ts G h1 h2
  | .unpack l e, X, c, st, G, h => by
    obtain ⟨us, k, p, v, pos, rfl, h1, h2, h3⟩ := inv_unpack h
    exact unpack_ok G h2 h3 h1 (sndE Γ ts e X c v G h2).v
  | .append y e, X, c, st, G, h => by
    obtain ⟨x, p1, p2, v, cp, pos, rfl, h1, h2, h3⟩ := inv_append h
    exact append_ok G h1 h2 h3 (sndE Γ ts e X c v G h2).v
  | .extend y e, X, c, st, G, h => by
    obtain ⟨x, p1, p2, v, cp, pos, rfl, h1, h2, h3⟩ := inv_extend h
    exact extend_ok G h1 h2 h3 (sndE Γ ts e X c v G h2).v
  | .pop x y none, X, c, st, G, h => by
    obtain ⟨w, n, as, l, hs, rfl, h1, h2, h3 | ⟨v, h3, h4⟩⟩ := inv_pop h
    · obtain ⟨rfl, _⟩ := h3
      obtain ⟨p1, p2, cp, pos, hl, ⟨rfl, rfl⟩ | ⟨w', p0, rfl, rfl⟩⟩ := inv_shape hs
      · cases x with
        | none => exact popN0_ok G h1 hl.symm
        | some z => cases h2
      · cases x with
        | none => cases h2
        | some z => exact popS0_ok G h2 h1 hl.symm
    · simp [chkO] at h4
  | .pop x y (some i), X, c, st, G, h => by
    obtain ⟨w, n, as, l, hs, rfl, h1, h2, h3 | ⟨v, h3, h4⟩⟩ := inv_pop h
    · simp [chkO] at h3
    · subst h3
      unfold chkO at h4
      obtain ⟨p1, p2, cp, pos, hl, ⟨rfl, rfl⟩ | ⟨w', p0, rfl, rfl⟩⟩ := inv_shape hs
      · cases x with
        | none => exact popN1_ok G h1 h4 hl.symm (sndE Γ ts i X c v G h4).v
        | some z => cases h2
      · cases x with
        | none => cases h2
        | some z => exact popS1_ok G h2 h1 h4 hl.symm (sndE Γ ts i X c v G h4).v
  | .store y i e, X, c, st, G, h => by
    obtain ⟨x, p1, ix, p2, v, pos, rfl, h1, h2, h3, h4⟩ := inv_store h
    exact store_ok G h1 h2 h3 h4 (sndE Γ ts i X c ix G h2).v (sndE Γ ts e X c v G h3).v
  | .aug i op e, X, c, st, G, h => by
    obtain ⟨x, p, v, pos, rfl, h1, h2, h3⟩ := inv_aug h
    exact aug_ok G h1 (uB_of G h3 (sndE Γ ts e X c v G h3).v)
  | .ret e, X, c, st, G, h => by
    obtain ⟨v, pos, rfl, h1⟩ := inv_ret h
    exact ret_ok G h1 (sndE Γ ts e X c v G h1).v
  | .retN, X, c, st, G, h => by
    cases st <;> try (simp [chkS] at h; done)
    rename_i v pos
    cases v with
    | none => exact retN_ok
    | some v => simp [chkS] at h
  | .ifs t a b, X, c, st, G, h => by
    obtain ⟨x, y, z, pos, rfl, h1, h2, h3⟩ := inv_ifs h
    exact if_ok (sndE Γ ts t X c x G h1).t (sndSs a X c y G h2) (sndSs b X c z G h3)
  | .loop tg it b, X, c, st, G, h => by
    obtain ⟨t, i, bs, pos, rfl, h1, h2, h3, h4⟩ := inv_loop h
    exact for_ok G (sndI Γ ts it X c i t G h3 h2 h1 true) (tg_ok G tg t h1) (sndSs b X c bs G h4) (fold_ofI h3 _)
  | .whl t b, X, c, st, G, h => by
    obtain ⟨x, bs, pos, rfl, h1, h2⟩ := inv_whl h
    exact while_ok G (sndE Γ ts t X c x G h1).t (sndSs b X c bs G h2)
  | .brk, X, c, st, G, h => by
    cases st <;> first | exact brk_ok | simp [chkS] at h
  | .cont, X, c, st, G, h => by
    cases st <;> first | exact cont_ok | simp [chkS] at h
  | .pass, X, c, st, G, h => by
    cases st <;> first | exact pass_ok | simp [chkS] at h
theorem sndSs : ∀ (ss : List S) (X : Cx) (c : Cc) (sts : List Stmt), Good X ts Γ c → chkSs c ss sts = true → PSs X sts (uSs Γ ts ss)
  | [], X, c, [], G, h => nil_ok
  | [], X, c, _ :: _, G, h => by simp [chkSs] at h
  | s :: ss, X, c, sts, G, h => by
    by_cases hf : ∃ i, s = .frz i
    · obtain ⟨i, rfl⟩ := hf
      exact frz_ok (sndSs ss X c sts G (tailss h))
    · obtain ⟨st, sts', rfl, h1, h2⟩ := headss (fun i z => hf ⟨i, z⟩) h
      exact cons_ok (sndS s X c st G h1) (sndSs ss X c sts' G h2)
end
end
end Pi
end
section
set_option Elab.async false
set_option linter.all false
set_option maxRecDepth 100000
set_option maxHeartbeats 1000000
/-! Pure data over the hand layer: the defs. -/
namespace Pi
open PySem PySem.Spec PyProof.Rows L2
/-- what a def promises: its table's run -/
def prom (ts : List Addr) (n : Nat) (g : List PyData → Option Res) : Sp := fun vs H Q _ => ∃ F ds r, FdAll F vs ds ∧ Fz ts F H ∧ ds.length = n ∧ g ds = some r ∧ ∀ v F' H', Grow ts F H F' H' → RR H F' H' v r → Q v H'
/-- the level of calls -/
def lev (g l : Nat) : Nat := l * (g + 1)
section
variable (P : Program) (w : World) (K : PySem.W.Frag) (mg : Str → Option Value) (base : Heap) (ts : List Addr) (T : List Df) (wh g : Nat)
structure Fact (x : Str) (n : Nat) (fa : Addr) (fd : FuncData) (ps : List Str) : Prop where
  mgf : mg x = some (.ref fa)
  kp : PySem.W.keepIn K (.ref fa) = true
  bd : Binds K fd ps []
  len : ps.length = n
def DefAt (l i : Nat) (x : Str) (n : Nat) : Prop := ∃ fa fd ps, Fact K mg x n fa fd ps ∧ (∀ ds r, run T wh l i ds = some r → ds.length = n) ∧ FnOk P w K mg base CX0 (lev g l) fa fd ps (prom ts n (run T wh l i))
end
section
variable {P : Program} {w : World} {K : PySem.W.Frag} {mg : Str → Option Value} {base : Heap} {ts : List Addr} {T : List Df} {wh g : Nat}
theorem prom_len {n : Nat} {f : List PyData → Option Res} {vs : List V} {H : Hp} {Q : VK} {E : XK} (h : prom ts n f vs H Q E) : vs.length = n := by
  obtain ⟨F, ds, r, h1, _, h3, _⟩ := h
  rw [dp_length h1, h3]
theorem defAt0 {i : Nat} {x : Str} {n : Nat} (h : ∃ fa fd ps, Fact K mg x n fa fd ps) : DefAt P w K mg base ts T wh g 0 i x n := by
  obtain ⟨fa, fd, ps, h⟩ := h
  refine ⟨fa, fd, ps, h, fun ds r z => ?_, fun vs H Q E z => (prom_len z).trans h.len.symm, fun A outer s H args us vs Q E _ _ _ _ z => ?_⟩
  · unfold run at z
    cases z
  obtain ⟨F, ds, r, _, _, _, z, _⟩ := z
  unfold run at z
  cases z
/-- a def of the text -/
structure Ent where
  x : Str
  st : Stmt
  N : List Str
  ps : List Str
  F : Fn
  tb : Bool
structure Ent.Ok (e : Ent) (fs : List (Str × Nat)) (bs : List Str) (g : Nat) : Prop where
  sc : FnScope e.N e.ps (defScope e.st)
  np : e.F.np = e.ps.length
  nn : e.F.nn = e.N.length
  chk : chkSs ⟨e.N, defScope e.st, defScope e.st, fs, bs, g, e.tb⟩ e.F.body (defBody e.st) = true
/-- where it stands -/
structure EntAt (K : PySem.W.Frag) (mg : Str → Option Value) (base : Heap) (ts : List Addr) (e : Ent) (fa : Addr) (fd : FuncData) : Prop where
  mgf : mg e.x = some (.ref fa)
  kp : PySem.W.keepIn K (.ref fa) = true
  bd : Binds K fd e.ps []
  ex : ∃ (oc : Value) (od : Option Addr) (kV doc pm : Value) (an : Option Addr) (cdv ct : Value) (osl : Array (Option Value)), fd = PySem.W.fnOf e.x e.x (defArgs e.st) (defBody e.st) (defScope e.st) .none kV doc pm an cdv ct ∧ K.lookup fa = some ⟨oc, od, .func fd, osl⟩ ∧ PySem.W.codeIn K cdv e.x = true ∧
    (e.tb = true → ∃ c tp, cdv = .ref c ∧ GxR.TabB base mg c tp ∧ tp ∈ ts)
theorem start_len {F : Fn} {ds : List PyData} (h : ds.length = F.np) (hn : F.np ≤ F.nn) : (start0 F ds).length = F.nn := by
  unfold start0
  rw [List.length_append, List.length_map, List.length_replicate, h]
  omega
theorem start_get {F : Fn} {ds : List PyData} {i : Nat} {c : Cell} (h : (start0 F ds)[i]? = some c) : (∃ d, ds[i]? = some d ∧ c = .fr d) ∨ (ds.length ≤ i ∧ c = .un) := by
  unfold start0 at h
  by_cases hi : i < ds.length
  · rw [List.getElem?_append_left (by simpa using hi), List.getElem?_map] at h
    rw [Option.map_eq_some_iff] at h
    obtain ⟨d, h1, h2⟩ := h
    exact .inl ⟨d, h1, h2.symm⟩
  · rw [List.getElem?_append_right (by simpa using hi), List.getElem?_replicate] at h
    split at h
    · cases h
      exact .inr ⟨by omega, rfl⟩
    · cases h
theorem rep_start {F : Fn} {N : List Str} {vs : List V} {ds : List PyData} {Fh H : Hp} (f : Fz ts Fh H) (h : FdAll Fh vs ds) (hl : ds.length = F.np) (hn : F.np ≤ F.nn) (hN : F.nn = N.length) : RepS ts H Fh (start0 F ds) (L2.start N vs) Fh H where
  rep :=
    { fz := f
      len := by
        rw [start_len hl hn]
        unfold L2.start
        rw [List.length_append, List.length_map, List.length_replicate, dp_length h, hl, hN]
        omega
      cell := fun i c o h1 h2 => by
        rcases start_get h1 with ⟨d, e1, rfl⟩ | ⟨e1, rfl⟩
        · obtain ⟨v, e2, e3⟩ := dp_get h e1
          have hi : i < vs.length := (List.getElem?_eq_some_iff.mp e2).1
          unfold L2.start at h2
          rw [List.getElem?_append_left (by simpa using hi), List.getElem?_map, e2] at h2
          cases h2
          exact e3
        · trivial
      dis := fun i j ds' es p _ h1 _ => by
        rcases start_get h1 with ⟨d, _, z⟩ | ⟨_, z⟩ <;> cases z }
  f0 := f.bz
  gr := Grow.refl f
  own := fun i ds' p h1 => by
    rcases start_get h1 with ⟨d, _, z⟩ | ⟨_, z⟩ <;> cases z
theorem ended_ok {B F0 : Hp} {Q : VK} {o : Out} {r : Res} (h : ended (some o) = some r) (q : ∀ v F' H', Grow ts F0 B F' H' → RR B F' H' v r → Q v H') : EndsOk ts B F0 { nx := fun _ H' => Q .non H', rt := Q } o := by
  cases o with
  | rt r' =>
    cases h
    exact q
  | nx ρ =>
    cases h
    intro σ' F' H' rep
    exact q .non F' H' rep.gr .non
  | bk ρ => cases h
  | ct ρ => cases h
/-- a def of the text keeps its promise -/
theorem body_fn {fs : List (Str × Nat)} {bs : List Str} {l i : Nat} {e : Ent} {fa : Addr} {fd : FuncData} (hT : T[i]? = some (.body e.F)) (ok : e.Ok fs bs g) (at_ : EntAt K mg base ts e fa fd)
    (hbs : ∀ b ∈ bs, mg b = none) (hfs : ∀ x f, fs.lookup x = some f → ∃ n, DefAt P w K mg base ts T wh g l f x n) : (∀ ds r, run T wh (l + 1) i ds = some r → ds.length = e.ps.length) ∧ FnOk P w K mg base CX0 (lev g (l + 1)) fa fd e.ps (prom ts e.ps.length (run T wh (l + 1) i)) := by
  obtain ⟨oc, od, kV, doc, pm, an, cdv, ct, osl, rfl, lk, hcd, htb⟩ := at_.ex
  have hrun : ∀ ds r, run T wh (l + 1) i ds = some r → ds.length = e.ps.length ∧ ended (evSs ⟨run T wh l, wh⟩ (start0 e.F ds) e.F.body) = some r := fun ds r h => by
    unfold run at h
    rw [hT] at h
    simp only at h
    split at h
    · rename_i hl
      exact ⟨hl.trans ok.np, h⟩
    · cases h
  have hpl : e.ps.length ≤ e.N.length := by have := congrArg List.length ok.sc.pre; rw [List.length_take] at this; omega
  refine ⟨fun ds r h => (hrun ds r h).1, ?_⟩
  have hlev : lev g (l + 1) = (lev g l + g) + 1 := by
    unfold lev
    rw [Nat.succ_mul]
    omega
  rw [hlev]
  refine fn_of lk hcd ok.sc (fun vs H Q E h => prom_len h) fun A outer s H vs Q E hr hsp => ?_
  obtain ⟨F, ds, r, h1, h2, h3, h4, q⟩ := hsp
  obtain ⟨_, h5⟩ := hrun ds r h4
  have G : Good (cxOf CX0 P w K mg base e.N e.x (defScope e.st) fa cdv A outer s H E).nox ts ⟨run T wh l, wh⟩ ⟨e.N, defScope e.st, defScope e.st, fs, bs, g, e.tb⟩ :=
    { hN := rfl
      hsc := rfl
      nd := ok.sc.nd
      calm := rfl
      nox := rfl
      kind := ok.sc.kind
      fn := fun _ _ => rfl
      bs := hbs
      un := by
        have := hr.un
        show (A.deeper _).units + 16 * g + 100 < cLine
        omega
      dp := by
        have := hr.dp
        show (A.deeper _).depth + 3 * g + 3 < recursionLimit
        omega
      tb := fun z => by
        obtain ⟨c, tp, e1, e2, e3⟩ := htb z
        exact ⟨c, tp, e1, e2, e3⟩
      fs := fun x f hx => by
        obtain ⟨n, fa', fd', ps', k1, k2, k3⟩ := hfs x f hx
        refine ⟨fa', fd', ps', lev g l, k1.mgf, k1.kp, k1.bd, hr, fun ds' r' z => (k2 ds' r' z).trans k1.len.symm, ?_⟩
        rw [k1.len]
        exact k3 }
  refine ⟨_, (sndSs ⟨run T wh l, wh⟩ ts e.F.body _ _ (defBody e.st) G ok.chk).nox, ?_⟩
  obtain ⟨o, ho⟩ : ∃ o, evSs ⟨run T wh l, wh⟩ (start0 e.F ds) e.F.body = some o := by
    cases z : evSs ⟨run T wh l, wh⟩ (start0 e.F ds) e.F.body with
    | none => rw [z] at h5; cases h5
    | some o => exact ⟨o, rfl⟩
  rw [ho] at h5
  exact ⟨start0 e.F ds, o, F, H, F, ho, rep_start h2 h1 (h3.trans ok.np.symm) (by rw [ok.np, ok.nn]; exact hpl) ok.nn, ended_ok h5 q⟩
/-- the step for a def of the text -/
theorem body_step {fs : List (Str × Nat)} {bs : List Str} {l i : Nat} {e : Ent} {fa : Addr} {fd : FuncData} (hT : T[i]? = some (.body e.F)) (ok : e.Ok fs bs g) (at_ : EntAt K mg base ts e fa fd)
    (hbs : ∀ b ∈ bs, mg b = none) (hfs : ∀ x f, fs.lookup x = some f → ∃ n, DefAt P w K mg base ts T wh g l f x n) : DefAt P w K mg base ts T wh g (l + 1) i e.x e.ps.length :=
  ⟨fa, fd, e.ps, ⟨at_.mgf, at_.kp, at_.bd, rfl⟩, body_fn hT ok at_ hbs hfs⟩
/-- all defs, at every level: names by their places -/
theorem defs_all {nm : List (Str × Nat)} (hfact : ∀ (i : Nat) (x : Str) (n : Nat), nm[i]? = some (x, n) → ∃ fa fd ps, Fact K mg x n fa fd ps)
    (hstep : ∀ l : Nat, (∀ (i : Nat) (x : Str) (n : Nat), nm[i]? = some (x, n) → DefAt P w K mg base ts T wh g l i x n) → ∀ (i : Nat) (x : Str) (n : Nat), nm[i]? = some (x, n) → DefAt P w K mg base ts T wh g (l + 1) i x n) :
    ∀ (l i : Nat) (x : Str) (n : Nat), nm[i]? = some (x, n) → DefAt P w K mg base ts T wh g l i x n
  | 0, i, x, n, h => defAt0 (hfact i x n h)
  | l + 1, i, x, n, h => hstep l (defs_all hfact hstep l) i x n h
end
end Pi
end
section
set_option Elab.async false
set_option linter.all false
set_option maxRecDepth 100000
set_option maxHeartbeats 1000000
/-! Pure data over the hand layer: all defs of a law's program, and the end. -/
namespace Pi
open PySem PySem.Spec PyProof.Rows L2
/-- a def by its text, or shown by hand -/
inductive Itm where
  | d (e : Ent)
  | h (x : Str) (n : Nat) (f : List PyData → Option Res)
def Itm.nm : Itm → Str × Nat
  | .d e => (e.x, e.ps.length)
  | .h x n _ => (x, n)
def Itm.df : Itm → Df
  | .d e => .body e.F
  | .h _ _ f => .hand f
def fsOf (its : List Itm) (k : Nat) : List (Str × Nat) := match its with
  | [] => []
  | a :: r => (a.nm.1, k) :: fsOf r (k + 1)
theorem fsOf_ok : ∀ {its : List Itm} {k : Nat} {x : Str} {f : Nat}, (fsOf its k).lookup x = some f → ∃ n, k ≤ f ∧ (its.map Itm.nm)[f - k]? = some (x, n)
  | [], _, _, _, h => by simp [fsOf] at h
  | a :: r, k, x, f, h => by
    unfold fsOf at h
    rw [List.lookup_cons] at h
    cases q : (x == a.nm.1) with
    | true =>
      rw [q] at h
      cases h
      refine ⟨a.nm.2, Nat.le_refl _, ?_⟩
      rw [beq_iff_eq.mp q, Nat.sub_self]
      rfl
    | false =>
      rw [q] at h
      obtain ⟨n, h1, h2⟩ := fsOf_ok (its := r) h
      refine ⟨n, by omega, ?_⟩
      have e : f - k = (f - (k + 1)) + 1 := by omega
      rw [e]
      exact h2
section
variable {P : Program} {w : World} {K : PySem.W.Frag} {mg : Str → Option Value} {base : Heap} {ts : List Addr} {wh g : Nat} {its : List Itm} {fs : List (Str × Nat)} {bs : List Str}
theorem itms_all (hf : fs = fsOf its 0) (hbs : ∀ b ∈ bs, mg b = none) (hd : ∀ (i : Nat) (e : Ent), its[i]? = some (.d e) → e.Ok fs bs g ∧ ∃ fa fd, EntAt K mg base ts e fa fd)
    (hh : ∀ (i : Nat) (x : Str) (n : Nat) (f : List PyData → Option Res), its[i]? = some (.h x n f) → (∃ fa fd ps, Fact K mg x n fa fd ps) ∧
      ∀ l : Nat, (∀ (j : Nat) (x : Str) (n : Nat), (its.map Itm.nm)[j]? = some (x, n) → DefAt P w K mg base ts (its.map Itm.df) wh g l j x n) → DefAt P w K mg base ts (its.map Itm.df) wh g (l + 1) i x n) :
    ∀ (l i : Nat) (x : Str) (n : Nat), (its.map Itm.nm)[i]? = some (x, n) → DefAt P w K mg base ts (its.map Itm.df) wh g l i x n := by
  have key : ∀ {i : Nat} {x : Str} {n : Nat}, (its.map Itm.nm)[i]? = some (x, n) → (∃ e, its[i]? = some (.d e) ∧ x = e.x ∧ n = e.ps.length) ∨ ∃ f, its[i]? = some (.h x n f) := fun {i x n} h => by
    rw [List.getElem?_map, Option.map_eq_some_iff] at h
    obtain ⟨a, h1, h2⟩ := h
    cases a with
    | d e =>
      cases h2
      exact .inl ⟨e, h1, rfl, rfl⟩
    | h x' n' f =>
      cases h2
      exact .inr ⟨f, h1⟩
  refine defs_all (fun i x n h => ?_) fun l ih i x n h => ?_
  · rcases key h with ⟨e, h1, rfl, rfl⟩ | ⟨f, h1⟩
    · obtain ⟨_, fa, fd, a⟩ := hd i e h1
      exact ⟨fa, fd, e.ps, a.mgf, a.kp, a.bd, rfl⟩
    · exact (hh i x n f h1).1
  · rcases key h with ⟨e, h1, rfl, rfl⟩ | ⟨f, h1⟩
    · obtain ⟨ok, fa, fd, a⟩ := hd i e h1
      refine body_step (e := e) (by rw [List.getElem?_map, h1]; rfl) ok a hbs fun x f hx => ?_
      rw [hf] at hx
      obtain ⟨n, _, h2⟩ := fsOf_ok hx
      exact ⟨n, ih f x n h2⟩
    · exact (hh i x n f h1).2 l ih
/-- where a def stands, by what is known of the written part -/
theorem entAt_mk {h : Heap} {e : Ent} (X : K.In h) (G : h.Ns mainGlobals mg) {f : Addr} {oc : Value} {od an : Option Addr} {kV doc pm cdv ct : Value} {osl : Array (Option Value)}
    (a : PySem.W.nsIn K mainGlobals e.x = some (some (.ref f))) (l : K.lookup f = some ⟨oc, od, .func (PySem.W.fnOf e.x e.x (defArgs e.st) (defBody e.st) (defScope e.st) .none kV doc pm an cdv ct), osl⟩) (c : PySem.W.codeIn K cdv e.x = true) (k : PySem.W.keepIn K (.ref f) = true)
    (hb : ∀ (kV doc pm : Value) (an : Option Addr) (cdv ct : Value) (us : List Value), us.length = e.ps.length → bindArgs (PySem.W.fnOf e.x e.x (defArgs e.st) (defBody e.st) (defScope e.st) .none kV doc pm an cdv ct) ⟨us, []⟩ = pure (e.ps.zip us))
    (ht : e.tb = true → ∃ c tp, cdv = .ref c ∧ GxR.TabB base mg c tp ∧ tp ∈ ts) : EntAt K mg base ts e f (PySem.W.fnOf e.x e.x (defArgs e.st) (defBody e.st) (defScope e.st) .none kV doc pm an cdv ct) :=
  ⟨PySem.W.mg_of X G a, k, .all (hb kV doc pm an cdv ct), oc, od, kV, doc, pm, an, cdv, ct, osl, rfl, l, c, ht⟩
end
/-! ### the end -/
/-- the script as the law gets it: locked, or a list -/
def IsScr (d : PyData) (ns : List Int) : Prop := d = .list (ns.map .int) ∨ d = .dict [(.none, .list (ns.map .int))]
def tabEmpty : Obj := { cls := .none, data := .fields #[] }
/-- the tables of the defs in view are empty -/
def Tabs0 (q : Program) (K : PySem.W.Frag) (mg : Str → Option Value) (h : Heap) : Prop := ∀ x : Str, ((recsOf q).any fun e => e.name == x) = true → ∀ fa, mg x = some (.ref fa) → LamX.OwnTab K fa h
theorem walk_ofTabs {l : PySem.W.OpenLaw} {n k : Nat} {q : Program} {loose : List Str} {XP : (Str → Option Value) → Heap → Prop} {YP : World → Heap → Prop} {d : DefRec} {K : Params → PySem.W.Frag} {CX : World → CXT} {x : Str}
    (hn : l.most = some n) (hn2 : n ≤ sizeLine) (hdf : d.params.defaults = []) (hr : Room k callerA) (hY : ∀ (w : World) (h : Heap), YP w h → (K w.params).In h)
    (F : ∀ (w : World) (mg : Str → Option Value) (fa : Addr) (h : Heap), (K w.params).In h → h.Ns mainGlobals mg → mg d.name = some (.ref fa) → Tabs0 q (K w.params) mg h → LamX.LawAtS l w (K w.params) (CX w) k n x mg fa h)
    (hCX : ∀ (w : World) (H : Hp) (s : Shared) (e : Value) (s' : Shared), CX w [] H s (fun _ _ _ => False) e s' → False) :
    PySem.W.WalkO q loose XP YP l.row.toRowW d [] (fun f vs => PySem.call f vs) := by
  refine Att.attach_callB hn hdf fun w s₀ s₁ mg mb fa o pm cd doc a vs ns G Y ho hd hcd hmg hobj hints hlen hbits hg => ?_
  have KX := hY w _ Y
  have own : Tabs0 q (K w.params) mg s₁.heap := fun x hrec fa' hfa' c P o1 fd1 e dd vs1 sl k1 k2 k3 k4 k5 => by
    obtain ⟨dL, hm, hn1⟩ := List.any_eq_true.mp hrec
    have hn2 : dL.name = x := beq_iff_eq.mp hn1
    obtain ⟨a', o', fd', c', P', h1, h2, h3, h4, h5, h6⟩ := G.T.tab dL hm
    rw [hn2, hfa'] at h1
    cases h1
    have g1 := KX _ _ k1
    rw [g1] at h2
    cases h2
    rw [k2] at h3
    cases h3
    rw [k3] at h4
    cases h4
    obtain ⟨⟨oc, vc, e1, _, e3, e4⟩, hP⟩ := h6
    have g2 := KX _ _ k4
    rw [g2] at e1
    cases e1
    cases e3
    rw [k5] at e4
    cases e4
    exact hP
  obtain ⟨fd, cs, sp, hT, nT, C, hb, hsp, hF⟩ := F w mg fa _ KX G.T.g hmg own
  exact LamX.law_callTs KX G.T.g G.T.b G.T.builtins G.T.nolimit hg hT nT C G.T.bmain hobj hints (Nat.le_trans hlen hn2) hr hF hb (fun H hH hS => hsp H a ns hlen hbits hH hS) fun H e s' => hCX w H s₁ e s'
/-- what a table of code objects is asked -/
def tabIn (K : PySem.W.Frag) (f c tp : Addr) : Bool := (match K.lookup f with
  | some ⟨_, _, .func fd, _⟩ => (match fd.code with | .ref c' => c' == c | _ => false)
  | _ => false) && (match K.lookup c with
  | some ⟨_, _, .fields vs, _⟩ => (match (vs[11]? : Option Value) with | some (.ref P) => P == tp | _ => false)
  | _ => false) && (match K.lookup tp with | none => true | some _ => false) && PySem.W.codeHdIn K c tp
def noList (K : PySem.W.Frag) : Bool := K.all fun p => match p.2.cls with
  | .type c => !(c == "list")
  | _ => true
theorem frag_mem {a : Addr} {o : Obj} : ∀ {l : List (Addr × Obj)}, l.lookup a = some o → (a, o) ∈ l
  | [], h => by cases h
  | (b, u) :: r, h => by
    rw [List.lookup_cons] at h
    cases q : (a == b) with
    | true =>
      rw [q] at h
      cases h
      rw [beq_iff_eq.mp q]
      exact List.mem_cons_self
    | false =>
      rw [q] at h
      exact List.mem_cons_of_mem _ (frag_mem h)
theorem noList_ok {K : PySem.W.Frag} (h : noList K = true) {a : Addr} {o : Obj} (e : K.lookup a = some o) : o.cls ≠ .type "list" := fun z => by
  have hm : (a, o) ∈ K := frag_mem e
  have := List.all_eq_true.mp h _ hm
  simp only at this
  rw [z] at this
  revert this
  decide
theorem tab_of {K : PySem.W.Frag} {mg : Str → Option Value} {h : Heap} {q : Program} {x : Str} {f c tp : Addr} (own : Tabs0 q K mg h) (hx : ((recsOf q).any fun e => e.name == x) = true) (hf : mg x = some (.ref f)) (ht : tabIn K f c tp = true) :
    h.get? tp = some tabEmpty ∧ K.lookup tp = none ∧ PySem.W.codeHdIn K c tp = true := by
  unfold tabIn at ht
  simp only [Bool.and_eq_true] at ht
  obtain ⟨⟨⟨h1, h2⟩, h3⟩, h4⟩ := ht
  split at h1
  · rename_i oc od fd sl e1
    split at h1
    · rename_i c' e2
      obtain rfl : c' = c := beq_iff_eq.mp h1
      split at h2
      · rename_i oc' od' vs sl' e3
        split at h2
        · rename_i P e4
          obtain rfl : P = tp := beq_iff_eq.mp h2
          split at h3
          · rename_i e5
            exact ⟨own x hx f hf _ P _ fd _ _ vs _ e1 rfl e2 e3 e4, e5, h4⟩
          · cases h3
        · cases h2
      · cases h2
    · cases h1
  · cases h1
section
variable {l : PySem.W.OpenLaw} {w : World} {K : PySem.W.Frag} {mg : Str → Option Value} {wh g L n : Nat} {its : List Itm} {fs : List (Str × Nat)} {bs : List Str} {cs : List (Addr × Addr)} {q : Program}
/-- the law's promise, by the run of its table -/
theorem lawAt {fa : Addr} {h : Heap} {e : Ent} {i : Nat} {x : Str} {fd : FuncData} (KX : K.In h) (hnl : noList K = true) (hf : fs = fsOf its 0) (hbs : ∀ b ∈ bs, mg b = none)
    (hcs : ∀ p ∈ cs, h.get? p.2 = some tabEmpty ∧ K.lookup p.2 = none ∧ PySem.W.codeHdIn K p.1 p.2 = true)
    (hd : ∀ base : Heap, K.In base → base.Ns mainGlobals mg → (∀ p ∈ cs, GxR.TabB base mg p.1 p.2) → ∀ (i : Nat) (e : Ent), its[i]? = some (.d e) → e.Ok fs bs g ∧ ∃ fa fd, EntAt K mg base (cs.map (·.2)) e fa fd)
    (hh : ∀ base : Heap, K.In base → base.Ns mainGlobals mg → (∀ p ∈ cs, GxR.TabB base mg p.1 p.2) → ∀ (i : Nat) (x : Str) (n : Nat) (f : List PyData → Option Res), its[i]? = some (.h x n f) → (∃ fa fd ps, Fact K mg x n fa fd ps) ∧
      ∀ l' : Nat, (∀ (j : Nat) (x : Str) (n : Nat), (its.map Itm.nm)[j]? = some (x, n) → DefAt l.prog w K mg base (cs.map (·.2)) (its.map Itm.df) wh g l' j x n) → DefAt l.prog w K mg base (cs.map (·.2)) (its.map Itm.df) wh g (l' + 1) i x n)
    (hi : its[i]? = some (.d e)) (hps : e.ps = [x]) (hat : ∀ base : Heap, K.In base → base.Ns mainGlobals mg → (∀ p ∈ cs, GxR.TabB base mg p.1 p.2) → EntAt K mg base (cs.map (·.2)) e fa fd)
    (hb : ∀ (s : Shared) (u : Value), BindsTo s fd ⟨[u], []⟩ [(x, u)])
    (hrun : ∀ (ns : List Int) (d : PyData), IsScr d ns → ns.length ≤ n → (∀ z ∈ ns, Builtin.Int.intBits z ≤ 1048576) → run (its.map Itm.df) wh (L + 1) i [d] = some (.val (.bool true))) :
    LamX.LawAtS l w K CX0 (lev g (L + 1)) n x mg fa h := by
  refine ⟨fd, cs, prom (cs.map (·.2)) 1 (run (its.map Itm.df) wh (L + 1) i), fun p hp => (hcs p hp).1, fun p hp => (hcs p hp).2.1, fun p hp => PySem.W.codeHd_of_K KX (hcs p hp).2.2, hb, fun H a ns hl hbits hT hS => ?_, fun base hK hN hTB => ?_⟩
  · -- the script
    have hR : Rd H a (.lst (ns.map V.int)) := by
      rcases hS with hS | ⟨o, _, _, e1, e2, _⟩
      · exact hS
      · exact absurd e2 (noList_ok hnl e1)
    have tabs : ∀ b ∈ cs.map (·.2), H b = some (.tbl #[]) := fun b hb' => by
      obtain ⟨p, hp, e⟩ := List.mem_map.mp hb'
      rw [← e]
      exact hT p hp
    have fz : Fz (cs.map (·.2)) (fun b => if b = a then H a else none) H := by
      refine ⟨fun b o e => ?_, fun b hb' => ⟨#[], tabs b hb', True.intro⟩, fun b hb' => ?_⟩
      · by_cases z : b = a
        · rw [if_pos z] at e
          rw [z]; exact e
        · rw [if_neg z] at e; cases e
      · by_cases z : b = a
        · subst z
          have h1 := tabs b hb'
          rcases hR with q | ⟨o, q⟩ <;> rw [q] at h1 <;> cases h1
        · rw [if_neg z]
    have fin : ∀ (d : PyData), IsScr d ns → Fd (fun b => if b = a then H a else none) (.ref a) d → prom (cs.map (·.2)) 1 (run (its.map Itm.df) wh (L + 1) i) [.ref a] H (fun v _ => v = .bl true) fun _ _ _ => False := fun d hs hd' =>
      ⟨_, [d], _, .cons hd' .nil, fz, rfl, hrun ns d hs hl hbits, fun v F' H' _ hr => by cases hr; rfl⟩
    rcases hR with q | ⟨o, q⟩
    · exact fin _ (.inl rfl) (.lst (by rw [if_pos rfl]; exact q) (dp_of_ints ns))
    · exact fin _ (.inr rfl) (.scr (by rw [if_pos rfl]; exact q) (dp_of_ints ns))
  · have hTB' : ∀ p ∈ cs, GxR.TabB base mg p.1 p.2 := fun p hp => ⟨(hTB p hp).code, (hTB p hp).bm, (hTB p hp).gP⟩
    have all := itms_all (P := l.prog) (w := w) (wh := wh) hf hbs (hd base hK hN hTB') (hh base hK hN hTB')
    have ok := (hd base hK hN hTB' i e hi).1
    have r := body_fn (P := l.prog) (w := w) (T := its.map Itm.df) (wh := wh) (l := L) (i := i) (by rw [List.getElem?_map, hi]; rfl) ok (hat base hK hN hTB') hbs fun x f hx => by
      rw [hf] at hx
      obtain ⟨n, _, h2⟩ := fsOf_ok hx
      exact ⟨n, all L f x n h2⟩
    rw [hps] at r
    exact r.2
end
end Pi
namespace Pi
open PySem PySem.Spec PyProof.Rows L2
/-- what is known of a def from the written part -/
structure DefK (K : PySem.W.Frag) (x : Str) (st : Stmt) (f : Addr) (cd : Value) : Prop where
  a : PySem.W.nsIn K mainGlobals x = some (some (.ref f))
  l : ∃ (oc : Value) (od an : Option Addr) (kV doc pm ct : Value) (osl : Array (Option Value)), K.lookup f = some ⟨oc, od, .func (PySem.W.fnOf x x (defArgs st) (defBody st) (defScope st) .none kV doc pm an cd ct), osl⟩
  c : PySem.W.codeIn K cd x = true
  k : PySem.W.keepIn K (.ref f) = true
theorem defK_mk {K : PySem.W.Frag} {x : Str} {st : Stmt} {f : Addr} {oc : Value} {od an : Option Addr} {kV doc pm cdv ct : Value} {osl : Array (Option Value)} (a : PySem.W.nsIn K mainGlobals x = some (some (.ref f)))
    (l : K.lookup f = some ⟨oc, od, .func (PySem.W.fnOf x x (defArgs st) (defBody st) (defScope st) .none kV doc pm an cdv ct), osl⟩) (c : PySem.W.codeIn K cdv x = true) (k : PySem.W.keepIn K (.ref f) = true) : DefK K x st f cdv :=
  ⟨a, ⟨_, _, _, _, _, _, _, _, l⟩, c, k⟩
section
variable {K : PySem.W.Frag} {mg : Str → Option Value} {base : Heap} {ts : List Addr}
theorem DefK.at {h : Heap} {e : Ent} {f : Addr} {cd : Value} (d : DefK K e.x e.st f cd) (X : K.In h) (G : h.Ns mainGlobals mg)
    (hb : ∀ (kV doc pm : Value) (an : Option Addr) (cdv ct : Value) (us : List Value), us.length = e.ps.length → bindArgs (PySem.W.fnOf e.x e.x (defArgs e.st) (defBody e.st) (defScope e.st) .none kV doc pm an cdv ct) ⟨us, []⟩ = pure (e.ps.zip us)) :
    ∃ fd : FuncData, (∀ (s : Shared) (us : List Value), us.length = e.ps.length → BindsTo s fd ⟨us, []⟩ (e.ps.zip us)) ∧ ∀ (base : Heap) (ts : List Addr), (e.tb = true → ∃ c tp, cd = .ref c ∧ GxR.TabB base mg c tp ∧ tp ∈ ts) → EntAt K mg base ts e f fd := by
  obtain ⟨oc, od, an, kV, doc, pm, ct, osl, l⟩ := d.l
  exact ⟨_, fun s us hl => .of_eq (hb kV doc pm an cd ct us hl), fun base ts ht => entAt_mk X G d.a l d.c d.k hb ht⟩
theorem refIs {cd : Value} {c : Addr} (h : (match cd with | .ref c' => c' == c | _ => false) = true) : cd = .ref c := by
  cases cd with
  | ref c' => rw [beq_iff_eq.mp h]
  | _ => cases h
/-- its code object -/
theorem DefK.code {x : Str} {st : Stmt} {f c tp : Addr} {cd : Value} (d : DefK K x st f cd) (t : tabIn K f c tp = true) : cd = .ref c := by
  obtain ⟨oc, od, an, kV, doc, pm, ct, osl, l⟩ := d.l
  unfold tabIn at t
  rw [l] at t
  simp only [Bool.and_eq_true] at t
  exact refIs t.1.1.1
end
end Pi
end
section
set_option Elab.async false
set_option linter.all false
set_option maxRecDepth 100000
set_option maxHeartbeats 1000000
/-! Pure data over the hand layer: reading the runs; the laws' common helpers. -/
namespace Pi
open PySem PySem.Spec
/-! ### tools -/
theorem run_body {T : List Df} {wh l i : Nat} {F : Fn} {ds : List PyData} (hT : T[i]? = some (.body F)) (hl : ds.length = F.np) : Pi.run T wh (l + 1) i ds = ended (evSs ⟨Pi.run T wh l, wh⟩ (start0 F ds) F.body) := by
  show (match T[i]? with | some (.body F) => if ds.length = F.np then ended (evSs ⟨Pi.run T wh l, wh⟩ (start0 F ds) F.body) else none | some (.hand g) => g ds | none => none) = _
  rw [hT]
  show (if ds.length = F.np then ended (evSs ⟨Pi.run T wh l, wh⟩ (start0 F ds) F.body) else none) = _
  rw [if_pos hl]
theorem intsD_map : ∀ ns : List Int, intsD (ns.map .int) = some ns
  | [] => rfl
  | n :: ns => by
    show (intsD (ns.map .int)).map (n :: ·) = _
    rw [intsD_map ns]; rfl
theorem boolsD_map : ∀ ns : List Bool, boolsD (ns.map .bool) = some ns
  | [] => rfl
  | n :: ns => by
    show (boolsD (ns.map .bool)).map (n :: ·) = _
    rw [boolsD_map ns]; rfl
/-- a walk that gives g of each item -/
theorem collect_flat {f : PyData → Option (List PyData)} {g : PyData → List PyData} : ∀ {ds : List PyData}, (∀ d ∈ ds, f d = some (g d)) → (ds.flatMap g).length ≤ sizeLine → collect f ds = some (ds.flatMap g)
  | [], _, _ => rfl
  | d :: ds, h, hl => by
    rw [List.flatMap_cons, List.length_append] at hl
    unfold collect
    rw [h d (by simp), Option.bind_some, collect_flat (fun e he => h e (by simp [he])) (by omega), Option.bind_some, if_pos hl, List.flatMap_cons]
theorem collect_map {α : Type} {f : PyData → Option (List PyData)} {e : α → PyData} {g : α → PyData} {xs : List α} (h : ∀ x ∈ xs, f (e x) = some [g x]) (hl : xs.length ≤ sizeLine) : collect f (xs.map e) = some (xs.map g) := by
  induction xs with
  | nil => rfl
  | cons x xs ih =>
    rw [List.map_cons]
    unfold collect
    rw [h x (by simp), Option.bind_some, ih (fun y hy => h y (by simp [hy])) (by simp at hl; omega), Option.bind_some, if_pos (by simpa [Nat.add_comm] using hl)]
    rfl
/-- .. of those that pass a test -/
theorem collect_filter {α : Type} {f : PyData → Option (List PyData)} {e : α → PyData} {p : α → Bool} {g : α → PyData} {xs : List α} (h : ∀ x ∈ xs, f (e x) = some (if p x then [g x] else [])) (hl : xs.length ≤ sizeLine) : collect f (xs.map e) = some ((xs.filter p).map g) := by
  have key : ∀ ys : List α, (∀ x ∈ ys, f (e x) = some (if p x then [g x] else [])) → ys.length ≤ sizeLine → collect f (ys.map e) = some ((ys.filter p).map g) ∧ ((ys.filter p).map g).length ≤ ys.length := by
    intro ys
    induction ys with
    | nil => intro _ _; exact ⟨rfl, Nat.le_refl _⟩
    | cons x xs ih =>
      intro h hl
      simp only [List.length_cons] at hl
      obtain ⟨h1, h2⟩ := ih (fun y hy => h y (by simp [hy])) (by omega)
      rw [List.map_cons]
      unfold collect
      rw [h x (by simp), Option.bind_some, h1, Option.bind_some]
      cases hp : p x with
      | true =>
        rw [if_pos rfl, List.filter_cons_of_pos hp]
        rw [if_pos (by simp only [List.length_singleton]; omega)]
        exact ⟨rfl, by simp only [List.map_cons, List.length_cons]; omega⟩
      | false =>
        rw [if_neg Bool.false_ne_true, List.filter_cons_of_neg (by rw [hp]; exact Bool.false_ne_true)]
        rw [if_pos (by simp only [List.length_nil]; omega)]
        exact ⟨rfl, by simp only [List.length_cons]; omega⟩
  exact (key xs h hl).1
theorem seek_all {α : Type} {f : PyData → Option Bool} {e : α → PyData} {p : α → Bool} : ∀ {xs : List α}, (∀ x ∈ xs, f (e x) = some (p x)) → seek false f (xs.map e) = some (xs.all p)
  | [], _ => rfl
  | x :: xs, h => by
    rw [List.map_cons]
    unfold seek
    rw [h x (by simp), Option.bind_some, seek_all (fun y hy => h y (by simp [hy])), List.all_cons]
    cases p x <;> rfl
theorem seek_any {α : Type} {f : PyData → Option Bool} {e : α → PyData} {p : α → Bool} : ∀ {xs : List α}, (∀ x ∈ xs, f (e x) = some (p x)) → seek true f (xs.map e) = some (xs.any p)
  | [], _ => rfl
  | x :: xs, h => by
    rw [List.map_cons]
    unfold seek
    rw [h x (by simp), Option.bind_some, seek_any (fun y hy => h y (by simp [hy])), List.any_cons]
    cases p x <;> rfl
/-- a loop that runs to its end -/
theorem loopS_inv {f : List Cell → Option Out} {tg : T} {P : Nat → List Cell → Prop} : ∀ {ds : List PyData} {ρ : List Cell} {n : Nat}, P n ρ →
    (∀ k d r, ds[k]? = some d → P (n + k) r → ∃ r', asg tg d r = some r' ∧ ∃ r2, (f r' = some (.nx r2) ∨ f r' = some (.ct r2)) ∧ P (n + k + 1) r2) → ∃ ρ', loopS f tg ds ρ = some (.nx ρ') ∧ P (n + ds.length) ρ'
  | [], ρ, n, h0, _ => ⟨ρ, rfl, h0⟩
  | d :: ds, ρ, n, h0, hs => by
    obtain ⟨r', h1, r2, h2, h3⟩ := hs 0 d ρ rfl h0
    have ih := loopS_inv (ds := ds) (ρ := r2) (n := n + 1) h3 fun k d' r hd hr => by
      have := hs (k + 1) d' r (by simpa using hd) (by rw [show n + (k + 1) = n + 1 + k by omega]; exact hr)
      rw [show n + (k + 1) + 1 = n + 1 + k + 1 by omega] at this
      exact this
    obtain ⟨ρ', e1, e2⟩ := ih
    refine ⟨ρ', ?_, by rw [show n + (d :: ds).length = n + 1 + ds.length by simp; omega]; exact e2⟩
    unfold loopS
    rw [h1, Option.bind_some]
    rcases h2 with h2 | h2 <;> rw [h2] <;> exact e1
theorem loop_inv {f : List Cell → Option Out} {tg : T} (P : Nat → List Cell → Prop) {ds : List PyData} {ρ : List Cell} (h0 : P 0 ρ)
    (hs : ∀ k d r, ds[k]? = some d → P k r → ∃ r', asg tg d r = some r' ∧ ∃ r2, (f r' = some (.nx r2) ∨ f r' = some (.ct r2)) ∧ P (k + 1) r2) : ∃ ρ', loopS f tg ds ρ = some (.nx ρ') ∧ P ds.length ρ' := by
  have := loopS_inv (f := f) (tg := tg) (P := P) (ds := ds) (ρ := ρ) (n := 0) h0 fun k d r hd hr => by
    rw [Nat.zero_add] at hr ⊢
    exact hs k d r hd hr
  rw [Nat.zero_add] at this
  exact this
theorem sizeLine_big : 100000 < sizeLine := by decide
/-! ### the helpers of all laws -/
def fCell : Fn := ⟨2, 2, [
  .ifs (.cmp .Lt (.var 1) (.bi .len [.var 0])) [.ret (.ix (.var 0) (.var 1))] [],
  .ret (.bin .Add (.bin .Mult (.const (.int 5)) (.var 1)) (.const (.int 3)))]⟩
def fDraws : Fn := ⟨2, 8, [
  .set 2 (.bi .abs [.bi .int [.var 0]]),
  .set 3 (.cmp .GtE (.var 2) (.bin .Pow (.const (.int 10)) (.const (.int 18)))),
  .frz 2,
  .set 4 (.var 2),
  .set 5 (.lst []),
  .loop (.name 6) (.range [.var 1]) [.ifs (.and (.var 3) (.cmp .Gt (.var 2) (.const (.int 0)))) [.append 5 (.bin .Mod (.bi .int [.var 2]) (.const (.int 5040))), .set 2 (.bin .FloorDiv (.var 2) (.const (.int 5040)))] [.set 7 (.bin .Mod (.bi .int [.bin .Add (.bin .Add (.bin .Mult (.var 4) (.const (.int 48271))) (.bin .Mult (.bin .Add (.var 6) (.const (.int 1))) (.const (.int 69621)))) (.const (.int 11))]) (.const (.int 2147483647))), .set 7 (.bin .Mod (.bi .int [.bin .Add (.bin .Mult (.var 7) (.var 7)) (.bin .Mult (.const (.int 40692)) (.bin .Add (.var 6) (.const (.int 3))))]) (.const (.int 2147483399))), .append 5 (.bin .Mod (.bi .int [.bin .FloorDiv (.var 7) (.const (.int 64))]) (.const (.int 5040)))]],
  .ret (.var 5)]⟩
def fIsInt : Fn := ⟨1, 1, [
  .ret (.and (.bi .isInt [.var 0]) (.not (.bi .isBool [.var 0])))]⟩
def fIs (iInt iIs : Nat) : Fn := ⟨2, 3, [
  .ifs (.cmp .Is (.var 1) (.const .none)) [.ret (.cmp .Is (.var 0) (.const .none))] [],
  .ifs (.bi .isBool [.var 1]) [.ret (.and (.bi .isBool [.var 0]) (.cmp .Eq (.var 0) (.var 1)))] [],
  .ifs (.bi .isInt [.var 1]) [.ret (.and (.call iInt [.var 0]) (.cmp .Eq (.var 0) (.var 1)))] [],
  .ifs (.bi .isStr [.var 1]) [.ret (.and (.bi .isStr [.var 0]) (.cmp .Eq (.var 0) (.var 1)))] [],
  .ifs (.or (.not (.bi .isTuple [.var 0])) (.cmp .NotEq (.bi .len [.var 0]) (.bi .len [.var 1]))) [.ret (.const (.bool false))] [],
  .ret (.bi .all [.comp [2] (.call iIs [.ix (.var 0) (.var 2), .ix (.var 1) (.var 2)]) [.mk (.name 2) (.range [.bi .len [.var 1]]) []]])]⟩
/-! ### judgements: what a term gives -/
structure EvE (Γ : Gm) (ρ : List Cell) (e : E) (r : Res) : Prop where
  h : evE Γ ρ e = some r
structure EvB (Γ : Gm) (ρ : List Cell) (e : E) (d : PyData) : Prop where
  h : bor ρ e (evE Γ ρ e) = some d
structure EvA (Γ : Gm) (ρ : List Cell) (l : List E) (ds : List PyData) : Prop where
  h : evA Γ ρ l = some ds
structure EvL (Γ : Gm) (ρ : List Cell) (l : List E) (ds : List PyData) : Prop where
  h : evL Γ ρ l = some ds
structure EvT (Γ : Gm) (ρ : List Cell) (l : List E) (b : Bool) : Prop where
  h : evT Γ ρ l = some b
structure EvI (Γ : Gm) (fz : Bool) (ρ : List Cell) (it : I) (ds : List PyData) : Prop where
  h : evI Γ fz ρ it = some ds
structure EvO (Γ : Gm) (ρ : List Cell) (o : Option E) (k : Option Int) : Prop where
  h : evO Γ ρ o = some k
structure EvH (Γ : Gm) (ρ : List Cell) (x : PyData) (c : Ch) (b : Bool) : Prop where
  h : evH Γ ρ x c = some b
structure Tst (Γ : Gm) (ρ : List Cell) (e : E) (b : Bool) : Prop where
  h : test Γ ρ e = some b
structure EvSs (Γ : Gm) (ρ : List Cell) (ss : List S) (o : Out) : Prop where
  h : evSs Γ ρ ss = some o
/-- the element of a comprehension's turn -/
def elemC (Γ : Gm) (ρ : List Cell) (own : List Nat) (t : T) (ifs : List E) (elt : E) (d : PyData) : Option (List PyData) :=
  (asg t d (wipeC (wipeC ρ own) (slotsL t))).bind fun ρ' => (evT Γ ρ' ifs).bind fun b => if b then (evE Γ ρ' elt).map fun r => [r.dat] else some []
/-- .. of a generator's -/
def elemG (Γ : Gm) (stop : Bool) (ρ : List Cell) (own : List Nat) (t : T) (ifs : List E) (elt : E) (d : PyData) : Option Bool :=
  (asg t d (wipeC (wipeC ρ own) (slotsL t))).bind fun ρ' => (evT Γ ρ' ifs).bind fun b => if b then ((evE Γ ρ' elt).map Res.dat).bind boolD else some (!stop)
def bodyS (Γ : Gm) (body : List S) (ρ : List Cell) : Option Out := evSs Γ ρ body
section
variable {Γ : Gm} {ρ ρ' : List Cell}
theorem e_const {d : PyData} : EvE Γ ρ (.const d) (.val d) := ⟨by unfold evE; rfl⟩
theorem e_var {i : Nat} {d : PyData} (h : ρ[i]? = some (.fr d)) : EvE Γ ρ (.var i) (.val d) := ⟨by rw [evE_var, h]⟩
theorem b_fr {i : Nat} {d : PyData} (h : ρ[i]? = some (.fr d)) : EvB Γ ρ (.var i) d := ⟨by rw [bor_var, evE_var, h]; rfl⟩
theorem b_ow {i : Nat} {ds : List PyData} (h : ρ[i]? = some (.ow ds)) : EvB Γ ρ (.var i) (.list ds) := ⟨by rw [bor_var, h]⟩
theorem b_of {e : E} {r : Res} (h : EvE Γ ρ e r) : EvB Γ ρ e r.dat := ⟨bor_some h.h⟩
theorem b_val {e : E} {d : PyData} (h : EvE Γ ρ e (.val d)) : EvB Γ ρ e d := ⟨bor_some h.h⟩
theorem b_new {e : E} {ds : List PyData} (h : EvE Γ ρ e (.new ds)) : EvB Γ ρ e (.list ds) := ⟨bor_some h.h⟩
theorem e_bin {op : Operator} {a b : E} {x y : PyData} {r : Res} (ha : EvB Γ ρ a x) (hb : EvB Γ ρ b y) (h : binD op x y = some r) : EvE Γ ρ (.bin op a b) r := ⟨by unfold evE; rw [ha.h, Option.bind_some, hb.h, Option.bind_some, h]⟩
theorem e_neg {a : E} {i : Int} (ha : EvB Γ ρ a (.int i)) : EvE Γ ρ (.neg a) (.val (.int (-i))) := ⟨by unfold evE; rw [ha.h, Option.bind_some]; rfl⟩
theorem e_not {a : E} {x : PyData} {b : Bool} (ha : EvB Γ ρ a x) (h : truD x = some b) : EvE Γ ρ (.not a) (.val (.bool (!b))) := ⟨by unfold evE; rw [ha.h, Option.bind_some, h]; rfl⟩
theorem e_cmp {op : CmpOp} {a b : E} {x y : PyData} {r : Bool} (ha : EvB Γ ρ a x) (hb : EvB Γ ρ b y) (h : cmpD op x y = some r) : EvE Γ ρ (.cmp op a b) (.val (.bool r)) := ⟨by unfold evE; rw [ha.h, Option.bind_some, hb.h, Option.bind_some, h]; rfl⟩
theorem e_chain {a : E} {c : Ch} {x : PyData} {r : Bool} (ha : EvB Γ ρ a x) (h : EvH Γ ρ x c r) : EvE Γ ρ (.chain a c) (.val (.bool r)) := ⟨by unfold evE; rw [ha.h, Option.bind_some, h.h]; rfl⟩
theorem h_one {op : CmpOp} {b : E} {x y : PyData} {r : Bool} (hb : EvB Γ ρ b y) (h : cmpD op x y = some r) : EvH Γ ρ x (.one op b) r := ⟨by unfold evH; rw [hb.h, Option.bind_some, h]⟩
theorem h_more {op : CmpOp} {b : E} {c : Ch} {x y : PyData} {r1 r : Bool} (hb : EvB Γ ρ b y) (h : cmpD op x y = some r1) (k : EvH Γ ρ y c r) : EvH Γ ρ x (.more op b c) (r1 && r) := ⟨by unfold evH; rw [hb.h, Option.bind_some, h, Option.bind_some, k.h]; cases r1 <;> rfl⟩
theorem e_and {a b : E} {x : Bool} {y : Bool} (ha : EvB Γ ρ a (.bool x)) (hb : x = true → EvE Γ ρ b (.val (.bool y))) : EvE Γ ρ (.and a b) (.val (.bool (x && y))) := ⟨by
  unfold evE
  rw [ha.h, Option.bind_some]
  cases x with
  | true => exact (hb rfl).h
  | false => rfl⟩
theorem e_or {a b : E} {x : Bool} {y : Bool} (ha : EvB Γ ρ a (.bool x)) (hb : x = false → EvE Γ ρ b (.val (.bool y))) : EvE Γ ρ (.or a b) (.val (.bool (x || y))) := ⟨by
  unfold evE
  rw [ha.h, Option.bind_some]
  cases x with
  | true => rfl
  | false => exact (hb rfl).h⟩
theorem e_andT {a b : E} {r : PyData} (ha : EvB Γ ρ a (.bool true)) (hb : EvE Γ ρ b (.val r)) : EvE Γ ρ (.and a b) (.val r) := ⟨by
  unfold evE
  rw [ha.h, Option.bind_some]
  exact hb.h⟩
theorem e_andF {a b : E} (ha : EvB Γ ρ a (.bool false)) : EvE Γ ρ (.and a b) (.val (.bool false)) := ⟨by
  unfold evE
  rw [ha.h, Option.bind_some]
  rfl⟩
theorem e_orT {a b : E} (ha : EvB Γ ρ a (.bool true)) : EvE Γ ρ (.or a b) (.val (.bool true)) := ⟨by
  unfold evE
  rw [ha.h, Option.bind_some]
  rfl⟩
theorem e_orF {a b : E} {r : PyData} (ha : EvB Γ ρ a (.bool false)) (hb : EvE Γ ρ b (.val r)) : EvE Γ ρ (.or a b) (.val r) := ⟨by
  unfold evE
  rw [ha.h, Option.bind_some]
  exact hb.h⟩
theorem b_const {d : PyData} : EvB Γ ρ (.const d) d := b_val e_const
theorem b_bin {op : Operator} {a b : E} {x y d : PyData} (ha : EvB Γ ρ a x) (hb : EvB Γ ρ b y) (h : binD op x y = some (.val d)) : EvB Γ ρ (.bin op a b) d := b_val (e_bin ha hb h)
theorem b_neg {a : E} {i : Int} (ha : EvB Γ ρ a (.int i)) : EvB Γ ρ (.neg a) (.int (-i)) := b_val (e_neg ha)
theorem b_not {a : E} {x : PyData} {b : Bool} (ha : EvB Γ ρ a x) (h : truD x = some b) : EvB Γ ρ (.not a) (.bool (!b)) := b_val (e_not ha h)
theorem b_cmp {op : CmpOp} {a b : E} {x y : PyData} {r : Bool} (ha : EvB Γ ρ a x) (hb : EvB Γ ρ b y) (h : cmpD op x y = some r) : EvB Γ ρ (.cmp op a b) (.bool r) := b_val (e_cmp ha hb h)
theorem t_of {e : E} {x : PyData} {b : Bool} (h : EvB Γ ρ e x) (t : truD x = some b) : Tst Γ ρ e b := ⟨by unfold test; rw [h.h, Option.bind_some, t]⟩
theorem e_iteT {c a b : E} {r : Res} (hc : Tst Γ ρ c true) (ha : EvE Γ ρ a r) : EvE Γ ρ (.ite c a b) r := ⟨by
  have := hc.h
  unfold test at this
  rw [Option.bind_eq_some_iff] at this
  obtain ⟨x, h1, h2⟩ := this
  unfold evE
  rw [h1, Option.bind_some, h2]
  exact ha.h⟩
theorem e_iteF {c a b : E} {r : Res} (hc : Tst Γ ρ c false) (hb : EvE Γ ρ b r) : EvE Γ ρ (.ite c a b) r := ⟨by
  have := hc.h
  unfold test at this
  rw [Option.bind_eq_some_iff] at this
  obtain ⟨x, h1, h2⟩ := this
  unfold evE
  rw [h1, Option.bind_some, h2]
  exact hb.h⟩
theorem e_ite {c a b : E} {t : Bool} {x y : PyData} (hc : Tst Γ ρ c t) (ha : t = true → EvE Γ ρ a (.val x)) (hb : t = false → EvE Γ ρ b (.val y)) : EvE Γ ρ (.ite c a b) (.val (if t then x else y)) := by
  cases t with
  | true => exact e_iteT hc (ha rfl)
  | false => exact e_iteF hc (hb rfl)
theorem a_nil : EvA Γ ρ [] [] := ⟨by unfold evA; rfl⟩
theorem a_cons {e : E} {es : List E} {r : Res} {ds : List PyData} (h : EvE Γ ρ e r) (k : EvA Γ ρ es ds) : EvA Γ ρ (e :: es) (r.dat :: ds) := ⟨by unfold evA; rw [h.h, Option.map_some, Option.bind_some, k.h]; rfl⟩
theorem l_nil : EvL Γ ρ [] [] := ⟨by unfold evL; rfl⟩
theorem l_cons {e : E} {es : List E} {d : PyData} {ds : List PyData} (h : EvB Γ ρ e d) (k : EvL Γ ρ es ds) : EvL Γ ρ (e :: es) (d :: ds) := ⟨by unfold evL; rw [h.h, Option.bind_some, k.h]; rfl⟩
theorem e_tup {l : List E} {ds : List PyData} (h : EvA Γ ρ l ds) (hl : ds.length ≤ sizeLine) : EvE Γ ρ (.tup l) (.val (.tuple ds)) := ⟨by unfold evE; rw [h.h, Option.bind_some, if_pos hl]⟩
theorem e_lst {l : List E} {ds : List PyData} (h : EvA Γ ρ l ds) (hl : ds.length ≤ sizeLine) : EvE Γ ρ (.lst l) (.new ds) := ⟨by unfold evE; rw [h.h, Option.bind_some, if_pos hl]⟩
theorem e_ix {a i : E} {x d : PyData} {k : Int} (ha : EvB Γ ρ a x) (hi : EvB Γ ρ i (.int k)) (h : ixD x k = some d) : EvE Γ ρ (.ix a i) (.val d) := ⟨by unfold evE; rw [ha.h, Option.bind_some, hi.h, Option.bind_some]; show (ixD x k).map Res.val = _; rw [h]; rfl⟩
theorem b_tup {l : List E} {ds : List PyData} (h : EvA Γ ρ l ds) (hl : ds.length ≤ sizeLine) : EvB Γ ρ (.tup l) (.tuple ds) := b_val (e_tup h hl)
theorem b_lst {l : List E} {ds : List PyData} (h : EvA Γ ρ l ds) (hl : ds.length ≤ sizeLine) : EvB Γ ρ (.lst l) (.list ds) := b_new (e_lst h hl)
theorem b_ix {a i : E} {x d : PyData} {k : Int} (ha : EvB Γ ρ a x) (hi : EvB Γ ρ i (.int k)) (h : ixD x k = some d) : EvB Γ ρ (.ix a i) d := b_val (e_ix ha hi h)
theorem o_none : EvO Γ ρ none none := ⟨by unfold evO; rfl⟩
theorem o_some {e : E} {k : Int} (h : EvB Γ ρ e (.int k)) : EvO Γ ρ (some e) (some k) := ⟨by unfold evO; rw [h.h]; rfl⟩
theorem e_sl {a : E} {lo hi : Option E} {x : PyData} {l u : Option Int} {r : Res} (ha : EvB Γ ρ a x) (hl : EvO Γ ρ lo l) (hu : EvO Γ ρ hi u) (h : slD x l u = some r) : EvE Γ ρ (.sl a lo hi) r := ⟨by unfold evE; rw [ha.h, Option.bind_some, hl.h, Option.bind_some, hu.h, Option.bind_some, h]⟩
theorem e_call {f : Nat} {l : List E} {ds : List PyData} {r : Res} (h : EvA Γ ρ l ds) (k : Γ.call f ds = some r) : EvE Γ ρ (.call f l) r := ⟨by unfold evE; rw [h.h, Option.bind_some, k]⟩
theorem e_bi {b : Bi} {l : List E} {ds : List PyData} {r : Res} (h : EvL Γ ρ l ds) (k : biD b ds = some r) : EvE Γ ρ (.bi b l) r := ⟨by unfold evE; rw [h.h, Option.bind_some, k]⟩
theorem b_bi {b : Bi} {l : List E} {ds : List PyData} {d : PyData} (h : EvL Γ ρ l ds) (k : biD b ds = some (.val d)) : EvB Γ ρ (.bi b l) d := b_val (e_bi h k)
theorem b_call {f : Nat} {l : List E} {ds : List PyData} {d : PyData} (h : EvA Γ ρ l ds) (k : Γ.call f ds = some (.val d)) : EvB Γ ρ (.call f l) d := b_val (e_call h k)
theorem e_sk {f : Nat} {a : E} {ds : List PyData} {r : Res} (h : EvB Γ ρ a (.list ds)) (k : sortKeyD (Γ.call f) ds = some r) : EvE Γ ρ (.sortKey f a) r := ⟨by unfold evE; rw [h.h, Option.bind_some]; exact k⟩
theorem e_comp {own : List Nat} {elt : E} {t : T} {it : I} {ifs : List E} {xs out : List PyData} (h : EvI Γ false ρ it xs) (k : collect (elemC Γ ρ own t ifs elt) xs = some out) : EvE Γ ρ (.comp own elt [.mk t it ifs]) (.new out) := ⟨by
  unfold evE evC
  rw [h.h, Option.bind_some]
  have e : (fun d => (asg t d (wipeC (wipeC ρ own) (slotsL t))).bind fun ρ' => (evT Γ ρ' ifs).bind fun b => if b then evC Γ (fun ρ' => (evE Γ ρ' elt).map fun r => [r.dat]) true ρ' ρ' [] else some []) = elemC Γ ρ own t ifs elt := by
    funext d
    simp only [elemC, evC]
  rw [e, k]
  rfl⟩
theorem e_gen {stop : Bool} {own : List Nat} {elt : E} {t : T} {it : I} {ifs : List E} {xs : List PyData} {r : Bool} (h : EvI Γ false ρ it xs) (k : seek stop (elemG Γ stop ρ own t ifs elt) xs = some r) : EvE Γ ρ (.gen stop own elt [.mk t it ifs]) (.val (.bool r)) := ⟨by
  unfold evE evG
  rw [h.h, Option.bind_some]
  have e : (fun d => (asg t d (wipeC (wipeC ρ own) (slotsL t))).bind fun ρ' => (evT Γ ρ' ifs).bind fun b => if b then evG Γ stop (fun ρ' => ((evE Γ ρ' elt).map Res.dat).bind boolD) true ρ' ρ' [] else some (!stop)) = elemG Γ stop ρ own t ifs elt := by
    funext d
    simp only [elemG, evG]
  rw [e, k]
  rfl⟩
theorem c_elem {own : List Nat} {t : T} {elt : E} {d : PyData} {r : Res} (ha : asg t d (wipeC (wipeC ρ own) (slotsL t)) = some ρ') (he : EvE Γ ρ' elt r) : elemC Γ ρ own t [] elt d = some [r.dat] := by
  unfold elemC
  rw [ha, Option.bind_some]
  unfold evT
  rw [Option.bind_some, if_pos rfl, he.h]
  rfl
theorem c_elemIf {own : List Nat} {t : T} {c elt : E} {d : PyData} {b : Bool} {x : PyData} (ha : asg t d (wipeC (wipeC ρ own) (slotsL t)) = some ρ') (hc : Tst Γ ρ' c b) (he : b = true → EvE Γ ρ' elt (.val x)) : elemC Γ ρ own t [c] elt d = some (if b then [x] else []) := by
  have h1 := hc.h
  unfold test at h1
  unfold elemC
  rw [ha, Option.bind_some]
  unfold evT
  rw [h1, Option.bind_some]
  cases b with
  | true =>
    unfold evT
    rw [if_pos rfl, Option.bind_some, if_pos rfl, (he rfl).h]
    rfl
  | false =>
    rw [if_neg Bool.false_ne_true, Option.bind_some]
    rfl
theorem g_elem {stop : Bool} {own : List Nat} {t : T} {elt : E} {d : PyData} {b : Bool} (ha : asg t d (wipeC (wipeC ρ own) (slotsL t)) = some ρ') (he : EvE Γ ρ' elt (.val (.bool b))) : elemG Γ stop ρ own t [] elt d = some b := by
  unfold elemG
  rw [ha, Option.bind_some]
  unfold evT
  rw [Option.bind_some, if_pos rfl, he.h]
  rfl
/-! sources -/
theorem i_list {fz : Bool} {e : E} {ds : List PyData} (h : EvE Γ ρ e (.new ds)) : EvI Γ fz ρ (.seq e) ds := ⟨by
  unfold evI src
  cases fz with
  | true => rw [if_pos rfl, h.h]; rfl
  | false => rw [if_neg Bool.false_ne_true, bor_some h.h]; rfl⟩
theorem i_val {fz : Bool} {e : E} {d : PyData} {ds : List PyData} (h : EvE Γ ρ e (.val d)) (k : itemsD d = some ds) : EvI Γ fz ρ (.seq e) ds := ⟨by
  unfold evI src
  cases fz with
  | true => rw [if_pos rfl, h.h]; exact k
  | false => rw [if_neg Bool.false_ne_true, bor_some h.h]; exact k⟩
theorem i_bor {e : E} {d : PyData} {ds : List PyData} (h : EvB Γ ρ e d) (k : itemsD d = some ds) : EvI Γ false ρ (.seq e) ds := ⟨by
  unfold evI src
  rw [if_neg Bool.false_ne_true, h.h]; exact k⟩
theorem i_range {fz : Bool} {l : List E} {ns ks : List Int} (h : EvL Γ ρ l (ns.map .int)) (k : rangeI ns = some ks) : EvI Γ fz ρ (.range l) (ks.map .int) := ⟨by unfold evI; rw [h.h, Option.bind_some, intsD_map, Option.bind_some, k]; rfl⟩
theorem i_range1 {fz : Bool} {e : E} {n : Nat} (h : EvB Γ ρ e (.int n)) (hn : n < 4611686018427387904) : EvI Γ fz ρ (.range [e]) ((List.range n).map fun (k : Nat) => .int k) := by
  have := i_range (fz := fz) (ns := [(n : Int)]) (ks := (List.range n).map fun (k : Nat) => (k : Int)) (l_cons h l_nil) (by
    have h1 : decide (-(2 ^ 62) ≤ (n : Int)) = true := decide_eq_true (by omega)
    have h2 : decide ((n : Int) < 2 ^ 62) = true := decide_eq_true (by omega)
    unfold rangeI
    simp only [h1, h2, Bool.and_self, if_true, Int.toNat_natCast])
  rw [List.map_map] at this
  exact this
theorem i_enumV {fz : Bool} {e : E} {d : PyData} {ds : List PyData} (h : EvE Γ ρ e (.val d)) (k : itemsD d = some ds) : EvI Γ fz ρ (.enum e) (enumI ds) := ⟨by
  unfold evI src
  cases fz with
  | true => rw [if_pos rfl, h.h, Option.map_some, Option.bind_some]; show (itemsD d).map enumI = _; rw [k]; rfl
  | false => rw [if_neg Bool.false_ne_true, bor_some h.h, Option.bind_some]; show (itemsD d).map enumI = _; rw [k]; rfl⟩
/-! statements -/
theorem s_nil : EvSs Γ ρ [] (.nx ρ) := ⟨by unfold evSs; rfl⟩
theorem s_nx {s : S} {ss : List S} {o : Out} (h : evS Γ ρ s = some (.nx ρ')) (k : EvSs Γ ρ' ss o) : EvSs Γ ρ (s :: ss) o := ⟨by unfold evSs; rw [h, Option.bind_some]; exact k.h⟩
theorem s_rt {s : S} {ss : List S} {r : Res} (h : evS Γ ρ s = some (.rt r)) : EvSs Γ ρ (s :: ss) (.rt r) := ⟨by unfold evSs; rw [h]; rfl⟩
theorem s_set {i : Nat} {e : E} {r : Res} {ss : List S} {o : Out} (h : EvE Γ ρ e r) (k : EvSs Γ (ρ.set i r.cell) ss o) : EvSs Γ ρ (.set i e :: ss) o := s_nx (by unfold evS; rw [h.h]; rfl) k
theorem s_frzO {i : Nat} {ds : List PyData} {ss : List S} {o : Out} (h : ρ[i]? = some (.ow ds)) (k : EvSs Γ (ρ.set i (.fr (.list ds))) ss o) : EvSs Γ ρ (.frz i :: ss) o := s_nx (by unfold evS; rw [h]) k
theorem s_frzF {i : Nat} {d : PyData} {ss : List S} {o : Out} (h : ρ[i]? = some (.fr d)) (k : EvSs Γ ρ ss o) : EvSs Γ ρ (.frz i :: ss) o := s_nx (by unfold evS; rw [h]) k
theorem s_frzU {i : Nat} {ss : List S} {o : Out} (h : ρ[i]? = some .un) (k : EvSs Γ ρ ss o) : EvSs Γ ρ (.frz i :: ss) o := s_nx (by unfold evS; rw [h]) k
theorem s_append {y : Nat} {e : E} {r : Res} {ds : List PyData} {ss : List S} {o : Out} (h : EvE Γ ρ e r) (hy : ρ[y]? = some (.ow ds)) (hl : ds.length < sizeLine) (k : EvSs Γ (ρ.set y (.ow (ds ++ [r.dat]))) ss o) : EvSs Γ ρ (.append y e :: ss) o :=
  s_nx (by unfold evS owned; rw [h.h, Option.map_some, Option.bind_some, hy]; show (if ds.length < sizeLine then _ else _) = _; rw [if_pos hl]) k
theorem s_aug {x : Nat} {op : Operator} {e : E} {d v w : PyData} {ss : List S} {o : Out} (hx : ρ[x]? = some (.fr d)) (h : EvB Γ ρ e v) (k : augD op d v = some w) (n : EvSs Γ (ρ.set x (.fr w)) ss o) : EvSs Γ ρ (.aug x op e :: ss) o :=
  s_nx (by unfold evS; rw [bor_var, evE_var, hx]; show (some d).bind _ = _; rw [Option.bind_some, h.h, Option.bind_some, k]; rfl) n
theorem s_ret {e : E} {r : Res} {ss : List S} (h : EvE Γ ρ e r) : EvSs Γ ρ (.ret e :: ss) (.rt r) := s_rt (by unfold evS; rw [h.h])
theorem s_retO {i : Nat} {ds : List PyData} {ss : List S} (h : ρ[i]? = some (.ow ds)) : EvSs Γ ρ (.ret (.var i) :: ss) (.rt (.new ds)) := s_rt (by unfold evS; rw [bor_var, evE_var, h])
theorem s_retN {ss : List S} : EvSs Γ ρ (.retN :: ss) (.rt (.val .none)) := s_rt (by unfold evS; rfl)
theorem evSs_nil : evSs Γ ρ [] = some (.nx ρ) := by unfold evSs; rfl
theorem evSs_cons {s : S} {ss : List S} : evSs Γ ρ (s :: ss) = (evS Γ ρ s).bind fun o => match o with
    | .nx r => evSs Γ r ss
    | .rt v => some (.rt v)
    | .bk r => some (.bk r)
    | .ct r => some (.ct r) := by
  conv => lhs; unfold evSs
  try rfl
theorem app_ss {ss : List S} : ∀ {a : List S} {ρ : List Cell}, evSs Γ ρ (a ++ ss) = (evSs Γ ρ a).bind fun o => match o with
    | .nx r => evSs Γ r ss
    | .rt v => some (.rt v)
    | .bk r => some (.bk r)
    | .ct r => some (.ct r)
  | [], ρ => by rw [List.nil_append, evSs_nil, Option.bind_some]
  | s :: a, ρ => by
    rw [List.cons_append, evSs_cons, evSs_cons]
    cases evS Γ ρ s with
    | none => rfl
    | some o =>
      cases o with
      | nx r => exact app_ss
      | rt v => rfl
      | bk r => rfl
      | ct r => rfl
theorem s_ifT {c : E} {a b ss : List S} {o : Out} (hc : Tst Γ ρ c true) (h : EvSs Γ ρ (a ++ ss) o) : EvSs Γ ρ (.ifs c a b :: ss) o := ⟨by
  have := h.h
  rw [app_ss] at this
  unfold evSs evS
  rw [hc.h, Option.bind_some, if_pos rfl]
  exact this⟩
theorem s_ifF {c : E} {a b ss : List S} {o : Out} (hc : Tst Γ ρ c false) (h : EvSs Γ ρ (b ++ ss) o) : EvSs Γ ρ (.ifs c a b :: ss) o := ⟨by
  have := h.h
  rw [app_ss] at this
  unfold evSs evS
  rw [hc.h, Option.bind_some, if_neg Bool.false_ne_true]
  exact this⟩
theorem s_if {c : E} {a b ss : List S} {o : Out} {t : Bool} (hc : Tst Γ ρ c t) (h1 : t = true → EvSs Γ ρ (a ++ ss) o) (h2 : t = false → EvSs Γ ρ (b ++ ss) o) : EvSs Γ ρ (.ifs c a b :: ss) o := by
  cases t with
  | true => exact s_ifT hc (h1 rfl)
  | false => exact s_ifF hc (h2 rfl)
theorem s_loop {tg : T} {it : I} {body ss : List S} {xs : List PyData} {o : Out} (h : EvI Γ true ρ it xs) (hl : loopS (bodyS Γ body) tg xs ρ = some (.nx ρ')) (k : EvSs Γ ρ' ss o) : EvSs Γ ρ (.loop tg it body :: ss) o := s_nx (by unfold evS; rw [h.h, Option.bind_some]; exact hl) k
theorem s_loopR {tg : T} {it : I} {body ss : List S} {xs : List PyData} {r : Res} (h : EvI Γ true ρ it xs) (hl : loopS (bodyS Γ body) tg xs ρ = some (.rt r)) : EvSs Γ ρ (.loop tg it body :: ss) (.rt r) := s_rt (by unfold evS; rw [h.h, Option.bind_some]; exact hl)
end
section
variable {T : List Df} {wh l f : Nat} {ρ : List Cell} {es : List E} {ds : List PyData} {r : Res} {d : PyData}
theorem e_callR (h : EvA ⟨Pi.run T wh l, wh⟩ ρ es ds) (k : Pi.run T wh l f ds = some r) : EvE ⟨Pi.run T wh l, wh⟩ ρ (.call f es) r := e_call h k
theorem b_callR (h : EvA ⟨Pi.run T wh l, wh⟩ ρ es ds) (k : Pi.run T wh l f ds = some (.val d)) : EvB ⟨Pi.run T wh l, wh⟩ ρ (.call f es) d := b_call h k
theorem b_callN {xs : List PyData} (h : EvA ⟨Pi.run T wh l, wh⟩ ρ es ds) (k : Pi.run T wh l f ds = some (.new xs)) : EvB ⟨Pi.run T wh l, wh⟩ ρ (.call f es) (.list xs) := b_new (e_call h k)
theorem a_consV {Γ : Gm} {e : E} (h : EvE Γ ρ e (.val d)) (k : EvA Γ ρ es ds) : EvA Γ ρ (e :: es) (d :: ds) := a_cons h k
theorem a_consN {Γ : Gm} {e : E} {xs : List PyData} (h : EvE Γ ρ e (.new xs)) (k : EvA Γ ρ es ds) : EvA Γ ρ (e :: es) (.list xs :: ds) := a_cons h k
end
/-- a run, by its body's judgement -/
theorem run_rt {T : List Df} {wh l i : Nat} {F : Fn} {ds : List PyData} {r : Res} (hT : T[i]? = some (.body F)) (hl : ds.length = F.np) (h : EvSs ⟨Pi.run T wh l, wh⟩ (start0 F ds) F.body (.rt r)) : Pi.run T wh (l + 1) i ds = some r := by
  rw [run_body hT hl, h.h]
  rfl
/-! operations -/
theorem bin_add {i j : Int} : binD .Add (.int i) (.int j) = some (.val (.int (i + j))) := rfl
theorem bin_sub {i j : Int} : binD .Sub (.int i) (.int j) = some (.val (.int (i - j))) := rfl
theorem bin_pow {i j : Int} {n : Nat} (h : j = n) (h2 : n ≤ 1000000) (h3 : i.natAbs < 2 ^ 64) : binD .Pow (.int i) (.int j) = some (.val (.int (i ^ n))) := by
  subst h
  show (if decide (0 ≤ (n : Int)) && decide ((n : Int) ≤ 1000000) && decide (i.natAbs < 2 ^ 64) then some (Res.val (.int (i ^ (n : Int).toNat))) else none) = _
  have h1 : decide (0 ≤ (n : Int)) = true := decide_eq_true (by omega)
  have h2' : decide ((n : Int) ≤ 1000000) = true := decide_eq_true (by omega)
  rw [h1, h2', decide_eq_true h3, Int.toNat_natCast]
  rfl
theorem bin_mul {i j : Int} (h : mulOk i j = true) : binD .Mult (.int i) (.int j) = some (.val (.int (i * j))) := by
  show (if mulOk i j then _ else _) = _
  rw [if_pos h]
theorem mul_l {i j : Int} (h1 : -(2 ^ 64) < i) (h2 : i < 2 ^ 64) : mulOk i j = true := by
  unfold mulOk
  simp only [Bool.or_eq_true, Bool.and_eq_true, decide_eq_true_eq]
  exact .inl ⟨h1, h2⟩
theorem mul_r {i j : Int} (h1 : -(2 ^ 64) < j) (h2 : j < 2 ^ 64) : mulOk i j = true := by
  unfold mulOk
  simp only [Bool.or_eq_true, Bool.and_eq_true, decide_eq_true_eq]
  exact .inr ⟨h1, h2⟩
theorem bin_mod {i j : Int} (h : 0 < j) : binD .Mod (.int i) (.int j) = some (.val (.int (i % j))) := by
  show (if decide (0 < j) then _ else _) = _
  rw [if_pos (by simpa using h)]
theorem bin_div {i j : Int} (h : 0 < j) (h2 : j < 1073741824) : binD .FloorDiv (.int i) (.int j) = some (.val (.int (i / j))) := by
  show (if decide (0 < j) && decide (j < 1073741824) then _ else _) = _
  rw [if_pos (by simp [h, h2])]
theorem bin_tup {xs ys : List PyData} (h : xs.length + ys.length ≤ sizeLine) : binD .Add (.tuple xs) (.tuple ys) = some (.val (.tuple (xs ++ ys))) := by
  show (if xs.length + ys.length ≤ sizeLine then _ else _) = _
  rw [if_pos h]
theorem bin_lst {xs ys : List PyData} (h : xs.length + ys.length ≤ sizeLine) : binD .Add (.list xs) (.list ys) = some (.new (xs ++ ys)) := by
  show (if xs.length + ys.length ≤ sizeLine then _ else _) = _
  rw [if_pos h]
theorem mul_l' {i j : Int} (h : (decide (-18446744073709551616 < i) && decide (i < 18446744073709551616)) = true) : binD .Mult (.int i) (.int j) = some (.val (.int (i * j))) := by
  simp only [Bool.and_eq_true, decide_eq_true_eq] at h
  exact bin_mul (mul_l (by omega) (by omega))
theorem mul_r' {i j : Int} (h : (decide (-18446744073709551616 < j) && decide (j < 18446744073709551616)) = true) : binD .Mult (.int i) (.int j) = some (.val (.int (i * j))) := by
  simp only [Bool.and_eq_true, decide_eq_true_eq] at h
  exact bin_mul (mul_r (by omega) (by omega))
theorem bin_mod' {i j : Int} (h : decide (0 < j) = true) : binD .Mod (.int i) (.int j) = some (.val (.int (i % j))) := bin_mod (of_decide_eq_true h)
theorem bin_div' {i j : Int} (h : (decide (0 < j) && decide (j < 1073741824)) = true) : binD .FloorDiv (.int i) (.int j) = some (.val (.int (i / j))) := by
  simp only [Bool.and_eq_true, decide_eq_true_eq] at h
  exact bin_div h.1 h.2
theorem tru_bool {b : Bool} : truD (.bool b) = some b := rfl
theorem cmp_lt {i j : Int} : cmpD .Lt (.int i) (.int j) = some (decide (i < j)) := rfl
theorem cmp_gt {i j : Int} : cmpD .Gt (.int i) (.int j) = some (decide (j < i)) := rfl
theorem cmp_le {i j : Int} : cmpD .LtE (.int i) (.int j) = some (decide (i ≤ j)) := rfl
theorem cmp_ge {i j : Int} : cmpD .GtE (.int i) (.int j) = some (decide (j ≤ i)) := rfl
theorem cmp_is {x : PyData} : cmpD .Is x .none = some (isNoneD x) := by cases x <;> rfl
theorem cmp_isnot {x : PyData} : cmpD .IsNot x .none = some (!isNoneD x) := by cases x <;> rfl
theorem bi_lenL {xs : List PyData} : biD .len [.list xs] = some (.val (.int xs.length)) := rfl
theorem bi_lenT {xs : List PyData} : biD .len [.tuple xs] = some (.val (.int xs.length)) := rfl
theorem bi_tupL {xs : List PyData} : biD .tuple [.list xs] = some (.val (.tuple xs)) := rfl
theorem bi_tupT {xs : List PyData} : biD .tuple [.tuple xs] = some (.val (.tuple xs)) := rfl
theorem bi_listL {xs : List PyData} : biD .list [.list xs] = some (.new xs) := rfl
theorem bi_listT {xs : List PyData} : biD .list [.tuple xs] = some (.new xs) := rfl
theorem bi_int {i : Int} : biD .int [.int i] = some (.val (.int i)) := rfl
theorem bi_abs {i : Int} : biD .abs [.int i] = some (.val (.int (if i < 0 then -i else i))) := rfl
theorem bi_min {i j : Int} : biD .min [.int i, .int j] = some (.val (.int (if j < i then j else i))) := rfl
theorem bi_sum {ns : List Int} : biD .sum [.list (ns.map .int)] = some (.val (.int ns.sum)) := by
  show ((intsD (ns.map .int)).map fun ns => Res.val (.int ns.sum)) = _
  rw [intsD_map]
  rfl
theorem bi_all {bs : List Bool} : biD .all [.list (bs.map .bool)] = some (.val (.bool (bs.all id))) := by
  show ((boolsD (bs.map .bool)).map fun bs => Res.val (.bool (bs.all id))) = _
  rw [boolsD_map]
  rfl
theorem bi_any {bs : List Bool} : biD .any [.list (bs.map .bool)] = some (.val (.bool (bs.any id))) := by
  show ((boolsD (bs.map .bool)).map fun bs => Res.val (.bool (bs.any id))) = _
  rw [boolsD_map]
  rfl
theorem bi_max {i j : Int} : biD .max [.int i, .int j] = some (.val (.int (if j > i then j else i))) := rfl
theorem cmp_eq {x y : PyData} (h1 : SeqAt.shaped x = true) (h2 : SeqAt.shaped y = true) : cmpD .Eq x y = some (PyData.eqv x y) := by
  show (if SeqAt.shaped x && SeqAt.shaped y then _ else _) = _
  rw [h1, h2]; rfl
theorem cmp_eqT {x y : PyData} (h1 : SeqAt.shaped x = true) (h2 : SeqAt.shaped y = true) (h : PyData.eqv x y = true) : cmpD .Eq x y = some true := by rw [cmp_eq h1 h2, h]
theorem cmp_eqF {x y : PyData} (h1 : SeqAt.shaped x = true) (h2 : SeqAt.shaped y = true) (h : PyData.eqv x y = false) : cmpD .Eq x y = some false := by rw [cmp_eq h1 h2, h]
theorem cmp_ne {x y : PyData} (h1 : SeqAt.shaped x = true) (h2 : SeqAt.shaped y = true) : cmpD .NotEq x y = some (!PyData.eqv x y) := by
  show (if SeqAt.shaped x && SeqAt.shaped y then _ else _) = _
  rw [h1, h2]; rfl
section
variable {T : List Df} {wh l i : Nat}
theorem cell_ok (hT : T[i]? = some (.body fCell)) {d : PyData} {ns : List Int} (h : IsScr d ns) (k : Nat) : ∃ v : Int, Pi.run T wh (l + 1) i [d, .int k] = some (.val (.int v)) := by
  have hlen : biD .len [d] = some (.val (.int ns.length)) := by rcases h with rfl | rfl <;> simp [biD]
  by_cases hlt : (k : Int) < (ns.length : Int)
  · have hk' : k < ns.length := by omega
    have hat : L2.atI (ns.map PyData.int) (k : Int) = some (.int ns[k]) := by
      have h1 : (ns.map PyData.int)[k]? = some (.int ns[k]) := by rw [List.getElem?_map, List.getElem?_eq_getElem hk']; rfl
      exact L2.atI_nat h1
    have hix : ixD d k = some (.int ns[k]) := by rcases h with rfl | rfl <;> exact hat
    refine ⟨ns[k], run_rt hT rfl (s_ifT (t_of (b_val (e_cmp (b_fr rfl) (b_val (e_bi (l_cons (b_fr rfl) l_nil) hlen)) rfl)) (congrArg some (decide_eq_true hlt))) (s_ret (e_ix (b_fr rfl) (b_fr rfl) hix)))⟩
  · exact ⟨5 * k + 3, run_rt hT rfl (s_ifF (t_of (b_val (e_cmp (b_fr rfl) (b_val (e_bi (l_cons (b_fr rfl) l_nil) hlen)) rfl)) (congrArg some (decide_eq_false hlt))) (s_ret (e_bin (b_val (e_bin (b_val e_const) (b_fr rfl) (bin_mul (mul_l (by decide) (by decide))))) (b_val e_const) rfl)))⟩
end
end Pi
end
section
set_option Elab.async false
set_option linter.all false
set_option maxRecDepth 100000
set_option maxHeartbeats 1000000
/-! Pure data over the hand layer: the draws of a law's script, the comparison that laws use. -/
namespace Pi
open PySem PySem.Spec
section
variable {T : List Df} {wh l i : Nat}
def drawsBody : List S := [.ifs (.and (.var 3) (.cmp .Gt (.var 2) (.const (.int 0)))) [.append 5 (.bin .Mod (.bi .int [.var 2]) (.const (.int 5040))), .set 2 (.bin .FloorDiv (.var 2) (.const (.int 5040)))] [.set 7 (.bin .Mod (.bi .int [.bin .Add (.bin .Add (.bin .Mult (.var 4) (.const (.int 48271))) (.bin .Mult (.bin .Add (.var 6) (.const (.int 1))) (.const (.int 69621)))) (.const (.int 11))]) (.const (.int 2147483647))), .set 7 (.bin .Mod (.bi .int [.bin .Add (.bin .Mult (.var 7) (.var 7)) (.bin .Mult (.const (.int 40692)) (.bin .Add (.var 6) (.const (.int 3))))]) (.const (.int 2147483399))), .append 5 (.bin .Mod (.bi .int [.bin .FloorDiv (.var 7) (.const (.int 64))]) (.const (.int 5040)))]]
theorem range_at {n k : Nat} {d : PyData} (h : ((List.range n).map fun (k : Nat) => (PyData.int k : PyData))[k]? = some d) : d = .int k ∧ k < n := by
  rw [List.getElem?_map, Option.map_eq_some_iff] at h
  obtain ⟨a, h1, rfl⟩ := h
  obtain ⟨h2, h3⟩ := List.getElem?_eq_some_iff.mp h1
  rw [List.getElem_range] at h3
  rw [List.length_range] at h2
  exact ⟨by rw [h3], h2⟩
theorem e_gt {i j : Int} : cmpD .Gt (.int i) (.int j) = some (decide (j < i)) := rfl
theorem draws_ok (hT : T[i]? = some (.body fDraws)) (c : Int) (n : Nat) (hn : n ≤ 1000) : ∃ ds : List Int, Pi.run T wh (l + 1) i [.int c, .int n] = some (.new (ds.map .int)) ∧ ds.length = n ∧ ∀ d ∈ ds, 0 ≤ d ∧ d < 5040 := by
  have hsz := sizeLine_big
  obtain ⟨ρ, e1, rest, dig, seed, ds, c6, c7, e2, e3, e4⟩ := loop_inv (f := bodyS ⟨Pi.run T wh l, wh⟩ drawsBody) (tg := .name 6)
    (fun k ρ => ∃ (rest : Int) (dig : Bool) (seed : Int) (ds : List Int) (c6 c7 : Cell), ρ = [.fr (.int c), .fr (.int n), .fr (.int rest), .fr (.bool dig), .fr (.int seed), .ow (ds.map .int), c6, c7] ∧ ds.length = k ∧ ∀ d ∈ ds, 0 ≤ d ∧ d < 5040)
    (ds := (List.range n).map fun (k : Nat) => .int k)
    (ρ := [.fr (.int c), .fr (.int n), .fr (.int (if c < 0 then -c else c)), .fr (.bool (decide ((10 ^ 18 : Int) ≤ (if c < 0 then -c else c)))), .fr (.int (if c < 0 then -c else c)), .ow [], .un, .un])
    ⟨_, _, _, [], .un, .un, rfl, rfl, by simp⟩ (fun k d r hd ⟨rest, dig, seed, ds, c6, c7, e, hl, hb⟩ => by
      subst e
      obtain ⟨rfl, hkn⟩ := range_at hd
      refine ⟨_, rfl, ?_⟩
      have hlen : (ds.map PyData.int).length < sizeLine := by rw [List.length_map, hl]; omega
      have app : ∀ v : Int, ds.map PyData.int ++ [.int v] = (ds ++ [v]).map PyData.int := fun v => by simp
      have fin : ∀ v : Int, (0 ≤ v ∧ v < 5040) → ∀ d ∈ ds ++ [v], 0 ≤ d ∧ d < 5040 := fun v hv d hd => by
        rcases List.mem_append.mp hd with hd | hd
        · exact hb d hd
        · rw [List.mem_singleton.mp hd]; exact hv
      have hc : Tst ⟨Pi.run T wh l, wh⟩ [.fr (.int c), .fr (.int n), .fr (.int rest), .fr (.bool dig), .fr (.int seed), .ow (ds.map .int), .fr (.int k), c7] (.and (.var 3) (.cmp .Gt (.var 2) (.const (.int 0)))) (dig && decide (0 < rest)) :=
        t_of (b_val (e_and (b_fr rfl) fun _ => e_cmp (b_fr rfl) (b_val e_const) e_gt)) rfl
      cases ht : (dig && decide (0 < rest)) with
      | true =>
        rw [ht] at hc
        refine ⟨[.fr (.int c), .fr (.int n), .fr (.int (rest / 5040)), .fr (.bool dig), .fr (.int seed), .ow ((ds ++ [rest % 5040]).map .int), .fr (.int k), c7], .inl ?_, _, _, _, _, _, _, rfl, by simp [hl], fin _ (by omega)⟩
        rw [← app]
        refine EvSs.h (s_ifT hc ?_)
        (repeat' first | exact e_const | exact b_const | exact e_var rfl | exact b_fr rfl | exact b_ow rfl | exact a_nil | exact l_nil | exact o_none | apply l_cons | apply a_cons | apply o_some | apply e_bin | apply b_bin | apply e_cmp | apply b_cmp | apply e_neg | apply b_neg | apply e_not | apply b_not | apply e_tup | apply b_tup | apply e_lst | apply b_lst | apply e_ix | apply b_ix | apply e_bi | apply b_bi | apply t_of | apply s_set | apply s_append _ rfl | apply s_aug rfl | apply s_frzF rfl | apply s_frzO rfl | apply s_frzU rfl | exact s_retO rfl | apply s_ret | exact s_retN | with_reducible exact bin_add | with_reducible exact bin_sub | with_reducible exact tru_bool | with_reducible exact cmp_lt | with_reducible exact cmp_gt | with_reducible exact cmp_le | with_reducible exact cmp_ge | with_reducible exact cmp_is | with_reducible exact cmp_isnot | with_reducible exact bi_lenL | with_reducible exact bi_lenT | with_reducible exact bi_tupL | with_reducible exact bi_tupT | with_reducible exact bi_listL | with_reducible exact bi_listT | with_reducible exact bi_int | with_reducible exact bi_abs | with_reducible exact bi_min | with_reducible exact bi_max | with_reducible exact bi_sum | with_reducible exact bi_all | with_reducible exact bi_any | (refine' mul_r' ?_; decide) | (refine' mul_l' ?_; decide) | (refine' bin_mod' ?_; decide) | (refine' bin_div' ?_; decide))
        · exact hlen
        · exact s_nil
      | false =>
        rw [ht] at hc
        generalize hx : (seed * 48271 + ((k : Int) + 1) * 69621 + 11) % 2147483647 = x
        have hx0 : 0 ≤ x ∧ x < 2147483647 := by omega
        generalize hy : (x * x + 40692 * ((k : Int) + 3)) % 2147483399 = y
        refine ⟨[.fr (.int c), .fr (.int n), .fr (.int rest), .fr (.bool dig), .fr (.int seed), .ow ((ds ++ [y / 64 % 5040]).map .int), .fr (.int k), .fr (.int y)], .inl ?_, _, _, _, _, _, _, rfl, by simp [hl], fin _ (by omega)⟩
        rw [← app]
        refine EvSs.h (s_ifF hc ?_)
        refine s_set (r := .val (.int x)) (by rw [← hx]; (repeat' first | exact e_const | exact b_const | exact e_var rfl | exact b_fr rfl | exact b_ow rfl | exact a_nil | exact l_nil | exact o_none | apply l_cons | apply a_cons | apply o_some | apply e_bin | apply b_bin | apply e_cmp | apply b_cmp | apply e_neg | apply b_neg | apply e_not | apply b_not | apply e_tup | apply b_tup | apply e_lst | apply b_lst | apply e_ix | apply b_ix | apply e_bi | apply b_bi | apply t_of | apply s_set | apply s_append _ rfl | apply s_aug rfl | apply s_frzF rfl | apply s_frzO rfl | apply s_frzU rfl | exact s_retO rfl | apply s_ret | exact s_retN | with_reducible exact bin_add | with_reducible exact bin_sub | with_reducible exact tru_bool | with_reducible exact cmp_lt | with_reducible exact cmp_gt | with_reducible exact cmp_le | with_reducible exact cmp_ge | with_reducible exact cmp_is | with_reducible exact cmp_isnot | with_reducible exact bi_lenL | with_reducible exact bi_lenT | with_reducible exact bi_tupL | with_reducible exact bi_tupT | with_reducible exact bi_listL | with_reducible exact bi_listT | with_reducible exact bi_int | with_reducible exact bi_abs | with_reducible exact bi_min | with_reducible exact bi_max | with_reducible exact bi_sum | with_reducible exact bi_all | with_reducible exact bi_any | (refine' mul_r' ?_; decide) | (refine' mul_l' ?_; decide) | (refine' bin_mod' ?_; decide) | (refine' bin_div' ?_; decide))) ?_
        refine s_set (r := .val (.int y)) (by rw [← hy]; (repeat' first | exact e_const | exact b_const | exact e_var rfl | exact b_fr rfl | exact b_ow rfl | exact a_nil | exact l_nil | exact o_none | apply l_cons | apply a_cons | apply o_some | apply e_bin | apply b_bin | apply e_cmp | apply b_cmp | apply e_neg | apply b_neg | apply e_not | apply b_not | apply e_tup | apply b_tup | apply e_lst | apply b_lst | apply e_ix | apply b_ix | apply e_bi | apply b_bi | apply t_of | apply s_set | apply s_append _ rfl | apply s_aug rfl | apply s_frzF rfl | apply s_frzO rfl | apply s_frzU rfl | exact s_retO rfl | apply s_ret | exact s_retN | with_reducible exact bin_add | with_reducible exact bin_sub | with_reducible exact tru_bool | with_reducible exact cmp_lt | with_reducible exact cmp_gt | with_reducible exact cmp_le | with_reducible exact cmp_ge | with_reducible exact cmp_is | with_reducible exact cmp_isnot | with_reducible exact bi_lenL | with_reducible exact bi_lenT | with_reducible exact bi_tupL | with_reducible exact bi_tupT | with_reducible exact bi_listL | with_reducible exact bi_listT | with_reducible exact bi_int | with_reducible exact bi_abs | with_reducible exact bi_min | with_reducible exact bi_max | with_reducible exact bi_sum | with_reducible exact bi_all | with_reducible exact bi_any | (refine' mul_r' ?_; decide) | (refine' mul_l' ?_; decide) | (refine' bin_mod' ?_; decide) | (refine' bin_div' ?_; decide)); exact bin_mul (mul_l (by omega) (by omega)); (repeat' first | exact e_const | exact b_const | exact e_var rfl | exact b_fr rfl | exact b_ow rfl | exact a_nil | exact l_nil | exact o_none | apply l_cons | apply a_cons | apply o_some | apply e_bin | apply b_bin | apply e_cmp | apply b_cmp | apply e_neg | apply b_neg | apply e_not | apply b_not | apply e_tup | apply b_tup | apply e_lst | apply b_lst | apply e_ix | apply b_ix | apply e_bi | apply b_bi | apply t_of | apply s_set | apply s_append _ rfl | apply s_aug rfl | apply s_frzF rfl | apply s_frzO rfl | apply s_frzU rfl | exact s_retO rfl | apply s_ret | exact s_retN | with_reducible exact bin_add | with_reducible exact bin_sub | with_reducible exact tru_bool | with_reducible exact cmp_lt | with_reducible exact cmp_gt | with_reducible exact cmp_le | with_reducible exact cmp_ge | with_reducible exact cmp_is | with_reducible exact cmp_isnot | with_reducible exact bi_lenL | with_reducible exact bi_lenT | with_reducible exact bi_tupL | with_reducible exact bi_tupT | with_reducible exact bi_listL | with_reducible exact bi_listT | with_reducible exact bi_int | with_reducible exact bi_abs | with_reducible exact bi_min | with_reducible exact bi_max | with_reducible exact bi_sum | with_reducible exact bi_all | with_reducible exact bi_any | (refine' mul_r' ?_; decide) | (refine' mul_l' ?_; decide) | (refine' bin_mod' ?_; decide) | (refine' bin_div' ?_; decide))) ?_
        (repeat' first | exact e_const | exact b_const | exact e_var rfl | exact b_fr rfl | exact b_ow rfl | exact a_nil | exact l_nil | exact o_none | apply l_cons | apply a_cons | apply o_some | apply e_bin | apply b_bin | apply e_cmp | apply b_cmp | apply e_neg | apply b_neg | apply e_not | apply b_not | apply e_tup | apply b_tup | apply e_lst | apply b_lst | apply e_ix | apply b_ix | apply e_bi | apply b_bi | apply t_of | apply s_set | apply s_append _ rfl | apply s_aug rfl | apply s_frzF rfl | apply s_frzO rfl | apply s_frzU rfl | exact s_retO rfl | apply s_ret | exact s_retN | with_reducible exact bin_add | with_reducible exact bin_sub | with_reducible exact tru_bool | with_reducible exact cmp_lt | with_reducible exact cmp_gt | with_reducible exact cmp_le | with_reducible exact cmp_ge | with_reducible exact cmp_is | with_reducible exact cmp_isnot | with_reducible exact bi_lenL | with_reducible exact bi_lenT | with_reducible exact bi_tupL | with_reducible exact bi_tupT | with_reducible exact bi_listL | with_reducible exact bi_listT | with_reducible exact bi_int | with_reducible exact bi_abs | with_reducible exact bi_min | with_reducible exact bi_max | with_reducible exact bi_sum | with_reducible exact bi_all | with_reducible exact bi_any | (refine' mul_r' ?_; decide) | (refine' mul_l' ?_; decide) | (refine' bin_mod' ?_; decide) | (refine' bin_div' ?_; decide))
        · exact hlen
        · exact s_nil)
  subst e2
  refine ⟨ds, run_rt hT rfl ?_, by simpa using e3, e4⟩
  unfold fDraws
  show EvSs _ [.fr (.int c), .fr (.int n), .un, .un, .un, .un, .un, .un] [_, _, _, _, _, _, _] _
  apply s_set
  case h => (repeat' first | exact e_const | exact b_const | exact e_var rfl | exact b_fr rfl | exact b_ow rfl | exact a_nil | exact l_nil | exact o_none | apply l_cons | apply a_cons | apply o_some | apply e_bin | apply b_bin | apply e_cmp | apply b_cmp | apply e_neg | apply b_neg | apply e_not | apply b_not | apply e_tup | apply b_tup | apply e_lst | apply b_lst | apply e_ix | apply b_ix | apply e_bi | apply b_bi | apply t_of | apply s_set | apply s_append _ rfl | apply s_aug rfl | apply s_frzF rfl | apply s_frzO rfl | apply s_frzU rfl | exact s_retO rfl | apply s_ret | exact s_retN | with_reducible exact bin_add | with_reducible exact bin_sub | with_reducible exact tru_bool | with_reducible exact cmp_lt | with_reducible exact cmp_gt | with_reducible exact cmp_le | with_reducible exact cmp_ge | with_reducible exact cmp_is | with_reducible exact cmp_isnot | with_reducible exact bi_lenL | with_reducible exact bi_lenT | with_reducible exact bi_tupL | with_reducible exact bi_tupT | with_reducible exact bi_listL | with_reducible exact bi_listT | with_reducible exact bi_int | with_reducible exact bi_abs | with_reducible exact bi_min | with_reducible exact bi_max | with_reducible exact bi_sum | with_reducible exact bi_all | with_reducible exact bi_any | (refine' mul_r' ?_; decide) | (refine' mul_l' ?_; decide) | (refine' bin_mod' ?_; decide) | (refine' bin_div' ?_; decide))
  apply s_set (r := .val (.bool (decide ((10 ^ 18 : Int) ≤ (if c < 0 then -c else c)))))
  case h =>
    apply e_cmp (b_fr rfl) (b_bin b_const b_const (bin_pow (n := 18) rfl (by decide) (by decide)))
    exact rfl
  (repeat' first | exact e_const | exact b_const | exact e_var rfl | exact b_fr rfl | exact b_ow rfl | exact a_nil | exact l_nil | exact o_none | apply l_cons | apply a_cons | apply o_some | apply e_bin | apply b_bin | apply e_cmp | apply b_cmp | apply e_neg | apply b_neg | apply e_not | apply b_not | apply e_tup | apply b_tup | apply e_lst | apply b_lst | apply e_ix | apply b_ix | apply e_bi | apply b_bi | apply t_of | apply s_set | apply s_append _ rfl | apply s_aug rfl | apply s_frzF rfl | apply s_frzO rfl | apply s_frzU rfl | exact s_retO rfl | apply s_ret | exact s_retN | with_reducible exact bin_add | with_reducible exact bin_sub | with_reducible exact tru_bool | with_reducible exact cmp_lt | with_reducible exact cmp_gt | with_reducible exact cmp_le | with_reducible exact cmp_ge | with_reducible exact cmp_is | with_reducible exact cmp_isnot | with_reducible exact bi_lenL | with_reducible exact bi_lenT | with_reducible exact bi_tupL | with_reducible exact bi_tupT | with_reducible exact bi_listL | with_reducible exact bi_listT | with_reducible exact bi_int | with_reducible exact bi_abs | with_reducible exact bi_min | with_reducible exact bi_max | with_reducible exact bi_sum | with_reducible exact bi_all | with_reducible exact bi_any | (refine' mul_r' ?_; decide) | (refine' mul_l' ?_; decide) | (refine' bin_mod' ?_; decide) | (refine' bin_div' ?_; decide))
  · exact Nat.zero_le _
  · exact s_loop (i_range1 (b_fr rfl) (by omega)) e1 (s_retO rfl)
end
end Pi
end
section
set_option Elab.async false
set_option linter.all false
set_option maxRecDepth 100000
set_option maxHeartbeats 1000000
/-! Pure data over the hand layer: the comparison that laws use. -/
namespace Pi
open PySem PySem.Spec
mutual
/-- plain data: no list, no dict -/
def okD : PyData → Bool
  | .tuple xs => decide (xs.length ≤ 100000) && okDs xs
  | .list _ => false
  | .dict _ => false
  | .str x => (PyData.str x).canLay0
  | _ => true
def okDs : List PyData → Bool
  | [] => true
  | d :: ds => okD d && okDs ds
end
theorem okDs_at : ∀ {ds : List PyData} {d : PyData}, okDs ds = true → d ∈ ds → okD d = true
  | [], _, _, h => by simp at h
  | e :: ds, d, h, hm => by
    simp only [okDs, Bool.and_eq_true] at h
    rcases List.mem_cons.mp hm with rfl | hm
    · exact h.1
    · exact okDs_at h.2 hm
theorem depth_at : ∀ {ds : List PyData} {d : PyData}, d ∈ ds → d.depth ≤ PyData.depthAll ds
  | [], _, h => by simp at h
  | e :: ds, d, hm => by
    simp only [PyData.depthAll]
    rcases List.mem_cons.mp hm with rfl | hm
    · omega
    · have := depth_at hm
      omega
mutual
theorem okD_eqv : ∀ {d : PyData}, okD d = true → PyData.eqv d d = true
  | .none, _ => by simp [PyData.eqv]
  | .bool _, _ => by simp [PyData.eqv]
  | .int _, _ => by simp [PyData.eqv]
  | .str _, _ => by simp [PyData.eqv]
  | .list _, h => by simp [okD] at h
  | .dict _, h => by simp [okD] at h
  | .tuple xs, h => by
    simp only [okD, Bool.and_eq_true] at h
    simp only [PyData.eqv]
    exact okDs_eqv h.2
theorem okDs_eqv : ∀ {ds : List PyData}, okDs ds = true → PyData.eqvAll ds ds = true
  | [], _ => by simp [PyData.eqvAll]
  | d :: ds, h => by
    simp only [okDs, Bool.and_eq_true] at h
    simp only [PyData.eqvAll, Bool.and_eq_true]
    exact ⟨okD_eqv h.1, okDs_eqv h.2⟩
end
theorem okDs_ints : ∀ ns : List Int, okDs (ns.map .int) = true
  | [] => rfl
  | n :: ns => by
    show (okD (.int n) && okDs (ns.map .int)) = true
    rw [okDs_ints ns]; rfl
section
variable {T : List Df} {wh l i iInt : Nat}
theorem isInt_ok (hT : T[i]? = some (.body fIsInt)) (n : Int) : Pi.run T wh (l + 1) i [.int n] = some (.val (.bool true)) := by
  refine run_rt hT rfl (s_ret (r := .val (.bool (true && true))) (e_and (b_bi (l_cons (b_fr rfl) l_nil) rfl) fun _ => ?_))
  exact e_not (b_bi (l_cons (b_fr rfl) l_nil) (d := .bool false) rfl) rfl
theorem atI_at {ds : List PyData} {k : Nat} {d : PyData} (h : ds[k]? = some d) : L2.atI ds (k : Int) = some d := L2.atI_nat h
theorem is_leaf (hI : T[iInt]? = some (.body fIsInt)) (hT : T[i]? = some (.body (fIs iInt i))) (d : PyData) (hok : okD d = true) (hn : ∀ xs, d ≠ .tuple xs) : Pi.run T wh (l + 2) i [d, d] = some (.val (.bool true)) := by
  have hs : (∀ xs, d ≠ .list xs) → (∀ xs, d ≠ .dict xs) → SeqAt.shaped d = true := fun h1 h2 => by
    cases d <;> first | rfl | (exact absurd rfl (hn _)) | (exact absurd rfl (h1 _)) | (exact absurd rfl (h2 _)) | (simp only [okD] at hok; unfold SeqAt.shaped; rw [hok]; simp [PyData.depth])
  cases d with
  | none => exact run_rt hT rfl (s_ifT (t_of (b_cmp (b_fr rfl) b_const cmp_is) rfl) (s_ret (e_cmp (b_fr rfl) b_const cmp_is)))
  | bool b =>
    refine run_rt hT rfl (s_ifF (t_of (b_cmp (b_fr rfl) b_const cmp_is) rfl) (s_ifT (t_of (b_bi (l_cons (b_fr rfl) l_nil) (d := .bool true) rfl) rfl) ?_))
    exact s_ret (e_andT (b_bi (l_cons (b_fr rfl) l_nil) rfl) (e_cmp (b_fr rfl) (b_fr rfl) (cmp_eqT (hs (fun _ z => by cases z) fun _ z => by cases z) (hs (fun _ z => by cases z) fun _ z => by cases z) (okD_eqv hok))))
  | int b =>
    refine run_rt hT rfl (s_ifF (t_of (b_cmp (b_fr rfl) b_const cmp_is) rfl) (s_ifF (t_of (b_bi (l_cons (b_fr rfl) l_nil) (d := .bool false) rfl) rfl) (s_ifT (t_of (b_bi (l_cons (b_fr rfl) l_nil) (d := .bool true) rfl) rfl) ?_)))
    exact s_ret (e_andT (b_call (a_cons (e_var rfl) a_nil) (isInt_ok hI b)) (e_cmp (b_fr rfl) (b_fr rfl) (cmp_eqT (hs (fun _ z => by cases z) fun _ z => by cases z) (hs (fun _ z => by cases z) fun _ z => by cases z) (okD_eqv hok))))
  | str b =>
    refine run_rt hT rfl (s_ifF (t_of (b_cmp (b_fr rfl) b_const cmp_is) rfl) (s_ifF (t_of (b_bi (l_cons (b_fr rfl) l_nil) (d := .bool false) rfl) rfl) (s_ifF (t_of (b_bi (l_cons (b_fr rfl) l_nil) (d := .bool false) rfl) rfl) (s_ifT (t_of (b_bi (l_cons (b_fr rfl) l_nil) (d := .bool true) rfl) rfl) ?_))))
    exact s_ret (e_andT (b_bi (l_cons (b_fr rfl) l_nil) rfl) (e_cmp (b_fr rfl) (b_fr rfl) (cmp_eqT (hs (fun _ z => by cases z) fun _ z => by cases z) (hs (fun _ z => by cases z) fun _ z => by cases z) (okD_eqv hok))))
  | list xs => simp [okD] at hok
  | tuple xs => exact absurd rfl (hn xs)
  | dict xs => simp [okD] at hok
theorem is_refl (hI : T[iInt]? = some (.body fIsInt)) (hT : T[i]? = some (.body (fIs iInt i))) : ∀ (n : Nat) (d : PyData), okD d = true → d.depth ≤ n → Pi.run T wh (l + n + 2) i [d, d] = some (.val (.bool true)) := by
  intro n
  induction n with
  | zero =>
    intro d hok hd
    exact is_leaf hI hT d hok (fun xs z => by subst z; simp [PyData.depth] at hd)
  | succ n ih =>
    intro d hok hd
    by_cases ht : ∃ xs, d = .tuple xs
    rotate_left
    · exact is_leaf (l := l + (n + 1)) hI hT d hok (fun xs z => ht ⟨xs, z⟩)
    obtain ⟨xs, rfl⟩ := ht
    simp only [okD, Bool.and_eq_true, decide_eq_true_eq] at hok
    have hxs : xs.length ≤ sizeLine := by have := sizeLine_big; omega
    have hcol : collect (elemC ⟨Pi.run T wh (l + (n + 1) + 1), wh⟩ [.fr (.tuple xs), .fr (.tuple xs), .un] [2] (.name 2) [] (.call i [.ix (.var 0) (.var 2), .ix (.var 1) (.var 2)])) ((List.range xs.length).map fun (k : Nat) => .int k) = some ((List.range xs.length).map fun _ => .bool true) := by
      refine collect_map (fun k hk => ?_) (by rw [List.length_range]; exact hxs)
      have hk' : k < xs.length := by simpa using hk
      have hm : xs[k] ∈ xs := List.getElem_mem hk'
      have hix : ixD (.tuple xs) (k : Int) = some xs[k] := atI_at (List.getElem?_eq_getElem hk')
      have hdep := depth_at hm
      have hd' : xs[k].depth ≤ n := by
        simp only [PyData.depth] at hd
        omega
      exact c_elem (Γ := ⟨Pi.run T wh (l + (n + 1) + 1), wh⟩) rfl (e_call (a_cons (e_ix (b_fr rfl) (b_fr rfl) hix) (a_cons (e_ix (b_fr rfl) (b_fr rfl) hix) a_nil)) (ih xs[k] (okDs_at hok.2 hm) hd'))
    refine run_rt hT rfl (s_ifF (t_of (b_cmp (b_fr rfl) b_const cmp_is) rfl) (s_ifF (t_of (b_bi (l_cons (b_fr rfl) l_nil) (d := .bool false) rfl) rfl) (s_ifF (t_of (b_bi (l_cons (b_fr rfl) l_nil) (d := .bool false) rfl) rfl) (s_ifF (t_of (b_bi (l_cons (b_fr rfl) l_nil) (d := .bool false) rfl) rfl) (s_ifF ?_ ?_)))))
    · refine t_of (b_val (e_orF (b_not (b_bi (l_cons (b_fr rfl) l_nil) (d := .bool true) rfl) rfl) (e_cmp (r := false) (b_bi (l_cons (b_fr rfl) l_nil) bi_lenT) (b_bi (l_cons (b_fr rfl) l_nil) bi_lenT) ?_))) rfl
      rw [cmp_ne rfl rfl]
      simp [PyData.eqv]
    · refine s_ret (e_bi (l_cons (b_new (e_comp (i_range1 (b_bi (l_cons (b_fr rfl) l_nil) bi_lenT) (by omega)) hcol)) l_nil) ?_)
      have e : (List.range xs.length).map (fun _ => PyData.bool true) = ((List.range xs.length).map fun _ => true).map PyData.bool := by simp
      rw [e, bi_all]
      simp
end
end Pi
end
section
set_option Elab.async false
set_option linter.all false
set_option maxRecDepth 100000
set_option maxHeartbeats 1000000
/-! Pure data over the hand layer: tuples of whole numbers; small rules for runs. -/
namespace Pi
open PySem PySem.Spec
def eI (s : List Int) : PyData := .tuple (s.map .int)
theorem canLay_ints : ∀ s : List Int, PyData.canLayAll0 (s.map .int) = true
  | [] => by simp [PyData.canLayAll0]
  | x :: s => by simp [PyData.canLayAll0, PyData.canLay0, canLay_ints s]
theorem depth_ints : ∀ s : List Int, PyData.depthAll (s.map .int) = 0
  | [] => by simp [PyData.depthAll]
  | x :: s => by simp [PyData.depthAll, PyData.depth, depth_ints s]
theorem shaped_eI (s : List Int) : SeqAt.shaped (eI s) = true := by
  unfold SeqAt.shaped eI
  simp [PyData.canLay0, PyData.depth, canLay_ints, depth_ints]
theorem shaped_int (i : Int) : SeqAt.shaped (.int i) = true := rfl
theorem eqvAll_ints : ∀ a b : List Int, PyData.eqvAll (a.map .int) (b.map .int) = (a == b)
  | [], [] => by simp [PyData.eqvAll]
  | [], _ :: _ => by simp [PyData.eqvAll]
  | _ :: _, [] => by simp [PyData.eqvAll]
  | x :: a, y :: b => by
    simp only [List.map_cons, PyData.eqvAll, PyData.eqv, eqvAll_ints a b]
    rfl
theorem eqv_eI (a b : List Int) : PyData.eqv (eI a) (eI b) = (a == b) := by
  unfold eI
  simp only [PyData.eqv]
  exact eqvAll_ints a b
theorem memD_ints (x : Int) : ∀ b : List Int, memD (.int x) (b.map .int) = b.contains x
  | [] => rfl
  | y :: b => by
    have ih := memD_ints x b
    unfold memD at ih ⊢
    rw [List.map_cons, List.any_cons, ih, List.contains_cons]
    simp only [PyData.eqv]
    congr 1
    exact Bool.eq_iff_iff.mpr (by simp only [beq_iff_eq]; exact eq_comm)
/-- each of a is in b -/
def sub (a b : List Int) : Bool := a.all fun x => b.contains x
theorem okD_eI (s : List Int) (h : s.length ≤ 100000) : okD (eI s) = true := by
  unfold eI
  simp only [okD, Bool.and_eq_true, decide_eq_true_eq, List.length_map]
  exact ⟨h, okDs_ints s⟩
theorem okDs_map {α : Type} {e : α → PyData} : ∀ {xs : List α}, (∀ x ∈ xs, okD (e x) = true) → okDs (xs.map e) = true
  | [], _ => rfl
  | x :: xs, h => by
    simp only [List.map_cons, okDs, Bool.and_eq_true]
    exact ⟨h x (by simp), okDs_map fun y hy => h y (by simp [hy])⟩
theorem depth_map {α : Type} {e : α → PyData} {n : Nat} : ∀ {xs : List α}, (∀ x ∈ xs, (e x).depth ≤ n) → PyData.depthAll (xs.map e) ≤ n
  | [], _ => by simp [PyData.depthAll]
  | x :: xs, h => by
    simp only [List.map_cons, PyData.depthAll]
    have h1 := h x (by simp)
    have h2 := depth_map fun y hy => h y (List.mem_cons_of_mem _ hy)
    omega
theorem depth_eI (s : List Int) : (eI s).depth = 1 := by
  unfold eI
  simp [PyData.depth, depth_ints]
section
variable {T : List Df} {wh l i : Nat}
def fIn : Fn := ⟨2, 3, [.ret (.gen false [2] (.cmp .In (.var 2) (.var 1)) [.mk (.name 2) (.seq (.var 0)) []])]⟩
def fInL : Fn := ⟨2, 3, [.ret (.bi .all [.comp [2] (.cmp .In (.var 2) (.var 1)) [.mk (.name 2) (.seq (.var 0)) []]])]⟩
theorem cmp_in (x : Int) (b : List Int) : cmpD .In (.int x) (eI b) = some (b.contains x) := by
  show (if SeqAt.shaped (.int x) && SeqAt.shaped (eI b) then some (memD (.int x) (b.map .int)) else none) = _
  rw [shaped_eI, shaped_int, memD_ints]
  rfl
theorem in_ok (hT : T[i]? = some (.body fIn)) (a b : List Int) : Pi.run T wh (l + 1) i [eI a, eI b] = some (.val (.bool (sub a b))) :=
  run_rt hT rfl (s_ret (e_gen (i_val (e_var rfl) rfl) (seek_all fun x _ => g_elem (Γ := ⟨Pi.run T wh l, wh⟩) rfl (e_cmp (b_fr rfl) (b_fr rfl) (cmp_in x b)))))
theorem inL_ok (hT : T[i]? = some (.body fInL)) (a b : List Int) (ha : a.length ≤ 100000) : Pi.run T wh (l + 1) i [eI a, eI b] = some (.val (.bool (sub a b))) := by
  have hz := sizeLine_big
  refine run_rt hT rfl (s_ret (e_bi (l_cons (b_new (e_comp (i_val (e_var rfl) rfl) (collect_map (g := fun x => .bool (b.contains x)) (fun x _ => c_elem (Γ := ⟨Pi.run T wh l, wh⟩) rfl (e_cmp (b_fr rfl) (b_fr rfl) (cmp_in x b))) (by omega)))) l_nil) ?_))
  have e : a.map (fun x => PyData.bool (b.contains x)) = (a.map fun x => b.contains x).map PyData.bool := by simp
  rw [e, bi_all]
  simp [sub, List.all_map]
end
end Pi
end
section
set_option Elab.async false
set_option linter.all false
set_option maxRecDepth 100000
set_option maxHeartbeats 2000000
namespace K53
open PySem PySem.Spec PyProof.Rows L2 Pi
/-! ### the text (printed by gen.py) -/
def topS (i : Nat) : Stmt := PySem.Challenge.pw_kindhall_k53_whole_counts_of_marks.main.body.getD i (.Pass ⟨0, 0, 0, 0⟩)
/-- is_within(one, other): one, other, item -/
def F0 : Fn := ⟨2, 3, [
  .ret (.gen false [2] (.cmp .In (.var 2) (.var 1)) [.mk (.name 2) (.seq (.var 0)) []])]⟩
/-- all_sets(n): n, found, number, one -/
def F1 : Fn := ⟨1, 4, [
  .set 1 (.lst [.tup []]),
  .loop (.name 2) (.range [.var 0]) [.set 1 (.bin .Add (.var 1) (.comp [3] (.bin .Add (.var 3) (.tup [.var 2])) [.mk (.name 3) (.seq (.var 1)) []]))],
  .ret (.bi .sorted [.var 1])]⟩
/-- bearers(table, marks): table, marks, thing, row -/
def F2 : Fn := ⟨2, 4, [
  .ret (.bi .tuple [.comp [2, 3] (.var 2) [.mk (.tup [.name 2, .name 3]) (.enum (.ix (.var 0) (.const (.int 1)))) [.call 0 [.var 1, .var 3]]]])]⟩
/-- place_for_marks(marks): marks, mark -/
def F3 : Fn := ⟨1, 2, [
  .ret (.bi .sum [.comp [1] (.call 4 [.var 1]) [.mk (.name 1) (.seq (.var 0)) []]])]⟩
/-- doubled(mark): mark, number, _ -/
def F4 : Fn := ⟨1, 3, [
  .set 1 (.const (.int 1)),
  .loop (.name 2) (.range [.var 0]) [.aug 1 .Add (.var 1)],
  .ret (.var 1)]⟩
/-- sets_by_place(m): m -/
def F5 : Fn := ⟨1, 1, [
  .ret (.sortKey 3 (.call 1 [.var 0]))]⟩
/-- bearer_counts(table): table, marks -/
def F6 : Fn := ⟨1, 2, [
  .ret (.bi .tuple [.comp [1] (.bi .len [.call 2 [.var 0, .var 1]]) [.mk (.name 1) (.seq (.call 5 [.ix (.var 0) (.const (.int 0))])) []]])]⟩
/-- exact_counts(m, counts): m, counts, sets, found, marks, signed, place, more -/
def F7 : Fn := ⟨2, 8, [
  .set 2 (.call 5 [.var 0]),
  .set 3 (.lst []),
  .frz 2,
  .loop (.name 4) (.seq (.var 2)) [.set 5 (.const (.int 0)), .frz 2, .loop (.tup [.name 6, .name 7]) (.enum (.var 2)) [.ifs (.call 0 [.var 4, .var 7]) [.aug 5 .Add (.ite (.cmp .Eq (.bin .Mod (.bin .Sub (.bi .len [.var 7]) (.bi .len [.var 4])) (.const (.int 2))) (.const (.int 0))) (.ix (.var 1) (.var 6)) (.neg (.ix (.var 1) (.var 6))))] []], .frz 5, .append 3 (.var 5)],
  .ret (.bi .tuple [.var 3])]⟩
/-- told_lack(m, counts): m, counts, place, number -/
def F8 : Fn := ⟨2, 4, [
  .loop (.tup [.name 2, .name 3]) (.enum (.call 7 [.var 0, .var 1])) [.ifs (.cmp .Lt (.var 3) (.const (.int 0))) [.ret (.ix (.call 5 [.var 0]) (.var 2))] []],
  .ret (.const .none)]⟩
/-- table_of_counts(m, counts): m, counts, rows, sets, place, number, _ -/
def F9 : Fn := ⟨2, 7, [
  .ifs (.cmp .IsNot (.call 8 [.var 0, .var 1]) (.const .none)) [.ret (.const .none)] [],
  .set 2 (.lst []),
  .set 3 (.call 5 [.var 0]),
  .loop (.tup [.name 4, .name 5]) (.enum (.call 7 [.var 0, .var 1])) [.loop (.name 6) (.range [.var 5]) [.append 2 (.ix (.var 3) (.var 4))]],
  .ret (.tup [.var 0, .bi .tuple [.var 2]])]⟩
/-- _law_cell(script, k): script, k -/
def F10 : Fn := ⟨2, 2, [
  .ifs (.cmp .Lt (.var 1) (.bi .len [.var 0])) [.ret (.ix (.var 0) (.var 1))] [],
  .ret (.bin .Add (.bin .Mult (.const (.int 5)) (.var 1)) (.const (.int 3)))]⟩
/-- _law_draws(cell, count): cell, count, rest, digits, seed, draws, k, mixed -/
def F11 : Fn := ⟨2, 8, [
  .set 2 (.bi .abs [.bi .int [.var 0]]),
  .set 3 (.cmp .GtE (.var 2) (.bin .Pow (.const (.int 10)) (.const (.int 18)))),
  .frz 2,
  .set 4 (.var 2),
  .set 5 (.lst []),
  .loop (.name 6) (.range [.var 1]) [.ifs (.and (.var 3) (.cmp .Gt (.var 2) (.const (.int 0)))) [.append 5 (.bin .Mod (.bi .int [.var 2]) (.const (.int 5040))), .set 2 (.bin .FloorDiv (.var 2) (.const (.int 5040)))] [.set 7 (.bin .Mod (.bi .int [.bin .Add (.bin .Add (.bin .Mult (.var 4) (.const (.int 48271))) (.bin .Mult (.bin .Add (.var 6) (.const (.int 1))) (.const (.int 69621)))) (.const (.int 11))]) (.const (.int 2147483647))), .set 7 (.bin .Mod (.bi .int [.bin .Add (.bin .Mult (.var 7) (.var 7)) (.bin .Mult (.const (.int 40692)) (.bin .Add (.var 6) (.const (.int 3))))]) (.const (.int 2147483399))), .append 5 (.bin .Mod (.bi .int [.bin .FloorDiv (.var 7) (.const (.int 64))]) (.const (.int 5040)))]],
  .ret (.var 5)]⟩
/-- _law_is_integer(value): value -/
def F12 : Fn := ⟨1, 1, [
  .ret (.and (.bi .isInt [.var 0]) (.not (.bi .isBool [.var 0])))]⟩
/-- _law_is(value, due): value, due, at -/
def F13 : Fn := ⟨2, 3, [
  .ifs (.cmp .Is (.var 1) (.const .none)) [.ret (.cmp .Is (.var 0) (.const .none))] [],
  .ifs (.bi .isBool [.var 1]) [.ret (.and (.bi .isBool [.var 0]) (.cmp .Eq (.var 0) (.var 1)))] [],
  .ifs (.bi .isInt [.var 1]) [.ret (.and (.call 12 [.var 0]) (.cmp .Eq (.var 0) (.var 1)))] [],
  .ifs (.bi .isStr [.var 1]) [.ret (.and (.bi .isStr [.var 0]) (.cmp .Eq (.var 0) (.var 1)))] [],
  .ifs (.or (.not (.bi .isTuple [.var 0])) (.cmp .NotEq (.bi .len [.var 0]) (.bi .len [.var 1]))) [.ret (.const (.bool false))] [],
  .ret (.bi .all [.comp [2] (.call 13 [.ix (.var 0) (.var 2), .ix (.var 1) (.var 2)]) [.mk (.name 2) (.range [.bi .len [.var 1]]) []]])]⟩
/-- _law_set(draw, size): draw, size, at -/
def F14 : Fn := ⟨2, 3, [
  .ret (.bi .tuple [.comp [2] (.var 2) [.mk (.name 2) (.range [.var 1]) [.cmp .Eq (.bin .Mod (.bin .FloorDiv (.bi .int [.var 0]) (.ix (.tup [.const (.int 1), .const (.int 2), .const (.int 4), .const (.int 8), .const (.int 16), .const (.int 32), .const (.int 64)]) (.var 2))) (.const (.int 2))) (.const (.int 1))]]])]⟩
/-- _law_in(one, other): one, other, item -/
def F15 : Fn := ⟨2, 3, [
  .ret (.bi .all [.comp [2] (.cmp .In (.var 2) (.var 1)) [.mk (.name 2) (.seq (.var 0)) []]])]⟩
/-- _law_numbers(m): m, found, mark, some -/
def F16 : Fn := ⟨1, 4, [
  .set 1 (.lst [.tup []]),
  .loop (.name 2) (.range [.var 0]) [.set 1 (.bin .Add (.var 1) (.comp [3] (.bin .Add (.var 3) (.tup [.var 2])) [.mk (.name 3) (.seq (.var 1)) []]))],
  .ret (.var 1)]⟩
/-- _law_exact(m, counts): m, counts, left, size, mark, at -/
def F17 : Fn := ⟨2, 6, [
  .set 2 (.bi .list [.var 1]),
  .set 3 (.const (.int 1)),
  .loop (.name 4) (.range [.var 0]) [.set 2 (.comp [5] (.bin .Sub (.ix (.var 2) (.var 5)) (.ite (.cmp .Eq (.bin .Mod (.bin .FloorDiv (.var 5) (.var 3)) (.const (.int 2))) (.const (.int 0))) (.ix (.var 2) (.bin .Add (.var 5) (.var 3))) (.const (.int 0)))) [.mk (.name 5) (.range [.bi .len [.var 2]]) []]), .set 3 (.bin .Add (.var 3) (.var 3))],
  .ret (.bi .tuple [.var 2])]⟩
/-- law(script): script, draws, k, m, part, sets, rows, counts, just, at, due, turn, given_counts, step, exact, lacks, made, told, some, thing, row -/
def F18 : Fn := ⟨1, 21, [
  .set 1 (.call 11 [.call 10 [.var 0, .const (.int 0)], .const (.int 60)]),
  .loop (.name 2) (.range [.const (.int 3)]) [.set 3 (.ix (.tup [.const (.int 3), .const (.int 2), .const (.int 4), .const (.int 5), .const (.int 1), .const (.int 0)]) (.bin .Mod (.bi .int [.ix (.var 1) (.var 2)]) (.const (.int 6)))), .set 4 (.call 11 [.call 10 [.var 0, .bin .Add (.const (.int 1)) (.var 2)], .const (.int 60)]), .frz 3, .set 5 (.call 16 [.var 3]), .frz 3, .set 6 (.bi .tuple [.comp [9] (.call 14 [.bin .FloorDiv (.bi .int [.ix (.var 4) (.var 9)]) (.const (.int 3)), .var 3]) [.mk (.name 9) (.range [.bin .Mod (.bi .int [.ix (.var 1) (.bin .Add (.const (.int 3)) (.var 2))]) (.const (.int 7))]) []]]), .set 7 (.bi .tuple [.comp [18] (.bi .len [.comp [20] (.var 20) [.mk (.name 20) (.seq (.var 6)) [.call 15 [.var 18, .var 20]]]]) [.mk (.name 18) (.seq (.var 5)) []]]), .set 8 (.bi .tuple [.comp [18] (.bi .len [.comp [20] (.var 20) [.mk (.name 20) (.seq (.var 6)) [.cmp .Eq (.var 20) (.var 18)]]]) [.mk (.name 18) (.seq (.var 5)) []]]), .frz 3, .frz 6, .frz 7, .frz 8, .ifs (.or (.not (.call 13 [.call 6 [.tup [.var 3, .var 6]], .var 7])) (.not (.call 13 [.call 7 [.var 3, .var 7], .var 8]))) [.ret (.const (.bool false))] [], .set 9 (.bin .Mod (.bi .int [.ix (.var 1) (.bin .Add (.const (.int 6)) (.var 2))]) (.bi .len [.var 5])), .set 10 (.bi .tuple [.comp [19] (.var 19) [.mk (.name 19) (.range [.bi .len [.var 6]]) [.call 15 [.ix (.var 5) (.var 9), .ix (.var 6) (.var 19)]]]]), .frz 3, .frz 6, .frz 10, .ifs (.not (.call 13 [.call 2 [.tup [.var 3, .var 6], .ix (.var 5) (.var 9)], .var 10])) [.ret (.const (.bool false))] [], .loop (.name 11) (.range [.const (.int 4)]) [.frz 7, .set 12 (.var 7), .ifs (.or (.cmp .Eq (.var 11) (.const (.int 1))) (.cmp .Eq (.var 11) (.const (.int 2)))) [.set 9 (.bin .Mod (.bi .int [.ix (.var 4) (.bin .Add (.const (.int 10)) (.var 11))]) (.bi .len [.var 7])), .set 13 (.ite (.cmp .Eq (.var 11) (.const (.int 1))) (.bin .Sub (.bin .Mod (.bi .int [.ix (.var 4) (.bin .Add (.const (.int 13)) (.var 11))]) (.const (.int 3))) (.const (.int 1))) (.const (.int 1))), .set 12 (.bin .Add (.bin .Add (.sl (.var 7) none (some (.var 9))) (.tup [.bin .Add (.ix (.var 7) (.var 9)) (.var 13)])) (.sl (.var 7) (some (.bin .Add (.var 9) (.const (.int 1)))) none))] [], .ifs (.cmp .Eq (.var 11) (.const (.int 3))) [.set 12 (.bi .tuple [.comp [9] (.bin .Sub (.bin .Mod (.bi .int [.ix (.var 4) (.bin .Add (.const (.int 20)) (.var 9))]) (.const (.int 12))) (.ite (.cmp .Gt (.var 9) (.const (.int 0))) (.const (.int 1)) (.const (.int 0)))) [.mk (.name 9) (.range [.bi .len [.var 7]]) []]])] [], .frz 3, .frz 12, .set 14 (.call 17 [.var 3, .var 12]), .set 15 (.comp [9] (.ix (.var 5) (.var 9)) [.mk (.name 9) (.range [.bi .len [.var 5]]) [.cmp .Lt (.ix (.var 14) (.var 9)) (.const (.int 0))]]), .frz 3, .frz 12, .frz 14, .ifs (.not (.call 13 [.call 7 [.var 3, .var 12], .var 14])) [.ret (.const (.bool false))] [], .frz 3, .frz 12, .ifs (.not (.call 13 [.call 8 [.var 3, .var 12], .ite (.cmp .Gt (.bi .len [.var 15]) (.const (.int 0))) (.ix (.var 15) (.const (.int 0))) (.const .none)])) [.ret (.const (.bool false))] [], .set 16 (.lst []), .loop (.name 9) (.range [.bi .len [.var 5]]) [.set 16 (.bin .Add (.var 16) (.bin .Mult (.lst [.ix (.var 5) (.var 9)]) (.bi .max [.const (.int 0), .ix (.var 14) (.var 9)])))], .frz 3, .frz 12, .set 17 (.call 9 [.var 3, .var 12]), .frz 3, .frz 17, .ifs (.not (.call 13 [.var 17, .ite (.cmp .Eq (.bi .len [.var 15]) (.const (.int 0))) (.tup [.var 3, .bi .tuple [.var 16]]) (.const .none)])) [.ret (.const (.bool false))] [], .frz 12, .frz 17, .ifs (.and (.cmp .IsNot (.var 17) (.const .none)) (.and (.cmp .Lt (.bi .len [.var 16]) (.const (.int 7))) (.not (.call 13 [.call 6 [.var 17], .var 12])))) [.ret (.const (.bool false))] []]],
  .ret (.const (.bool true))]⟩
def fsL : List (Str × Nat) := [("is_within", 0), ("all_sets", 1), ("bearers", 2), ("place_for_marks", 3), ("doubled", 4), ("sets_by_place", 5), ("bearer_counts", 6), ("exact_counts", 7), ("told_lack", 8), ("table_of_counts", 9), ("_law_cell", 10), ("_law_draws", 11), ("_law_is_integer", 12), ("_law_is", 13), ("_law_set", 14), ("_law_in", 15), ("_law_numbers", 16), ("_law_exact", 17), ("law", 18)]
def bsL : List Str := ["abs", "all", "bool", "enumerate", "int", "isinstance", "len", "list", "max", "range", "sorted", "str", "sum", "tuple"]
def E0 : Ent := ⟨"is_within", topS 1, ["one", "other", "item"], ["one", "other"], F0, true⟩
def E1 : Ent := ⟨"all_sets", topS 2, ["n", "found", "number", "one"], ["n"], F1, false⟩
def E2 : Ent := ⟨"bearers", topS 3, ["table", "marks", "thing", "row"], ["table", "marks"], F2, false⟩
def E3 : Ent := ⟨"place_for_marks", topS 5, ["marks", "mark"], ["marks"], F3, false⟩
def E4 : Ent := ⟨"doubled", topS 6, ["mark", "number", "_"], ["mark"], F4, false⟩
def E5 : Ent := ⟨"sets_by_place", topS 7, ["m"], ["m"], F5, false⟩
def E6 : Ent := ⟨"bearer_counts", topS 8, ["table", "marks"], ["table"], F6, false⟩
def E7 : Ent := ⟨"exact_counts", topS 9, ["m", "counts", "sets", "found", "marks", "signed", "place", "more"], ["m", "counts"], F7, false⟩
def E8 : Ent := ⟨"told_lack", topS 10, ["m", "counts", "place", "number"], ["m", "counts"], F8, false⟩
def E9 : Ent := ⟨"table_of_counts", topS 11, ["m", "counts", "rows", "sets", "place", "number", "_"], ["m", "counts"], F9, false⟩
def E10 : Ent := ⟨"_law_cell", topS 13, ["script", "k"], ["script", "k"], F10, false⟩
def E11 : Ent := ⟨"_law_draws", topS 14, ["cell", "count", "rest", "digits", "seed", "draws", "k", "mixed"], ["cell", "count"], F11, false⟩
def E12 : Ent := ⟨"_law_is_integer", topS 15, ["value"], ["value"], F12, false⟩
def E13 : Ent := ⟨"_law_is", topS 16, ["value", "due", "at"], ["value", "due"], F13, false⟩
def E14 : Ent := ⟨"_law_set", topS 17, ["draw", "size", "at"], ["draw", "size"], F14, false⟩
def E15 : Ent := ⟨"_law_in", topS 18, ["one", "other", "item"], ["one", "other"], F15, false⟩
def E16 : Ent := ⟨"_law_numbers", topS 19, ["m", "found", "mark", "some"], ["m"], F16, false⟩
def E17 : Ent := ⟨"_law_exact", topS 20, ["m", "counts", "left", "size", "mark", "at"], ["m", "counts"], F17, false⟩
def E18 : Ent := ⟨"law", topS 21, ["script", "draws", "k", "m", "part", "sets", "rows", "counts", "just", "at", "due", "turn", "given_counts", "step", "exact", "lacks", "made", "told", "some", "thing", "row"], ["script"], F18, false⟩
theorem ok0 : E0.Ok fsL bsL 2 := ⟨⟨rfl, rfl, rfl, by decide +kernel, rfl, by decide +kernel, by decide +kernel⟩, rfl, rfl, by decide +kernel⟩
theorem ok1 : E1.Ok fsL bsL 2 := ⟨⟨rfl, rfl, rfl, by decide +kernel, rfl, by decide +kernel, by decide +kernel⟩, rfl, rfl, by decide +kernel⟩
theorem ok2 : E2.Ok fsL bsL 2 := ⟨⟨rfl, rfl, rfl, by decide +kernel, rfl, by decide +kernel, by decide +kernel⟩, rfl, rfl, by decide +kernel⟩
theorem ok3 : E3.Ok fsL bsL 2 := ⟨⟨rfl, rfl, rfl, by decide +kernel, rfl, by decide +kernel, by decide +kernel⟩, rfl, rfl, by decide +kernel⟩
theorem ok4 : E4.Ok fsL bsL 2 := ⟨⟨rfl, rfl, rfl, by decide +kernel, rfl, by decide +kernel, by decide +kernel⟩, rfl, rfl, by decide +kernel⟩
theorem ok5 : E5.Ok fsL bsL 2 := ⟨⟨rfl, rfl, rfl, by decide +kernel, rfl, by decide +kernel, by decide +kernel⟩, rfl, rfl, by decide +kernel⟩
theorem ok6 : E6.Ok fsL bsL 2 := ⟨⟨rfl, rfl, rfl, by decide +kernel, rfl, by decide +kernel, by decide +kernel⟩, rfl, rfl, by decide +kernel⟩
theorem ok7 : E7.Ok fsL bsL 2 := ⟨⟨rfl, rfl, rfl, by decide +kernel, rfl, by decide +kernel, by decide +kernel⟩, rfl, rfl, by decide +kernel⟩
theorem ok8 : E8.Ok fsL bsL 2 := ⟨⟨rfl, rfl, rfl, by decide +kernel, rfl, by decide +kernel, by decide +kernel⟩, rfl, rfl, by decide +kernel⟩
theorem ok9 : E9.Ok fsL bsL 2 := ⟨⟨rfl, rfl, rfl, by decide +kernel, rfl, by decide +kernel, by decide +kernel⟩, rfl, rfl, by decide +kernel⟩
theorem ok10 : E10.Ok fsL bsL 2 := ⟨⟨rfl, rfl, rfl, by decide +kernel, rfl, by decide +kernel, by decide +kernel⟩, rfl, rfl, by decide +kernel⟩
theorem ok11 : E11.Ok fsL bsL 2 := ⟨⟨rfl, rfl, rfl, by decide +kernel, rfl, by decide +kernel, by decide +kernel⟩, rfl, rfl, by decide +kernel⟩
theorem ok12 : E12.Ok fsL bsL 2 := ⟨⟨rfl, rfl, rfl, by decide +kernel, rfl, by decide +kernel, by decide +kernel⟩, rfl, rfl, by decide +kernel⟩
theorem ok13 : E13.Ok fsL bsL 2 := ⟨⟨rfl, rfl, rfl, by decide +kernel, rfl, by decide +kernel, by decide +kernel⟩, rfl, rfl, by decide +kernel⟩
theorem ok14 : E14.Ok fsL bsL 2 := ⟨⟨rfl, rfl, rfl, by decide +kernel, rfl, by decide +kernel, by decide +kernel⟩, rfl, rfl, by decide +kernel⟩
theorem ok15 : E15.Ok fsL bsL 2 := ⟨⟨rfl, rfl, rfl, by decide +kernel, rfl, by decide +kernel, by decide +kernel⟩, rfl, rfl, by decide +kernel⟩
theorem ok16 : E16.Ok fsL bsL 2 := ⟨⟨rfl, rfl, rfl, by decide +kernel, rfl, by decide +kernel, by decide +kernel⟩, rfl, rfl, by decide +kernel⟩
theorem ok17 : E17.Ok fsL bsL 2 := ⟨⟨rfl, rfl, rfl, by decide +kernel, rfl, by decide +kernel, by decide +kernel⟩, rfl, rfl, by decide +kernel⟩
theorem ok18 : E18.Ok fsL bsL 2 := ⟨⟨rfl, rfl, rfl, by decide +kernel, rfl, by decide +kernel, by decide +kernel⟩, rfl, rfl, by decide +kernel⟩
def its : List Itm := [.d E0, .d E1, .d E2, .d E3, .d E4, .d E5, .d E6, .d E7, .d E8, .d E9, .d E10, .d E11, .d E12, .d E13, .d E14, .d E15, .d E16, .d E17, .d E18]
theorem bd0 (kV doc pm : Value) (an : Option Addr) (cdv ct : Value) (us : List Value) (hl : us.length = E0.ps.length) : bindArgs (PySem.W.fnOf E0.x E0.x (defArgs E0.st) (defBody E0.st) (defScope E0.st) .none kV doc pm an cdv ct) ⟨us, []⟩ = pure (E0.ps.zip us) := match us, hl with | [_, _], _ => rfl
theorem bd1 (kV doc pm : Value) (an : Option Addr) (cdv ct : Value) (us : List Value) (hl : us.length = E1.ps.length) : bindArgs (PySem.W.fnOf E1.x E1.x (defArgs E1.st) (defBody E1.st) (defScope E1.st) .none kV doc pm an cdv ct) ⟨us, []⟩ = pure (E1.ps.zip us) := match us, hl with | [_], _ => rfl
theorem bd2 (kV doc pm : Value) (an : Option Addr) (cdv ct : Value) (us : List Value) (hl : us.length = E2.ps.length) : bindArgs (PySem.W.fnOf E2.x E2.x (defArgs E2.st) (defBody E2.st) (defScope E2.st) .none kV doc pm an cdv ct) ⟨us, []⟩ = pure (E2.ps.zip us) := match us, hl with | [_, _], _ => rfl
theorem bd3 (kV doc pm : Value) (an : Option Addr) (cdv ct : Value) (us : List Value) (hl : us.length = E3.ps.length) : bindArgs (PySem.W.fnOf E3.x E3.x (defArgs E3.st) (defBody E3.st) (defScope E3.st) .none kV doc pm an cdv ct) ⟨us, []⟩ = pure (E3.ps.zip us) := match us, hl with | [_], _ => rfl
theorem bd4 (kV doc pm : Value) (an : Option Addr) (cdv ct : Value) (us : List Value) (hl : us.length = E4.ps.length) : bindArgs (PySem.W.fnOf E4.x E4.x (defArgs E4.st) (defBody E4.st) (defScope E4.st) .none kV doc pm an cdv ct) ⟨us, []⟩ = pure (E4.ps.zip us) := match us, hl with | [_], _ => rfl
theorem bd5 (kV doc pm : Value) (an : Option Addr) (cdv ct : Value) (us : List Value) (hl : us.length = E5.ps.length) : bindArgs (PySem.W.fnOf E5.x E5.x (defArgs E5.st) (defBody E5.st) (defScope E5.st) .none kV doc pm an cdv ct) ⟨us, []⟩ = pure (E5.ps.zip us) := match us, hl with | [_], _ => rfl
theorem bd6 (kV doc pm : Value) (an : Option Addr) (cdv ct : Value) (us : List Value) (hl : us.length = E6.ps.length) : bindArgs (PySem.W.fnOf E6.x E6.x (defArgs E6.st) (defBody E6.st) (defScope E6.st) .none kV doc pm an cdv ct) ⟨us, []⟩ = pure (E6.ps.zip us) := match us, hl with | [_], _ => rfl
theorem bd7 (kV doc pm : Value) (an : Option Addr) (cdv ct : Value) (us : List Value) (hl : us.length = E7.ps.length) : bindArgs (PySem.W.fnOf E7.x E7.x (defArgs E7.st) (defBody E7.st) (defScope E7.st) .none kV doc pm an cdv ct) ⟨us, []⟩ = pure (E7.ps.zip us) := match us, hl with | [_, _], _ => rfl
theorem bd8 (kV doc pm : Value) (an : Option Addr) (cdv ct : Value) (us : List Value) (hl : us.length = E8.ps.length) : bindArgs (PySem.W.fnOf E8.x E8.x (defArgs E8.st) (defBody E8.st) (defScope E8.st) .none kV doc pm an cdv ct) ⟨us, []⟩ = pure (E8.ps.zip us) := match us, hl with | [_, _], _ => rfl
theorem bd9 (kV doc pm : Value) (an : Option Addr) (cdv ct : Value) (us : List Value) (hl : us.length = E9.ps.length) : bindArgs (PySem.W.fnOf E9.x E9.x (defArgs E9.st) (defBody E9.st) (defScope E9.st) .none kV doc pm an cdv ct) ⟨us, []⟩ = pure (E9.ps.zip us) := match us, hl with | [_, _], _ => rfl
theorem bd10 (kV doc pm : Value) (an : Option Addr) (cdv ct : Value) (us : List Value) (hl : us.length = E10.ps.length) : bindArgs (PySem.W.fnOf E10.x E10.x (defArgs E10.st) (defBody E10.st) (defScope E10.st) .none kV doc pm an cdv ct) ⟨us, []⟩ = pure (E10.ps.zip us) := match us, hl with | [_, _], _ => rfl
theorem bd11 (kV doc pm : Value) (an : Option Addr) (cdv ct : Value) (us : List Value) (hl : us.length = E11.ps.length) : bindArgs (PySem.W.fnOf E11.x E11.x (defArgs E11.st) (defBody E11.st) (defScope E11.st) .none kV doc pm an cdv ct) ⟨us, []⟩ = pure (E11.ps.zip us) := match us, hl with | [_, _], _ => rfl
theorem bd12 (kV doc pm : Value) (an : Option Addr) (cdv ct : Value) (us : List Value) (hl : us.length = E12.ps.length) : bindArgs (PySem.W.fnOf E12.x E12.x (defArgs E12.st) (defBody E12.st) (defScope E12.st) .none kV doc pm an cdv ct) ⟨us, []⟩ = pure (E12.ps.zip us) := match us, hl with | [_], _ => rfl
theorem bd13 (kV doc pm : Value) (an : Option Addr) (cdv ct : Value) (us : List Value) (hl : us.length = E13.ps.length) : bindArgs (PySem.W.fnOf E13.x E13.x (defArgs E13.st) (defBody E13.st) (defScope E13.st) .none kV doc pm an cdv ct) ⟨us, []⟩ = pure (E13.ps.zip us) := match us, hl with | [_, _], _ => rfl
theorem bd14 (kV doc pm : Value) (an : Option Addr) (cdv ct : Value) (us : List Value) (hl : us.length = E14.ps.length) : bindArgs (PySem.W.fnOf E14.x E14.x (defArgs E14.st) (defBody E14.st) (defScope E14.st) .none kV doc pm an cdv ct) ⟨us, []⟩ = pure (E14.ps.zip us) := match us, hl with | [_, _], _ => rfl
theorem bd15 (kV doc pm : Value) (an : Option Addr) (cdv ct : Value) (us : List Value) (hl : us.length = E15.ps.length) : bindArgs (PySem.W.fnOf E15.x E15.x (defArgs E15.st) (defBody E15.st) (defScope E15.st) .none kV doc pm an cdv ct) ⟨us, []⟩ = pure (E15.ps.zip us) := match us, hl with | [_, _], _ => rfl
theorem bd16 (kV doc pm : Value) (an : Option Addr) (cdv ct : Value) (us : List Value) (hl : us.length = E16.ps.length) : bindArgs (PySem.W.fnOf E16.x E16.x (defArgs E16.st) (defBody E16.st) (defScope E16.st) .none kV doc pm an cdv ct) ⟨us, []⟩ = pure (E16.ps.zip us) := match us, hl with | [_], _ => rfl
theorem bd17 (kV doc pm : Value) (an : Option Addr) (cdv ct : Value) (us : List Value) (hl : us.length = E17.ps.length) : bindArgs (PySem.W.fnOf E17.x E17.x (defArgs E17.st) (defBody E17.st) (defScope E17.st) .none kV doc pm an cdv ct) ⟨us, []⟩ = pure (E17.ps.zip us) := match us, hl with | [_, _], _ => rfl
theorem bd18 (kV doc pm : Value) (an : Option Addr) (cdv ct : Value) (us : List Value) (hl : us.length = E18.ps.length) : bindArgs (PySem.W.fnOf E18.x E18.x (defArgs E18.st) (defBody E18.st) (defScope E18.st) .none kV doc pm an cdv ct) ⟨us, []⟩ = pure (E18.ps.zip us) := match us, hl with | [_], _ => rfl
theorem all_mk {l : PySem.W.OpenLaw} {w : World} {K : PySem.W.Frag} {h : Heap} {mg : Str → Option Value} {fa : Addr} {q : Program} (X : K.In h) (G : h.Ns mainGlobals mg) (hfa : mg "law" = some (.ref fa)) (own : Tabs0 q K mg h)
    {f0 f1 f2 f3 f4 f5 f6 f7 f8 f9 f10 f11 f12 f13 f14 f15 f16 f17 f18 c0 p0 : Addr} {cd0 cd1 cd2 cd3 cd4 cd5 cd6 cd7 cd8 cd9 cd10 cd11 cd12 cd13 cd14 cd15 cd16 cd17 cd18 : Value}
    (d0 : DefK K E0.x E0.st f0 cd0)
    (d1 : DefK K E1.x E1.st f1 cd1)
    (d2 : DefK K E2.x E2.st f2 cd2)
    (d3 : DefK K E3.x E3.st f3 cd3)
    (d4 : DefK K E4.x E4.st f4 cd4)
    (d5 : DefK K E5.x E5.st f5 cd5)
    (d6 : DefK K E6.x E6.st f6 cd6)
    (d7 : DefK K E7.x E7.st f7 cd7)
    (d8 : DefK K E8.x E8.st f8 cd8)
    (d9 : DefK K E9.x E9.st f9 cd9)
    (d10 : DefK K E10.x E10.st f10 cd10)
    (d11 : DefK K E11.x E11.st f11 cd11)
    (d12 : DefK K E12.x E12.st f12 cd12)
    (d13 : DefK K E13.x E13.st f13 cd13)
    (d14 : DefK K E14.x E14.st f14 cd14)
    (d15 : DefK K E15.x E15.st f15 cd15)
    (d16 : DefK K E16.x E16.st f16 cd16)
    (d17 : DefK K E17.x E17.st f17 cd17)
    (d18 : DefK K E18.x E18.st f18 cd18)
    (t0 : tabIn K f0 c0 p0 = true) (r0 : ((recsOf q).any fun e => e.name == ("is_within" : Str)) = true)
    (z0 : PySem.W.nsIn K mainGlobals "abs" = some none)
    (z1 : PySem.W.nsIn K mainGlobals "all" = some none)
    (z2 : PySem.W.nsIn K mainGlobals "bool" = some none)
    (z3 : PySem.W.nsIn K mainGlobals "enumerate" = some none)
    (z4 : PySem.W.nsIn K mainGlobals "int" = some none)
    (z5 : PySem.W.nsIn K mainGlobals "isinstance" = some none)
    (z6 : PySem.W.nsIn K mainGlobals "len" = some none)
    (z7 : PySem.W.nsIn K mainGlobals "list" = some none)
    (z8 : PySem.W.nsIn K mainGlobals "max" = some none)
    (z9 : PySem.W.nsIn K mainGlobals "range" = some none)
    (z10 : PySem.W.nsIn K mainGlobals "sorted" = some none)
    (z11 : PySem.W.nsIn K mainGlobals "str" = some none)
    (z12 : PySem.W.nsIn K mainGlobals "sum" = some none)
    (z13 : PySem.W.nsIn K mainGlobals "tuple" = some none)
    (nl : noList K = true) {L : Nat} (hrun : ∀ (ns : List Int) (d : PyData), IsScr d ns → ns.length ≤ 63 → run (its.map Itm.df) 0 (L + 1) 18 [d] = some (.val (.bool true))) : LamX.LawAtS l w K CX0 (lev 2 (L + 1)) 63 "script" mg fa h := by
  obtain rfl : fa = f18 := by have e := hfa.symm.trans (PySem.W.mg_of X G d18.a); cases e; rfl
  obtain ⟨fd0, hb0, at0⟩ := d0.at X G bd0
  obtain ⟨fd1, hb1, at1⟩ := d1.at X G bd1
  obtain ⟨fd2, hb2, at2⟩ := d2.at X G bd2
  obtain ⟨fd3, hb3, at3⟩ := d3.at X G bd3
  obtain ⟨fd4, hb4, at4⟩ := d4.at X G bd4
  obtain ⟨fd5, hb5, at5⟩ := d5.at X G bd5
  obtain ⟨fd6, hb6, at6⟩ := d6.at X G bd6
  obtain ⟨fd7, hb7, at7⟩ := d7.at X G bd7
  obtain ⟨fd8, hb8, at8⟩ := d8.at X G bd8
  obtain ⟨fd9, hb9, at9⟩ := d9.at X G bd9
  obtain ⟨fd10, hb10, at10⟩ := d10.at X G bd10
  obtain ⟨fd11, hb11, at11⟩ := d11.at X G bd11
  obtain ⟨fd12, hb12, at12⟩ := d12.at X G bd12
  obtain ⟨fd13, hb13, at13⟩ := d13.at X G bd13
  obtain ⟨fd14, hb14, at14⟩ := d14.at X G bd14
  obtain ⟨fd15, hb15, at15⟩ := d15.at X G bd15
  obtain ⟨fd16, hb16, at16⟩ := d16.at X G bd16
  obtain ⟨fd17, hb17, at17⟩ := d17.at X G bd17
  obtain ⟨fd18, hb18, at18⟩ := d18.at X G bd18
  have e0 := d0.code t0
  have y0 := tab_of own r0 (PySem.W.mg_of X G d0.a) t0
  have hat : ∀ base : Heap, (∀ p ∈ ([(c0, p0)] : List (Addr × Addr)), GxR.TabB base mg p.1 p.2) → EntAt K mg base (([(c0, p0)] : List (Addr × Addr)).map (·.2)) E0 f0 fd0 ∧ EntAt K mg base (([(c0, p0)] : List (Addr × Addr)).map (·.2)) E1 f1 fd1 ∧ EntAt K mg base (([(c0, p0)] : List (Addr × Addr)).map (·.2)) E2 f2 fd2 ∧ EntAt K mg base (([(c0, p0)] : List (Addr × Addr)).map (·.2)) E3 f3 fd3 ∧ EntAt K mg base (([(c0, p0)] : List (Addr × Addr)).map (·.2)) E4 f4 fd4 ∧ EntAt K mg base (([(c0, p0)] : List (Addr × Addr)).map (·.2)) E5 f5 fd5 ∧ EntAt K mg base (([(c0, p0)] : List (Addr × Addr)).map (·.2)) E6 f6 fd6 ∧ EntAt K mg base (([(c0, p0)] : List (Addr × Addr)).map (·.2)) E7 f7 fd7 ∧ EntAt K mg base (([(c0, p0)] : List (Addr × Addr)).map (·.2)) E8 f8 fd8 ∧ EntAt K mg base (([(c0, p0)] : List (Addr × Addr)).map (·.2)) E9 f9 fd9 ∧ EntAt K mg base (([(c0, p0)] : List (Addr × Addr)).map (·.2)) E10 f10 fd10 ∧ EntAt K mg base (([(c0, p0)] : List (Addr × Addr)).map (·.2)) E11 f11 fd11 ∧ EntAt K mg base (([(c0, p0)] : List (Addr × Addr)).map (·.2)) E12 f12 fd12 ∧ EntAt K mg base (([(c0, p0)] : List (Addr × Addr)).map (·.2)) E13 f13 fd13 ∧ EntAt K mg base (([(c0, p0)] : List (Addr × Addr)).map (·.2)) E14 f14 fd14 ∧ EntAt K mg base (([(c0, p0)] : List (Addr × Addr)).map (·.2)) E15 f15 fd15 ∧ EntAt K mg base (([(c0, p0)] : List (Addr × Addr)).map (·.2)) E16 f16 fd16 ∧ EntAt K mg base (([(c0, p0)] : List (Addr × Addr)).map (·.2)) E17 f17 fd17 ∧ EntAt K mg base (([(c0, p0)] : List (Addr × Addr)).map (·.2)) E18 fa fd18 := fun base TB => ⟨at0 base _ (fun _ => ⟨c0, p0, e0, TB (c0, p0) (by simp), by simp⟩), at1 base _ (fun z => by cases z), at2 base _ (fun z => by cases z), at3 base _ (fun z => by cases z), at4 base _ (fun z => by cases z), at5 base _ (fun z => by cases z), at6 base _ (fun z => by cases z), at7 base _ (fun z => by cases z), at8 base _ (fun z => by cases z), at9 base _ (fun z => by cases z), at10 base _ (fun z => by cases z), at11 base _ (fun z => by cases z), at12 base _ (fun z => by cases z), at13 base _ (fun z => by cases z), at14 base _ (fun z => by cases z), at15 base _ (fun z => by cases z), at16 base _ (fun z => by cases z), at17 base _ (fun z => by cases z), at18 base _ (fun z => by cases z)⟩
  refine lawAt (its := its) (fs := fsL) (bs := bsL) (g := 2) (wh := 0) (L := L) (cs := [(c0, p0)]) (e := E18) (i := 18) (fd := fd18) X nl rfl (fun b hb => ?_) (fun p hp => ?_) (fun base _ _ TB i e h => ?_) (fun base _ _ TB i x n f h => ?_) rfl rfl (fun base _ _ TB => ?_) (fun s u => hb18 s [u] rfl) (fun ns d hs hl _ => hrun ns d hs hl)
  · simp only [bsL, List.mem_cons, List.not_mem_nil, or_false] at hb
    rcases hb with rfl | rfl | rfl | rfl | rfl | rfl | rfl | rfl | rfl | rfl | rfl | rfl | rfl | rfl
    · exact PySem.W.mg_none_of X G z0
    · exact PySem.W.mg_none_of X G z1
    · exact PySem.W.mg_none_of X G z2
    · exact PySem.W.mg_none_of X G z3
    · exact PySem.W.mg_none_of X G z4
    · exact PySem.W.mg_none_of X G z5
    · exact PySem.W.mg_none_of X G z6
    · exact PySem.W.mg_none_of X G z7
    · exact PySem.W.mg_none_of X G z8
    · exact PySem.W.mg_none_of X G z9
    · exact PySem.W.mg_none_of X G z10
    · exact PySem.W.mg_none_of X G z11
    · exact PySem.W.mg_none_of X G z12
    · exact PySem.W.mg_none_of X G z13
  · simp only [List.mem_cons, List.not_mem_nil, or_false] at hp
    rcases hp with rfl
    · exact y0
  · match i, h with
    | 0, h => cases h; exact ⟨ok0, _, _, (hat base TB).1⟩
    | 1, h => cases h; exact ⟨ok1, _, _, (hat base TB).2.1⟩
    | 2, h => cases h; exact ⟨ok2, _, _, (hat base TB).2.2.1⟩
    | 3, h => cases h; exact ⟨ok3, _, _, (hat base TB).2.2.2.1⟩
    | 4, h => cases h; exact ⟨ok4, _, _, (hat base TB).2.2.2.2.1⟩
    | 5, h => cases h; exact ⟨ok5, _, _, (hat base TB).2.2.2.2.2.1⟩
    | 6, h => cases h; exact ⟨ok6, _, _, (hat base TB).2.2.2.2.2.2.1⟩
    | 7, h => cases h; exact ⟨ok7, _, _, (hat base TB).2.2.2.2.2.2.2.1⟩
    | 8, h => cases h; exact ⟨ok8, _, _, (hat base TB).2.2.2.2.2.2.2.2.1⟩
    | 9, h => cases h; exact ⟨ok9, _, _, (hat base TB).2.2.2.2.2.2.2.2.2.1⟩
    | 10, h => cases h; exact ⟨ok10, _, _, (hat base TB).2.2.2.2.2.2.2.2.2.2.1⟩
    | 11, h => cases h; exact ⟨ok11, _, _, (hat base TB).2.2.2.2.2.2.2.2.2.2.2.1⟩
    | 12, h => cases h; exact ⟨ok12, _, _, (hat base TB).2.2.2.2.2.2.2.2.2.2.2.2.1⟩
    | 13, h => cases h; exact ⟨ok13, _, _, (hat base TB).2.2.2.2.2.2.2.2.2.2.2.2.2.1⟩
    | 14, h => cases h; exact ⟨ok14, _, _, (hat base TB).2.2.2.2.2.2.2.2.2.2.2.2.2.2.1⟩
    | 15, h => cases h; exact ⟨ok15, _, _, (hat base TB).2.2.2.2.2.2.2.2.2.2.2.2.2.2.2.1⟩
    | 16, h => cases h; exact ⟨ok16, _, _, (hat base TB).2.2.2.2.2.2.2.2.2.2.2.2.2.2.2.2.1⟩
    | 17, h => cases h; exact ⟨ok17, _, _, (hat base TB).2.2.2.2.2.2.2.2.2.2.2.2.2.2.2.2.2.1⟩
    | 18, h => cases h; exact ⟨ok18, _, _, (hat base TB).2.2.2.2.2.2.2.2.2.2.2.2.2.2.2.2.2.2⟩
    | n + 19, h => simp [its] at h
  · match i, h with
    | 0, h => cases h
    | 1, h => cases h
    | 2, h => cases h
    | 3, h => cases h
    | 4, h => cases h
    | 5, h => cases h
    | 6, h => cases h
    | 7, h => cases h
    | 8, h => cases h
    | 9, h => cases h
    | 10, h => cases h
    | 11, h => cases h
    | 12, h => cases h
    | 13, h => cases h
    | 14, h => cases h
    | 15, h => cases h
    | 16, h => cases h
    | 17, h => cases h
    | 18, h => cases h
    | n + 19, h => simp [its] at h
  · exact (hat base TB).2.2.2.2.2.2.2.2.2.2.2.2.2.2.2.2.2.2
end K53
end
section
set_option Elab.async false
set_option linter.all false
set_option maxRecDepth 100000
set_option maxHeartbeats 1000000
namespace K53
open PySem PySem.Spec Pi
abbrev TT : List Df := its.map Itm.df
/-! ### the sets -/
def S : Nat → List (List Int)
  | 0 => [[]]
  | k + 1 => S k ++ (S k).map fun s => s ++ [(k : Int)]
theorem sets_at (l m : Nat) (hm : m ≤ 5) : Pi.run TT 0 (l + 4) 5 [.int m] = some (.new ((S m).map eI)) := by
  match m, hm with
  | 0, _ => kernel_rfl
  | 1, _ => kernel_rfl
  | 2, _ => kernel_rfl
  | 3, _ => kernel_rfl
  | 4, _ => kernel_rfl
  | 5, _ => kernel_rfl
  | n + 6, h => omega
theorem numbers_at (l m : Nat) (hm : m ≤ 5) : Pi.run TT 0 (l + 1) 16 [.int m] = some (.new ((S m).map eI)) := by
  match m, hm with
  | 0, _ => kernel_rfl
  | 1, _ => kernel_rfl
  | 2, _ => kernel_rfl
  | 3, _ => kernel_rfl
  | 4, _ => kernel_rfl
  | 5, _ => kernel_rfl
  | n + 6, h => omega
theorem S_len : ∀ m, (S m).length = 2 ^ m
  | 0 => rfl
  | m + 1 => by
    show (S m ++ (S m).map _).length = _
    rw [List.length_append, List.length_map, S_len m, Nat.pow_succ]
    omega
theorem S_small : ∀ m, ∀ s ∈ S m, s.length ≤ m
  | 0, s, h => by
    have : s = [] := by simpa [S] using h
    rw [this]; exact Nat.le_refl _
  | m + 1, s, h => by
    rcases List.mem_append.mp (show s ∈ S m ++ (S m).map _ from h) with h | h
    · exact Nat.le_succ_of_le (S_small m s h)
    · obtain ⟨t, ht, rfl⟩ := List.mem_map.mp h
      have := S_small m t ht
      simp only [List.length_append, List.length_singleton]
      omega
/-! ### bearers -/
/-- the places of the rows that have all of s -/
def brs (s : List Int) (rows : List (List Int)) : List Int := (rows.zipIdx.filter fun p => sub s p.1).map fun p => (p.2 : Int)
def cnt (s : List Int) (rows : List (List Int)) : Nat := (rows.filter (sub s)).length
theorem brs_len (s : List Int) (rows : List (List Int)) : (brs s rows).length = cnt s rows := by
  unfold brs cnt
  rw [List.length_map]
  have : ∀ (rows : List (List Int)) (k : Nat), ((rows.zipIdx k).filter fun p => sub s p.1).length = (rows.filter (sub s)).length := by
    intro rows
    induction rows with
    | nil => intro k; rfl
    | cons r rows ih =>
      intro k
      rw [List.zipIdx_cons, List.filter_cons, List.filter_cons]
      by_cases h : sub s r = true
      · rw [if_pos h, if_pos h, List.length_cons, List.length_cons, ih]
      · rw [if_neg h, if_neg h, ih]
  exact this rows 0
def tbl (m : Nat) (rows : List (List Int)) : PyData := .tuple [.int m, .tuple (rows.map eI)]
theorem enum_rows (rows : List (List Int)) : enumI (rows.map eI) = rows.zipIdx.map fun p => .tuple [.int p.2, eI p.1] := by
  unfold enumI
  rw [List.zipIdx_map, List.map_map]
  rfl
theorem bearers_at (l m : Nat) (rows : List (List Int)) (s : List Int) (hr : rows.length ≤ 100000) : Pi.run TT 0 (l + 2) 2 [tbl m rows, eI s] = some (.val (eI (brs s rows))) := by
  have hz := sizeLine_big
  have hix : ixD (tbl m rows) 1 = some (.tuple (rows.map eI)) := rfl
  refine run_rt rfl rfl (s_ret (e_bi (l_cons (b_new (e_comp (xs := rows.zipIdx.map fun p => .tuple [.int p.2, eI p.1]) (by rw [← enum_rows]; exact i_enumV (e_ix (b_fr rfl) b_const hix) rfl) (collect_filter (p := fun p : List Int × Nat => sub s p.1) (g := fun p => .int p.2) (fun p _ => ?_) (by rw [List.length_zipIdx]; omega)))) l_nil) ?_))
  · exact c_elemIf (Γ := ⟨Pi.run TT 0 (l + 1), 0⟩) rfl (t_of (b_callR (a_consV (e_var rfl) (a_consV (e_var rfl) a_nil)) (in_ok rfl s p.1)) tru_bool) fun _ => e_var rfl
  · rw [bi_tupL]
    simp [eI, brs]
theorem counts_at (l m : Nat) (hm : m ≤ 5) (rows : List (List Int)) (hr : rows.length ≤ 100000) : Pi.run TT 0 (l + 5) 6 [tbl m rows] = some (.val (eI ((S m).map fun s => (cnt s rows : Int)))) := by
  have hz := sizeLine_big
  have hix : ixD (tbl m rows) 0 = some (.int m) := rfl
  have hS := S_len m
  have h32 : 2 ^ m ≤ 2 ^ 5 := Nat.pow_le_pow_right (by omega) hm
  have hcol : collect (elemC ⟨Pi.run TT 0 (l + 4), 0⟩ [.fr (tbl m rows), .un] [1] (.name 1) [] (.bi .len [.call 2 [.var 0, .var 1]])) ((S m).map eI) = some ((S m).map fun s => .int (cnt s rows : Int)) := by
    refine collect_map (fun s _ => ?_) (by omega)
    refine c_elem (Γ := ⟨Pi.run TT 0 (l + 4), 0⟩) (r := .val (.int (cnt s rows : Int))) rfl (e_bi (l_cons (b_callR (a_consV (e_var rfl) (a_consV (e_var rfl) a_nil)) (bearers_at (l + 2) m rows s hr)) l_nil) ?_)
    show biD .len [.tuple _] = _
    rw [bi_lenT, List.length_map, brs_len]
  have hit : EvI ⟨Pi.run TT 0 (l + 4), 0⟩ false [.fr (tbl m rows), .un] (.seq (.call 5 [.ix (.var 0) (.const (.int 0))])) ((S m).map eI) := i_list (e_callR (a_consV (e_ix (b_fr rfl) b_const hix) a_nil) (sets_at l m hm))
  refine run_rt rfl rfl (s_ret (e_bi (l_cons (b_new (e_comp hit hcol)) l_nil) ?_))
  · rw [bi_tupL]
    simp [eI, List.map_map]
/-! ### exact counts -/
def vec (g : Nat → Int) (n : Nat) : List Int := (List.range n).map g
def lawStep (left : List Int) (size : Nat) : List Int := (List.range left.length).map fun i => left.getD i 0 - (if i / size % 2 = 0 then left.getD (i + size) 0 else 0)
def lawGo : Nat → Nat → List Int → List Int
  | 0, _, left => left
  | k + 1, size, left => lawGo k (size + size) (lawStep left size)
def lawX (m : Nat) (c : List Int) : List Int := lawGo m 1 c
def exRow (m : Nat) (s : List Int) (c : List Int) : Int := (S m).zipIdx.foldl (fun acc p => if sub s p.1 then acc + (if (p.1.length - s.length) % 2 = 0 then c.getD p.2 0 else -(c.getD p.2 0)) else acc) 0
def exF (m : Nat) (c : List Int) : List Int := (S m).map fun s => exRow m s c
theorem lawX_at (l m : Nat) (hm : m ≤ 5) (g : Nat → Int) : Pi.run TT 0 (l + 1) 17 [.int m, eI (vec g (2 ^ m))] = some (.val (eI (lawX m (vec g (2 ^ m))))) := by
  match m, hm with
  | 0, _ => kernel_rfl
  | 1, _ => kernel_rfl
  | 2, _ => kernel_rfl
  | 3, _ => kernel_rfl
  | 4, _ => kernel_rfl
  | 5, _ => kernel_rfl
  | n + 6, h => omega
theorem exF_at (l m : Nat) (hm : m ≤ 5) (g : Nat → Int) : Pi.run TT 0 (l + 5) 7 [.int m, eI (vec g (2 ^ m))] = some (.val (eI (exF m (vec g (2 ^ m))))) := by
  match m, hm with
  | 0, _ => kernel_rfl
  | 1, _ => kernel_rfl
  | 2, _ => kernel_rfl
  | 3, _ => kernel_rfl
  | 4, _ => kernel_rfl
  | 5, _ => kernel_rfl
  | n + 6, h => omega
end K53
end
section
set_option Elab.async false
set_option linter.all false
set_option maxRecDepth 100000
set_option maxHeartbeats 2000000
namespace K53
open PySem PySem.Spec Pi
theorem lx0 (g : Nat → Int) : lawX 0 (vec g 1) = [g 0] := by kernel_rfl
theorem ex0 (g : Nat → Int) : exF 0 (vec g 1) = [(0 + g 0)] := by kernel_rfl
theorem q0_0 (g : Nat → Int) : ((0 + g 0) : Int) = g 0 := by omega
theorem same0 (g : Nat → Int) : exF 0 (vec g 1) = lawX 0 (vec g 1) := by
  rw [ex0, lx0, q0_0]
theorem z0_0 (g : Nat → Int) : (g 0 : Int) = g 0 := by omega
theorem lx1 (g : Nat → Int) : lawX 1 (vec g 2) = [(g 0 - g 1), (g 1 - 0)] := by kernel_rfl
theorem ex1 (g : Nat → Int) : exF 1 (vec g 2) = [((0 + g 0) + -g 1), (0 + g 1)] := by kernel_rfl
theorem q1_0 (g : Nat → Int) : (((0 + g 0) + -g 1) : Int) = (g 0 - g 1) := by omega
theorem q1_1 (g : Nat → Int) : ((0 + g 1) : Int) = (g 1 - 0) := by omega
theorem same1 (g : Nat → Int) : exF 1 (vec g 2) = lawX 1 (vec g 2) := by
  rw [ex1, lx1, q1_0, q1_1]
theorem z1_0 (g : Nat → Int) : ((g 0 - g 1) + (g 1 - 0) : Int) = g 0 := by omega
theorem z1_1 (g : Nat → Int) : ((g 1 - 0) : Int) = g 1 := by omega
theorem lx2 (g : Nat → Int) : lawX 2 (vec g 4) = [((g 0 - g 1) - (g 2 - g 3)), ((g 1 - 0) - (g 3 - 0)), ((g 2 - g 3) - 0), ((g 3 - 0) - 0)] := by kernel_rfl
theorem ex2 (g : Nat → Int) : exF 2 (vec g 4) = [((((0 + g 0) + -g 1) + -g 2) + g 3), ((0 + g 1) + -g 3), ((0 + g 2) + -g 3), (0 + g 3)] := by kernel_rfl
theorem q2_0 (g : Nat → Int) : (((((0 + g 0) + -g 1) + -g 2) + g 3) : Int) = ((g 0 - g 1) - (g 2 - g 3)) := by omega
theorem q2_1 (g : Nat → Int) : (((0 + g 1) + -g 3) : Int) = ((g 1 - 0) - (g 3 - 0)) := by omega
theorem q2_2 (g : Nat → Int) : (((0 + g 2) + -g 3) : Int) = ((g 2 - g 3) - 0) := by omega
theorem q2_3 (g : Nat → Int) : ((0 + g 3) : Int) = ((g 3 - 0) - 0) := by omega
theorem same2 (g : Nat → Int) : exF 2 (vec g 4) = lawX 2 (vec g 4) := by
  rw [ex2, lx2, q2_0, q2_1, q2_2, q2_3]
theorem z2_0 (g : Nat → Int) : (((g 0 - g 1) - (g 2 - g 3)) + ((g 1 - 0) - (g 3 - 0)) + ((g 2 - g 3) - 0) + ((g 3 - 0) - 0) : Int) = g 0 := by omega
theorem z2_1 (g : Nat → Int) : (((g 1 - 0) - (g 3 - 0)) + ((g 3 - 0) - 0) : Int) = g 1 := by omega
theorem z2_2 (g : Nat → Int) : (((g 2 - g 3) - 0) + ((g 3 - 0) - 0) : Int) = g 2 := by omega
theorem z2_3 (g : Nat → Int) : (((g 3 - 0) - 0) : Int) = g 3 := by omega
theorem lx3 (g : Nat → Int) : lawX 3 (vec g 8) = [(((g 0 - g 1) - (g 2 - g 3)) - ((g 4 - g 5) - (g 6 - g 7))), (((g 1 - 0) - (g 3 - 0)) - ((g 5 - 0) - (g 7 - 0))), (((g 2 - g 3) - 0) - ((g 6 - g 7) - 0)), (((g 3 - 0) - 0) - ((g 7 - 0) - 0)), (((g 4 - g 5) - (g 6 - g 7)) - 0), (((g 5 - 0) - (g 7 - 0)) - 0), (((g 6 - g 7) - 0) - 0), (((g 7 - 0) - 0) - 0)] := by kernel_rfl
theorem ex3 (g : Nat → Int) : exF 3 (vec g 8) = [((((((((0 + g 0) + -g 1) + -g 2) + g 3) + -g 4) + g 5) + g 6) + -g 7), ((((0 + g 1) + -g 3) + -g 5) + g 7), ((((0 + g 2) + -g 3) + -g 6) + g 7), ((0 + g 3) + -g 7), ((((0 + g 4) + -g 5) + -g 6) + g 7), ((0 + g 5) + -g 7), ((0 + g 6) + -g 7), (0 + g 7)] := by kernel_rfl
theorem q3_0 (g : Nat → Int) : (((((((((0 + g 0) + -g 1) + -g 2) + g 3) + -g 4) + g 5) + g 6) + -g 7) : Int) = (((g 0 - g 1) - (g 2 - g 3)) - ((g 4 - g 5) - (g 6 - g 7))) := by omega
theorem q3_1 (g : Nat → Int) : (((((0 + g 1) + -g 3) + -g 5) + g 7) : Int) = (((g 1 - 0) - (g 3 - 0)) - ((g 5 - 0) - (g 7 - 0))) := by omega
theorem q3_2 (g : Nat → Int) : (((((0 + g 2) + -g 3) + -g 6) + g 7) : Int) = (((g 2 - g 3) - 0) - ((g 6 - g 7) - 0)) := by omega
theorem q3_3 (g : Nat → Int) : (((0 + g 3) + -g 7) : Int) = (((g 3 - 0) - 0) - ((g 7 - 0) - 0)) := by omega
theorem q3_4 (g : Nat → Int) : (((((0 + g 4) + -g 5) + -g 6) + g 7) : Int) = (((g 4 - g 5) - (g 6 - g 7)) - 0) := by omega
theorem q3_5 (g : Nat → Int) : (((0 + g 5) + -g 7) : Int) = (((g 5 - 0) - (g 7 - 0)) - 0) := by omega
theorem q3_6 (g : Nat → Int) : (((0 + g 6) + -g 7) : Int) = (((g 6 - g 7) - 0) - 0) := by omega
theorem q3_7 (g : Nat → Int) : ((0 + g 7) : Int) = (((g 7 - 0) - 0) - 0) := by omega
theorem same3 (g : Nat → Int) : exF 3 (vec g 8) = lawX 3 (vec g 8) := by
  rw [ex3, lx3, q3_0, q3_1, q3_2, q3_3, q3_4, q3_5, q3_6, q3_7]
theorem z3_0 (g : Nat → Int) : ((((g 0 - g 1) - (g 2 - g 3)) - ((g 4 - g 5) - (g 6 - g 7))) + (((g 1 - 0) - (g 3 - 0)) - ((g 5 - 0) - (g 7 - 0))) + (((g 2 - g 3) - 0) - ((g 6 - g 7) - 0)) + (((g 3 - 0) - 0) - ((g 7 - 0) - 0)) + (((g 4 - g 5) - (g 6 - g 7)) - 0) + (((g 5 - 0) - (g 7 - 0)) - 0) + (((g 6 - g 7) - 0) - 0) + (((g 7 - 0) - 0) - 0) : Int) = g 0 := by omega
theorem z3_1 (g : Nat → Int) : ((((g 1 - 0) - (g 3 - 0)) - ((g 5 - 0) - (g 7 - 0))) + (((g 3 - 0) - 0) - ((g 7 - 0) - 0)) + (((g 5 - 0) - (g 7 - 0)) - 0) + (((g 7 - 0) - 0) - 0) : Int) = g 1 := by omega
theorem z3_2 (g : Nat → Int) : ((((g 2 - g 3) - 0) - ((g 6 - g 7) - 0)) + (((g 3 - 0) - 0) - ((g 7 - 0) - 0)) + (((g 6 - g 7) - 0) - 0) + (((g 7 - 0) - 0) - 0) : Int) = g 2 := by omega
theorem z3_3 (g : Nat → Int) : ((((g 3 - 0) - 0) - ((g 7 - 0) - 0)) + (((g 7 - 0) - 0) - 0) : Int) = g 3 := by omega
theorem z3_4 (g : Nat → Int) : ((((g 4 - g 5) - (g 6 - g 7)) - 0) + (((g 5 - 0) - (g 7 - 0)) - 0) + (((g 6 - g 7) - 0) - 0) + (((g 7 - 0) - 0) - 0) : Int) = g 4 := by omega
theorem z3_5 (g : Nat → Int) : ((((g 5 - 0) - (g 7 - 0)) - 0) + (((g 7 - 0) - 0) - 0) : Int) = g 5 := by omega
theorem z3_6 (g : Nat → Int) : ((((g 6 - g 7) - 0) - 0) + (((g 7 - 0) - 0) - 0) : Int) = g 6 := by omega
theorem z3_7 (g : Nat → Int) : ((((g 7 - 0) - 0) - 0) : Int) = g 7 := by omega
theorem lx4 (g : Nat → Int) : lawX 4 (vec g 16) = [((((g 0 - g 1) - (g 2 - g 3)) - ((g 4 - g 5) - (g 6 - g 7))) - (((g 8 - g 9) - (g 10 - g 11)) - ((g 12 - g 13) - (g 14 - g 15)))), ((((g 1 - 0) - (g 3 - 0)) - ((g 5 - 0) - (g 7 - 0))) - (((g 9 - 0) - (g 11 - 0)) - ((g 13 - 0) - (g 15 - 0)))), ((((g 2 - g 3) - 0) - ((g 6 - g 7) - 0)) - (((g 10 - g 11) - 0) - ((g 14 - g 15) - 0))), ((((g 3 - 0) - 0) - ((g 7 - 0) - 0)) - (((g 11 - 0) - 0) - ((g 15 - 0) - 0))), ((((g 4 - g 5) - (g 6 - g 7)) - 0) - (((g 12 - g 13) - (g 14 - g 15)) - 0)), ((((g 5 - 0) - (g 7 - 0)) - 0) - (((g 13 - 0) - (g 15 - 0)) - 0)), ((((g 6 - g 7) - 0) - 0) - (((g 14 - g 15) - 0) - 0)), ((((g 7 - 0) - 0) - 0) - (((g 15 - 0) - 0) - 0)), ((((g 8 - g 9) - (g 10 - g 11)) - ((g 12 - g 13) - (g 14 - g 15))) - 0), ((((g 9 - 0) - (g 11 - 0)) - ((g 13 - 0) - (g 15 - 0))) - 0), ((((g 10 - g 11) - 0) - ((g 14 - g 15) - 0)) - 0), ((((g 11 - 0) - 0) - ((g 15 - 0) - 0)) - 0), ((((g 12 - g 13) - (g 14 - g 15)) - 0) - 0), ((((g 13 - 0) - (g 15 - 0)) - 0) - 0), ((((g 14 - g 15) - 0) - 0) - 0), ((((g 15 - 0) - 0) - 0) - 0)] := by kernel_rfl
theorem ex4 (g : Nat → Int) : exF 4 (vec g 16) = [((((((((((((((((0 + g 0) + -g 1) + -g 2) + g 3) + -g 4) + g 5) + g 6) + -g 7) + -g 8) + g 9) + g 10) + -g 11) + g 12) + -g 13) + -g 14) + g 15), ((((((((0 + g 1) + -g 3) + -g 5) + g 7) + -g 9) + g 11) + g 13) + -g 15), ((((((((0 + g 2) + -g 3) + -g 6) + g 7) + -g 10) + g 11) + g 14) + -g 15), ((((0 + g 3) + -g 7) + -g 11) + g 15), ((((((((0 + g 4) + -g 5) + -g 6) + g 7) + -g 12) + g 13) + g 14) + -g 15), ((((0 + g 5) + -g 7) + -g 13) + g 15), ((((0 + g 6) + -g 7) + -g 14) + g 15), ((0 + g 7) + -g 15), ((((((((0 + g 8) + -g 9) + -g 10) + g 11) + -g 12) + g 13) + g 14) + -g 15), ((((0 + g 9) + -g 11) + -g 13) + g 15), ((((0 + g 10) + -g 11) + -g 14) + g 15), ((0 + g 11) + -g 15), ((((0 + g 12) + -g 13) + -g 14) + g 15), ((0 + g 13) + -g 15), ((0 + g 14) + -g 15), (0 + g 15)] := by kernel_rfl
theorem q4_0 (g : Nat → Int) : (((((((((((((((((0 + g 0) + -g 1) + -g 2) + g 3) + -g 4) + g 5) + g 6) + -g 7) + -g 8) + g 9) + g 10) + -g 11) + g 12) + -g 13) + -g 14) + g 15) : Int) = ((((g 0 - g 1) - (g 2 - g 3)) - ((g 4 - g 5) - (g 6 - g 7))) - (((g 8 - g 9) - (g 10 - g 11)) - ((g 12 - g 13) - (g 14 - g 15)))) := by omega
theorem q4_1 (g : Nat → Int) : (((((((((0 + g 1) + -g 3) + -g 5) + g 7) + -g 9) + g 11) + g 13) + -g 15) : Int) = ((((g 1 - 0) - (g 3 - 0)) - ((g 5 - 0) - (g 7 - 0))) - (((g 9 - 0) - (g 11 - 0)) - ((g 13 - 0) - (g 15 - 0)))) := by omega
theorem q4_2 (g : Nat → Int) : (((((((((0 + g 2) + -g 3) + -g 6) + g 7) + -g 10) + g 11) + g 14) + -g 15) : Int) = ((((g 2 - g 3) - 0) - ((g 6 - g 7) - 0)) - (((g 10 - g 11) - 0) - ((g 14 - g 15) - 0))) := by omega
theorem q4_3 (g : Nat → Int) : (((((0 + g 3) + -g 7) + -g 11) + g 15) : Int) = ((((g 3 - 0) - 0) - ((g 7 - 0) - 0)) - (((g 11 - 0) - 0) - ((g 15 - 0) - 0))) := by omega
theorem q4_4 (g : Nat → Int) : (((((((((0 + g 4) + -g 5) + -g 6) + g 7) + -g 12) + g 13) + g 14) + -g 15) : Int) = ((((g 4 - g 5) - (g 6 - g 7)) - 0) - (((g 12 - g 13) - (g 14 - g 15)) - 0)) := by omega
theorem q4_5 (g : Nat → Int) : (((((0 + g 5) + -g 7) + -g 13) + g 15) : Int) = ((((g 5 - 0) - (g 7 - 0)) - 0) - (((g 13 - 0) - (g 15 - 0)) - 0)) := by omega
theorem q4_6 (g : Nat → Int) : (((((0 + g 6) + -g 7) + -g 14) + g 15) : Int) = ((((g 6 - g 7) - 0) - 0) - (((g 14 - g 15) - 0) - 0)) := by omega
theorem q4_7 (g : Nat → Int) : (((0 + g 7) + -g 15) : Int) = ((((g 7 - 0) - 0) - 0) - (((g 15 - 0) - 0) - 0)) := by omega
theorem q4_8 (g : Nat → Int) : (((((((((0 + g 8) + -g 9) + -g 10) + g 11) + -g 12) + g 13) + g 14) + -g 15) : Int) = ((((g 8 - g 9) - (g 10 - g 11)) - ((g 12 - g 13) - (g 14 - g 15))) - 0) := by omega
theorem q4_9 (g : Nat → Int) : (((((0 + g 9) + -g 11) + -g 13) + g 15) : Int) = ((((g 9 - 0) - (g 11 - 0)) - ((g 13 - 0) - (g 15 - 0))) - 0) := by omega
theorem q4_10 (g : Nat → Int) : (((((0 + g 10) + -g 11) + -g 14) + g 15) : Int) = ((((g 10 - g 11) - 0) - ((g 14 - g 15) - 0)) - 0) := by omega
theorem q4_11 (g : Nat → Int) : (((0 + g 11) + -g 15) : Int) = ((((g 11 - 0) - 0) - ((g 15 - 0) - 0)) - 0) := by omega
theorem q4_12 (g : Nat → Int) : (((((0 + g 12) + -g 13) + -g 14) + g 15) : Int) = ((((g 12 - g 13) - (g 14 - g 15)) - 0) - 0) := by omega
theorem q4_13 (g : Nat → Int) : (((0 + g 13) + -g 15) : Int) = ((((g 13 - 0) - (g 15 - 0)) - 0) - 0) := by omega
theorem q4_14 (g : Nat → Int) : (((0 + g 14) + -g 15) : Int) = ((((g 14 - g 15) - 0) - 0) - 0) := by omega
theorem q4_15 (g : Nat → Int) : ((0 + g 15) : Int) = ((((g 15 - 0) - 0) - 0) - 0) := by omega
theorem same4 (g : Nat → Int) : exF 4 (vec g 16) = lawX 4 (vec g 16) := by
  rw [ex4, lx4, q4_0, q4_1, q4_2, q4_3, q4_4, q4_5, q4_6, q4_7, q4_8, q4_9, q4_10, q4_11, q4_12, q4_13, q4_14, q4_15]
theorem z4_0 (g : Nat → Int) : (((((g 0 - g 1) - (g 2 - g 3)) - ((g 4 - g 5) - (g 6 - g 7))) - (((g 8 - g 9) - (g 10 - g 11)) - ((g 12 - g 13) - (g 14 - g 15)))) + ((((g 1 - 0) - (g 3 - 0)) - ((g 5 - 0) - (g 7 - 0))) - (((g 9 - 0) - (g 11 - 0)) - ((g 13 - 0) - (g 15 - 0)))) + ((((g 2 - g 3) - 0) - ((g 6 - g 7) - 0)) - (((g 10 - g 11) - 0) - ((g 14 - g 15) - 0))) + ((((g 3 - 0) - 0) - ((g 7 - 0) - 0)) - (((g 11 - 0) - 0) - ((g 15 - 0) - 0))) + ((((g 4 - g 5) - (g 6 - g 7)) - 0) - (((g 12 - g 13) - (g 14 - g 15)) - 0)) + ((((g 5 - 0) - (g 7 - 0)) - 0) - (((g 13 - 0) - (g 15 - 0)) - 0)) + ((((g 6 - g 7) - 0) - 0) - (((g 14 - g 15) - 0) - 0)) + ((((g 7 - 0) - 0) - 0) - (((g 15 - 0) - 0) - 0)) + ((((g 8 - g 9) - (g 10 - g 11)) - ((g 12 - g 13) - (g 14 - g 15))) - 0) + ((((g 9 - 0) - (g 11 - 0)) - ((g 13 - 0) - (g 15 - 0))) - 0) + ((((g 10 - g 11) - 0) - ((g 14 - g 15) - 0)) - 0) + ((((g 11 - 0) - 0) - ((g 15 - 0) - 0)) - 0) + ((((g 12 - g 13) - (g 14 - g 15)) - 0) - 0) + ((((g 13 - 0) - (g 15 - 0)) - 0) - 0) + ((((g 14 - g 15) - 0) - 0) - 0) + ((((g 15 - 0) - 0) - 0) - 0) : Int) = g 0 := by omega
theorem z4_1 (g : Nat → Int) : (((((g 1 - 0) - (g 3 - 0)) - ((g 5 - 0) - (g 7 - 0))) - (((g 9 - 0) - (g 11 - 0)) - ((g 13 - 0) - (g 15 - 0)))) + ((((g 3 - 0) - 0) - ((g 7 - 0) - 0)) - (((g 11 - 0) - 0) - ((g 15 - 0) - 0))) + ((((g 5 - 0) - (g 7 - 0)) - 0) - (((g 13 - 0) - (g 15 - 0)) - 0)) + ((((g 7 - 0) - 0) - 0) - (((g 15 - 0) - 0) - 0)) + ((((g 9 - 0) - (g 11 - 0)) - ((g 13 - 0) - (g 15 - 0))) - 0) + ((((g 11 - 0) - 0) - ((g 15 - 0) - 0)) - 0) + ((((g 13 - 0) - (g 15 - 0)) - 0) - 0) + ((((g 15 - 0) - 0) - 0) - 0) : Int) = g 1 := by omega
theorem z4_2 (g : Nat → Int) : (((((g 2 - g 3) - 0) - ((g 6 - g 7) - 0)) - (((g 10 - g 11) - 0) - ((g 14 - g 15) - 0))) + ((((g 3 - 0) - 0) - ((g 7 - 0) - 0)) - (((g 11 - 0) - 0) - ((g 15 - 0) - 0))) + ((((g 6 - g 7) - 0) - 0) - (((g 14 - g 15) - 0) - 0)) + ((((g 7 - 0) - 0) - 0) - (((g 15 - 0) - 0) - 0)) + ((((g 10 - g 11) - 0) - ((g 14 - g 15) - 0)) - 0) + ((((g 11 - 0) - 0) - ((g 15 - 0) - 0)) - 0) + ((((g 14 - g 15) - 0) - 0) - 0) + ((((g 15 - 0) - 0) - 0) - 0) : Int) = g 2 := by omega
theorem z4_3 (g : Nat → Int) : (((((g 3 - 0) - 0) - ((g 7 - 0) - 0)) - (((g 11 - 0) - 0) - ((g 15 - 0) - 0))) + ((((g 7 - 0) - 0) - 0) - (((g 15 - 0) - 0) - 0)) + ((((g 11 - 0) - 0) - ((g 15 - 0) - 0)) - 0) + ((((g 15 - 0) - 0) - 0) - 0) : Int) = g 3 := by omega
theorem z4_4 (g : Nat → Int) : (((((g 4 - g 5) - (g 6 - g 7)) - 0) - (((g 12 - g 13) - (g 14 - g 15)) - 0)) + ((((g 5 - 0) - (g 7 - 0)) - 0) - (((g 13 - 0) - (g 15 - 0)) - 0)) + ((((g 6 - g 7) - 0) - 0) - (((g 14 - g 15) - 0) - 0)) + ((((g 7 - 0) - 0) - 0) - (((g 15 - 0) - 0) - 0)) + ((((g 12 - g 13) - (g 14 - g 15)) - 0) - 0) + ((((g 13 - 0) - (g 15 - 0)) - 0) - 0) + ((((g 14 - g 15) - 0) - 0) - 0) + ((((g 15 - 0) - 0) - 0) - 0) : Int) = g 4 := by omega
theorem z4_5 (g : Nat → Int) : (((((g 5 - 0) - (g 7 - 0)) - 0) - (((g 13 - 0) - (g 15 - 0)) - 0)) + ((((g 7 - 0) - 0) - 0) - (((g 15 - 0) - 0) - 0)) + ((((g 13 - 0) - (g 15 - 0)) - 0) - 0) + ((((g 15 - 0) - 0) - 0) - 0) : Int) = g 5 := by omega
theorem z4_6 (g : Nat → Int) : (((((g 6 - g 7) - 0) - 0) - (((g 14 - g 15) - 0) - 0)) + ((((g 7 - 0) - 0) - 0) - (((g 15 - 0) - 0) - 0)) + ((((g 14 - g 15) - 0) - 0) - 0) + ((((g 15 - 0) - 0) - 0) - 0) : Int) = g 6 := by omega
theorem z4_7 (g : Nat → Int) : (((((g 7 - 0) - 0) - 0) - (((g 15 - 0) - 0) - 0)) + ((((g 15 - 0) - 0) - 0) - 0) : Int) = g 7 := by omega
theorem z4_8 (g : Nat → Int) : (((((g 8 - g 9) - (g 10 - g 11)) - ((g 12 - g 13) - (g 14 - g 15))) - 0) + ((((g 9 - 0) - (g 11 - 0)) - ((g 13 - 0) - (g 15 - 0))) - 0) + ((((g 10 - g 11) - 0) - ((g 14 - g 15) - 0)) - 0) + ((((g 11 - 0) - 0) - ((g 15 - 0) - 0)) - 0) + ((((g 12 - g 13) - (g 14 - g 15)) - 0) - 0) + ((((g 13 - 0) - (g 15 - 0)) - 0) - 0) + ((((g 14 - g 15) - 0) - 0) - 0) + ((((g 15 - 0) - 0) - 0) - 0) : Int) = g 8 := by omega
theorem z4_9 (g : Nat → Int) : (((((g 9 - 0) - (g 11 - 0)) - ((g 13 - 0) - (g 15 - 0))) - 0) + ((((g 11 - 0) - 0) - ((g 15 - 0) - 0)) - 0) + ((((g 13 - 0) - (g 15 - 0)) - 0) - 0) + ((((g 15 - 0) - 0) - 0) - 0) : Int) = g 9 := by omega
theorem z4_10 (g : Nat → Int) : (((((g 10 - g 11) - 0) - ((g 14 - g 15) - 0)) - 0) + ((((g 11 - 0) - 0) - ((g 15 - 0) - 0)) - 0) + ((((g 14 - g 15) - 0) - 0) - 0) + ((((g 15 - 0) - 0) - 0) - 0) : Int) = g 10 := by omega
theorem z4_11 (g : Nat → Int) : (((((g 11 - 0) - 0) - ((g 15 - 0) - 0)) - 0) + ((((g 15 - 0) - 0) - 0) - 0) : Int) = g 11 := by omega
theorem z4_12 (g : Nat → Int) : (((((g 12 - g 13) - (g 14 - g 15)) - 0) - 0) + ((((g 13 - 0) - (g 15 - 0)) - 0) - 0) + ((((g 14 - g 15) - 0) - 0) - 0) + ((((g 15 - 0) - 0) - 0) - 0) : Int) = g 12 := by omega
theorem z4_13 (g : Nat → Int) : (((((g 13 - 0) - (g 15 - 0)) - 0) - 0) + ((((g 15 - 0) - 0) - 0) - 0) : Int) = g 13 := by omega
theorem z4_14 (g : Nat → Int) : (((((g 14 - g 15) - 0) - 0) - 0) + ((((g 15 - 0) - 0) - 0) - 0) : Int) = g 14 := by omega
theorem z4_15 (g : Nat → Int) : (((((g 15 - 0) - 0) - 0) - 0) : Int) = g 15 := by omega
theorem lx5 (g : Nat → Int) : lawX 5 (vec g 32) = [(((((g 0 - g 1) - (g 2 - g 3)) - ((g 4 - g 5) - (g 6 - g 7))) - (((g 8 - g 9) - (g 10 - g 11)) - ((g 12 - g 13) - (g 14 - g 15)))) - ((((g 16 - g 17) - (g 18 - g 19)) - ((g 20 - g 21) - (g 22 - g 23))) - (((g 24 - g 25) - (g 26 - g 27)) - ((g 28 - g 29) - (g 30 - g 31))))), (((((g 1 - 0) - (g 3 - 0)) - ((g 5 - 0) - (g 7 - 0))) - (((g 9 - 0) - (g 11 - 0)) - ((g 13 - 0) - (g 15 - 0)))) - ((((g 17 - 0) - (g 19 - 0)) - ((g 21 - 0) - (g 23 - 0))) - (((g 25 - 0) - (g 27 - 0)) - ((g 29 - 0) - (g 31 - 0))))), (((((g 2 - g 3) - 0) - ((g 6 - g 7) - 0)) - (((g 10 - g 11) - 0) - ((g 14 - g 15) - 0))) - ((((g 18 - g 19) - 0) - ((g 22 - g 23) - 0)) - (((g 26 - g 27) - 0) - ((g 30 - g 31) - 0)))), (((((g 3 - 0) - 0) - ((g 7 - 0) - 0)) - (((g 11 - 0) - 0) - ((g 15 - 0) - 0))) - ((((g 19 - 0) - 0) - ((g 23 - 0) - 0)) - (((g 27 - 0) - 0) - ((g 31 - 0) - 0)))), (((((g 4 - g 5) - (g 6 - g 7)) - 0) - (((g 12 - g 13) - (g 14 - g 15)) - 0)) - ((((g 20 - g 21) - (g 22 - g 23)) - 0) - (((g 28 - g 29) - (g 30 - g 31)) - 0))), (((((g 5 - 0) - (g 7 - 0)) - 0) - (((g 13 - 0) - (g 15 - 0)) - 0)) - ((((g 21 - 0) - (g 23 - 0)) - 0) - (((g 29 - 0) - (g 31 - 0)) - 0))), (((((g 6 - g 7) - 0) - 0) - (((g 14 - g 15) - 0) - 0)) - ((((g 22 - g 23) - 0) - 0) - (((g 30 - g 31) - 0) - 0))), (((((g 7 - 0) - 0) - 0) - (((g 15 - 0) - 0) - 0)) - ((((g 23 - 0) - 0) - 0) - (((g 31 - 0) - 0) - 0))), (((((g 8 - g 9) - (g 10 - g 11)) - ((g 12 - g 13) - (g 14 - g 15))) - 0) - ((((g 24 - g 25) - (g 26 - g 27)) - ((g 28 - g 29) - (g 30 - g 31))) - 0)), (((((g 9 - 0) - (g 11 - 0)) - ((g 13 - 0) - (g 15 - 0))) - 0) - ((((g 25 - 0) - (g 27 - 0)) - ((g 29 - 0) - (g 31 - 0))) - 0)), (((((g 10 - g 11) - 0) - ((g 14 - g 15) - 0)) - 0) - ((((g 26 - g 27) - 0) - ((g 30 - g 31) - 0)) - 0)), (((((g 11 - 0) - 0) - ((g 15 - 0) - 0)) - 0) - ((((g 27 - 0) - 0) - ((g 31 - 0) - 0)) - 0)), (((((g 12 - g 13) - (g 14 - g 15)) - 0) - 0) - ((((g 28 - g 29) - (g 30 - g 31)) - 0) - 0)), (((((g 13 - 0) - (g 15 - 0)) - 0) - 0) - ((((g 29 - 0) - (g 31 - 0)) - 0) - 0)), (((((g 14 - g 15) - 0) - 0) - 0) - ((((g 30 - g 31) - 0) - 0) - 0)), (((((g 15 - 0) - 0) - 0) - 0) - ((((g 31 - 0) - 0) - 0) - 0)), (((((g 16 - g 17) - (g 18 - g 19)) - ((g 20 - g 21) - (g 22 - g 23))) - (((g 24 - g 25) - (g 26 - g 27)) - ((g 28 - g 29) - (g 30 - g 31)))) - 0), (((((g 17 - 0) - (g 19 - 0)) - ((g 21 - 0) - (g 23 - 0))) - (((g 25 - 0) - (g 27 - 0)) - ((g 29 - 0) - (g 31 - 0)))) - 0), (((((g 18 - g 19) - 0) - ((g 22 - g 23) - 0)) - (((g 26 - g 27) - 0) - ((g 30 - g 31) - 0))) - 0), (((((g 19 - 0) - 0) - ((g 23 - 0) - 0)) - (((g 27 - 0) - 0) - ((g 31 - 0) - 0))) - 0), (((((g 20 - g 21) - (g 22 - g 23)) - 0) - (((g 28 - g 29) - (g 30 - g 31)) - 0)) - 0), (((((g 21 - 0) - (g 23 - 0)) - 0) - (((g 29 - 0) - (g 31 - 0)) - 0)) - 0), (((((g 22 - g 23) - 0) - 0) - (((g 30 - g 31) - 0) - 0)) - 0), (((((g 23 - 0) - 0) - 0) - (((g 31 - 0) - 0) - 0)) - 0), (((((g 24 - g 25) - (g 26 - g 27)) - ((g 28 - g 29) - (g 30 - g 31))) - 0) - 0), (((((g 25 - 0) - (g 27 - 0)) - ((g 29 - 0) - (g 31 - 0))) - 0) - 0), (((((g 26 - g 27) - 0) - ((g 30 - g 31) - 0)) - 0) - 0), (((((g 27 - 0) - 0) - ((g 31 - 0) - 0)) - 0) - 0), (((((g 28 - g 29) - (g 30 - g 31)) - 0) - 0) - 0), (((((g 29 - 0) - (g 31 - 0)) - 0) - 0) - 0), (((((g 30 - g 31) - 0) - 0) - 0) - 0), (((((g 31 - 0) - 0) - 0) - 0) - 0)] := by kernel_rfl
theorem ex5 (g : Nat → Int) : exF 5 (vec g 32) = [((((((((((((((((((((((((((((((((0 + g 0) + -g 1) + -g 2) + g 3) + -g 4) + g 5) + g 6) + -g 7) + -g 8) + g 9) + g 10) + -g 11) + g 12) + -g 13) + -g 14) + g 15) + -g 16) + g 17) + g 18) + -g 19) + g 20) + -g 21) + -g 22) + g 23) + g 24) + -g 25) + -g 26) + g 27) + -g 28) + g 29) + g 30) + -g 31), ((((((((((((((((0 + g 1) + -g 3) + -g 5) + g 7) + -g 9) + g 11) + g 13) + -g 15) + -g 17) + g 19) + g 21) + -g 23) + g 25) + -g 27) + -g 29) + g 31), ((((((((((((((((0 + g 2) + -g 3) + -g 6) + g 7) + -g 10) + g 11) + g 14) + -g 15) + -g 18) + g 19) + g 22) + -g 23) + g 26) + -g 27) + -g 30) + g 31), ((((((((0 + g 3) + -g 7) + -g 11) + g 15) + -g 19) + g 23) + g 27) + -g 31), ((((((((((((((((0 + g 4) + -g 5) + -g 6) + g 7) + -g 12) + g 13) + g 14) + -g 15) + -g 20) + g 21) + g 22) + -g 23) + g 28) + -g 29) + -g 30) + g 31), ((((((((0 + g 5) + -g 7) + -g 13) + g 15) + -g 21) + g 23) + g 29) + -g 31), ((((((((0 + g 6) + -g 7) + -g 14) + g 15) + -g 22) + g 23) + g 30) + -g 31), ((((0 + g 7) + -g 15) + -g 23) + g 31), ((((((((((((((((0 + g 8) + -g 9) + -g 10) + g 11) + -g 12) + g 13) + g 14) + -g 15) + -g 24) + g 25) + g 26) + -g 27) + g 28) + -g 29) + -g 30) + g 31), ((((((((0 + g 9) + -g 11) + -g 13) + g 15) + -g 25) + g 27) + g 29) + -g 31), ((((((((0 + g 10) + -g 11) + -g 14) + g 15) + -g 26) + g 27) + g 30) + -g 31), ((((0 + g 11) + -g 15) + -g 27) + g 31), ((((((((0 + g 12) + -g 13) + -g 14) + g 15) + -g 28) + g 29) + g 30) + -g 31), ((((0 + g 13) + -g 15) + -g 29) + g 31), ((((0 + g 14) + -g 15) + -g 30) + g 31), ((0 + g 15) + -g 31), ((((((((((((((((0 + g 16) + -g 17) + -g 18) + g 19) + -g 20) + g 21) + g 22) + -g 23) + -g 24) + g 25) + g 26) + -g 27) + g 28) + -g 29) + -g 30) + g 31), ((((((((0 + g 17) + -g 19) + -g 21) + g 23) + -g 25) + g 27) + g 29) + -g 31), ((((((((0 + g 18) + -g 19) + -g 22) + g 23) + -g 26) + g 27) + g 30) + -g 31), ((((0 + g 19) + -g 23) + -g 27) + g 31), ((((((((0 + g 20) + -g 21) + -g 22) + g 23) + -g 28) + g 29) + g 30) + -g 31), ((((0 + g 21) + -g 23) + -g 29) + g 31), ((((0 + g 22) + -g 23) + -g 30) + g 31), ((0 + g 23) + -g 31), ((((((((0 + g 24) + -g 25) + -g 26) + g 27) + -g 28) + g 29) + g 30) + -g 31), ((((0 + g 25) + -g 27) + -g 29) + g 31), ((((0 + g 26) + -g 27) + -g 30) + g 31), ((0 + g 27) + -g 31), ((((0 + g 28) + -g 29) + -g 30) + g 31), ((0 + g 29) + -g 31), ((0 + g 30) + -g 31), (0 + g 31)] := by kernel_rfl
theorem q5_0 (g : Nat → Int) : (((((((((((((((((((((((((((((((((0 + g 0) + -g 1) + -g 2) + g 3) + -g 4) + g 5) + g 6) + -g 7) + -g 8) + g 9) + g 10) + -g 11) + g 12) + -g 13) + -g 14) + g 15) + -g 16) + g 17) + g 18) + -g 19) + g 20) + -g 21) + -g 22) + g 23) + g 24) + -g 25) + -g 26) + g 27) + -g 28) + g 29) + g 30) + -g 31) : Int) = (((((g 0 - g 1) - (g 2 - g 3)) - ((g 4 - g 5) - (g 6 - g 7))) - (((g 8 - g 9) - (g 10 - g 11)) - ((g 12 - g 13) - (g 14 - g 15)))) - ((((g 16 - g 17) - (g 18 - g 19)) - ((g 20 - g 21) - (g 22 - g 23))) - (((g 24 - g 25) - (g 26 - g 27)) - ((g 28 - g 29) - (g 30 - g 31))))) := by omega
theorem q5_1 (g : Nat → Int) : (((((((((((((((((0 + g 1) + -g 3) + -g 5) + g 7) + -g 9) + g 11) + g 13) + -g 15) + -g 17) + g 19) + g 21) + -g 23) + g 25) + -g 27) + -g 29) + g 31) : Int) = (((((g 1 - 0) - (g 3 - 0)) - ((g 5 - 0) - (g 7 - 0))) - (((g 9 - 0) - (g 11 - 0)) - ((g 13 - 0) - (g 15 - 0)))) - ((((g 17 - 0) - (g 19 - 0)) - ((g 21 - 0) - (g 23 - 0))) - (((g 25 - 0) - (g 27 - 0)) - ((g 29 - 0) - (g 31 - 0))))) := by omega
theorem q5_2 (g : Nat → Int) : (((((((((((((((((0 + g 2) + -g 3) + -g 6) + g 7) + -g 10) + g 11) + g 14) + -g 15) + -g 18) + g 19) + g 22) + -g 23) + g 26) + -g 27) + -g 30) + g 31) : Int) = (((((g 2 - g 3) - 0) - ((g 6 - g 7) - 0)) - (((g 10 - g 11) - 0) - ((g 14 - g 15) - 0))) - ((((g 18 - g 19) - 0) - ((g 22 - g 23) - 0)) - (((g 26 - g 27) - 0) - ((g 30 - g 31) - 0)))) := by omega
theorem q5_3 (g : Nat → Int) : (((((((((0 + g 3) + -g 7) + -g 11) + g 15) + -g 19) + g 23) + g 27) + -g 31) : Int) = (((((g 3 - 0) - 0) - ((g 7 - 0) - 0)) - (((g 11 - 0) - 0) - ((g 15 - 0) - 0))) - ((((g 19 - 0) - 0) - ((g 23 - 0) - 0)) - (((g 27 - 0) - 0) - ((g 31 - 0) - 0)))) := by omega
theorem q5_4 (g : Nat → Int) : (((((((((((((((((0 + g 4) + -g 5) + -g 6) + g 7) + -g 12) + g 13) + g 14) + -g 15) + -g 20) + g 21) + g 22) + -g 23) + g 28) + -g 29) + -g 30) + g 31) : Int) = (((((g 4 - g 5) - (g 6 - g 7)) - 0) - (((g 12 - g 13) - (g 14 - g 15)) - 0)) - ((((g 20 - g 21) - (g 22 - g 23)) - 0) - (((g 28 - g 29) - (g 30 - g 31)) - 0))) := by omega
theorem q5_5 (g : Nat → Int) : (((((((((0 + g 5) + -g 7) + -g 13) + g 15) + -g 21) + g 23) + g 29) + -g 31) : Int) = (((((g 5 - 0) - (g 7 - 0)) - 0) - (((g 13 - 0) - (g 15 - 0)) - 0)) - ((((g 21 - 0) - (g 23 - 0)) - 0) - (((g 29 - 0) - (g 31 - 0)) - 0))) := by omega
theorem q5_6 (g : Nat → Int) : (((((((((0 + g 6) + -g 7) + -g 14) + g 15) + -g 22) + g 23) + g 30) + -g 31) : Int) = (((((g 6 - g 7) - 0) - 0) - (((g 14 - g 15) - 0) - 0)) - ((((g 22 - g 23) - 0) - 0) - (((g 30 - g 31) - 0) - 0))) := by omega
theorem q5_7 (g : Nat → Int) : (((((0 + g 7) + -g 15) + -g 23) + g 31) : Int) = (((((g 7 - 0) - 0) - 0) - (((g 15 - 0) - 0) - 0)) - ((((g 23 - 0) - 0) - 0) - (((g 31 - 0) - 0) - 0))) := by omega
theorem q5_8 (g : Nat → Int) : (((((((((((((((((0 + g 8) + -g 9) + -g 10) + g 11) + -g 12) + g 13) + g 14) + -g 15) + -g 24) + g 25) + g 26) + -g 27) + g 28) + -g 29) + -g 30) + g 31) : Int) = (((((g 8 - g 9) - (g 10 - g 11)) - ((g 12 - g 13) - (g 14 - g 15))) - 0) - ((((g 24 - g 25) - (g 26 - g 27)) - ((g 28 - g 29) - (g 30 - g 31))) - 0)) := by omega
theorem q5_9 (g : Nat → Int) : (((((((((0 + g 9) + -g 11) + -g 13) + g 15) + -g 25) + g 27) + g 29) + -g 31) : Int) = (((((g 9 - 0) - (g 11 - 0)) - ((g 13 - 0) - (g 15 - 0))) - 0) - ((((g 25 - 0) - (g 27 - 0)) - ((g 29 - 0) - (g 31 - 0))) - 0)) := by omega
theorem q5_10 (g : Nat → Int) : (((((((((0 + g 10) + -g 11) + -g 14) + g 15) + -g 26) + g 27) + g 30) + -g 31) : Int) = (((((g 10 - g 11) - 0) - ((g 14 - g 15) - 0)) - 0) - ((((g 26 - g 27) - 0) - ((g 30 - g 31) - 0)) - 0)) := by omega
theorem q5_11 (g : Nat → Int) : (((((0 + g 11) + -g 15) + -g 27) + g 31) : Int) = (((((g 11 - 0) - 0) - ((g 15 - 0) - 0)) - 0) - ((((g 27 - 0) - 0) - ((g 31 - 0) - 0)) - 0)) := by omega
theorem q5_12 (g : Nat → Int) : (((((((((0 + g 12) + -g 13) + -g 14) + g 15) + -g 28) + g 29) + g 30) + -g 31) : Int) = (((((g 12 - g 13) - (g 14 - g 15)) - 0) - 0) - ((((g 28 - g 29) - (g 30 - g 31)) - 0) - 0)) := by omega
theorem q5_13 (g : Nat → Int) : (((((0 + g 13) + -g 15) + -g 29) + g 31) : Int) = (((((g 13 - 0) - (g 15 - 0)) - 0) - 0) - ((((g 29 - 0) - (g 31 - 0)) - 0) - 0)) := by omega
theorem q5_14 (g : Nat → Int) : (((((0 + g 14) + -g 15) + -g 30) + g 31) : Int) = (((((g 14 - g 15) - 0) - 0) - 0) - ((((g 30 - g 31) - 0) - 0) - 0)) := by omega
theorem q5_15 (g : Nat → Int) : (((0 + g 15) + -g 31) : Int) = (((((g 15 - 0) - 0) - 0) - 0) - ((((g 31 - 0) - 0) - 0) - 0)) := by omega
theorem q5_16 (g : Nat → Int) : (((((((((((((((((0 + g 16) + -g 17) + -g 18) + g 19) + -g 20) + g 21) + g 22) + -g 23) + -g 24) + g 25) + g 26) + -g 27) + g 28) + -g 29) + -g 30) + g 31) : Int) = (((((g 16 - g 17) - (g 18 - g 19)) - ((g 20 - g 21) - (g 22 - g 23))) - (((g 24 - g 25) - (g 26 - g 27)) - ((g 28 - g 29) - (g 30 - g 31)))) - 0) := by omega
theorem q5_17 (g : Nat → Int) : (((((((((0 + g 17) + -g 19) + -g 21) + g 23) + -g 25) + g 27) + g 29) + -g 31) : Int) = (((((g 17 - 0) - (g 19 - 0)) - ((g 21 - 0) - (g 23 - 0))) - (((g 25 - 0) - (g 27 - 0)) - ((g 29 - 0) - (g 31 - 0)))) - 0) := by omega
theorem q5_18 (g : Nat → Int) : (((((((((0 + g 18) + -g 19) + -g 22) + g 23) + -g 26) + g 27) + g 30) + -g 31) : Int) = (((((g 18 - g 19) - 0) - ((g 22 - g 23) - 0)) - (((g 26 - g 27) - 0) - ((g 30 - g 31) - 0))) - 0) := by omega
theorem q5_19 (g : Nat → Int) : (((((0 + g 19) + -g 23) + -g 27) + g 31) : Int) = (((((g 19 - 0) - 0) - ((g 23 - 0) - 0)) - (((g 27 - 0) - 0) - ((g 31 - 0) - 0))) - 0) := by omega
theorem q5_20 (g : Nat → Int) : (((((((((0 + g 20) + -g 21) + -g 22) + g 23) + -g 28) + g 29) + g 30) + -g 31) : Int) = (((((g 20 - g 21) - (g 22 - g 23)) - 0) - (((g 28 - g 29) - (g 30 - g 31)) - 0)) - 0) := by omega
theorem q5_21 (g : Nat → Int) : (((((0 + g 21) + -g 23) + -g 29) + g 31) : Int) = (((((g 21 - 0) - (g 23 - 0)) - 0) - (((g 29 - 0) - (g 31 - 0)) - 0)) - 0) := by omega
theorem q5_22 (g : Nat → Int) : (((((0 + g 22) + -g 23) + -g 30) + g 31) : Int) = (((((g 22 - g 23) - 0) - 0) - (((g 30 - g 31) - 0) - 0)) - 0) := by omega
theorem q5_23 (g : Nat → Int) : (((0 + g 23) + -g 31) : Int) = (((((g 23 - 0) - 0) - 0) - (((g 31 - 0) - 0) - 0)) - 0) := by omega
theorem q5_24 (g : Nat → Int) : (((((((((0 + g 24) + -g 25) + -g 26) + g 27) + -g 28) + g 29) + g 30) + -g 31) : Int) = (((((g 24 - g 25) - (g 26 - g 27)) - ((g 28 - g 29) - (g 30 - g 31))) - 0) - 0) := by omega
theorem q5_25 (g : Nat → Int) : (((((0 + g 25) + -g 27) + -g 29) + g 31) : Int) = (((((g 25 - 0) - (g 27 - 0)) - ((g 29 - 0) - (g 31 - 0))) - 0) - 0) := by omega
theorem q5_26 (g : Nat → Int) : (((((0 + g 26) + -g 27) + -g 30) + g 31) : Int) = (((((g 26 - g 27) - 0) - ((g 30 - g 31) - 0)) - 0) - 0) := by omega
theorem q5_27 (g : Nat → Int) : (((0 + g 27) + -g 31) : Int) = (((((g 27 - 0) - 0) - ((g 31 - 0) - 0)) - 0) - 0) := by omega
theorem q5_28 (g : Nat → Int) : (((((0 + g 28) + -g 29) + -g 30) + g 31) : Int) = (((((g 28 - g 29) - (g 30 - g 31)) - 0) - 0) - 0) := by omega
theorem q5_29 (g : Nat → Int) : (((0 + g 29) + -g 31) : Int) = (((((g 29 - 0) - (g 31 - 0)) - 0) - 0) - 0) := by omega
theorem q5_30 (g : Nat → Int) : (((0 + g 30) + -g 31) : Int) = (((((g 30 - g 31) - 0) - 0) - 0) - 0) := by omega
theorem q5_31 (g : Nat → Int) : ((0 + g 31) : Int) = (((((g 31 - 0) - 0) - 0) - 0) - 0) := by omega
theorem same5 (g : Nat → Int) : exF 5 (vec g 32) = lawX 5 (vec g 32) := by
  rw [ex5, lx5, q5_0, q5_1, q5_2, q5_3, q5_4, q5_5, q5_6, q5_7, q5_8, q5_9, q5_10, q5_11, q5_12, q5_13, q5_14, q5_15, q5_16, q5_17, q5_18, q5_19, q5_20, q5_21, q5_22, q5_23, q5_24, q5_25, q5_26, q5_27, q5_28, q5_29, q5_30, q5_31]
theorem z5_0 (g : Nat → Int) : ((((((g 0 - g 1) - (g 2 - g 3)) - ((g 4 - g 5) - (g 6 - g 7))) - (((g 8 - g 9) - (g 10 - g 11)) - ((g 12 - g 13) - (g 14 - g 15)))) - ((((g 16 - g 17) - (g 18 - g 19)) - ((g 20 - g 21) - (g 22 - g 23))) - (((g 24 - g 25) - (g 26 - g 27)) - ((g 28 - g 29) - (g 30 - g 31))))) + (((((g 1 - 0) - (g 3 - 0)) - ((g 5 - 0) - (g 7 - 0))) - (((g 9 - 0) - (g 11 - 0)) - ((g 13 - 0) - (g 15 - 0)))) - ((((g 17 - 0) - (g 19 - 0)) - ((g 21 - 0) - (g 23 - 0))) - (((g 25 - 0) - (g 27 - 0)) - ((g 29 - 0) - (g 31 - 0))))) + (((((g 2 - g 3) - 0) - ((g 6 - g 7) - 0)) - (((g 10 - g 11) - 0) - ((g 14 - g 15) - 0))) - ((((g 18 - g 19) - 0) - ((g 22 - g 23) - 0)) - (((g 26 - g 27) - 0) - ((g 30 - g 31) - 0)))) + (((((g 3 - 0) - 0) - ((g 7 - 0) - 0)) - (((g 11 - 0) - 0) - ((g 15 - 0) - 0))) - ((((g 19 - 0) - 0) - ((g 23 - 0) - 0)) - (((g 27 - 0) - 0) - ((g 31 - 0) - 0)))) + (((((g 4 - g 5) - (g 6 - g 7)) - 0) - (((g 12 - g 13) - (g 14 - g 15)) - 0)) - ((((g 20 - g 21) - (g 22 - g 23)) - 0) - (((g 28 - g 29) - (g 30 - g 31)) - 0))) + (((((g 5 - 0) - (g 7 - 0)) - 0) - (((g 13 - 0) - (g 15 - 0)) - 0)) - ((((g 21 - 0) - (g 23 - 0)) - 0) - (((g 29 - 0) - (g 31 - 0)) - 0))) + (((((g 6 - g 7) - 0) - 0) - (((g 14 - g 15) - 0) - 0)) - ((((g 22 - g 23) - 0) - 0) - (((g 30 - g 31) - 0) - 0))) + (((((g 7 - 0) - 0) - 0) - (((g 15 - 0) - 0) - 0)) - ((((g 23 - 0) - 0) - 0) - (((g 31 - 0) - 0) - 0))) + (((((g 8 - g 9) - (g 10 - g 11)) - ((g 12 - g 13) - (g 14 - g 15))) - 0) - ((((g 24 - g 25) - (g 26 - g 27)) - ((g 28 - g 29) - (g 30 - g 31))) - 0)) + (((((g 9 - 0) - (g 11 - 0)) - ((g 13 - 0) - (g 15 - 0))) - 0) - ((((g 25 - 0) - (g 27 - 0)) - ((g 29 - 0) - (g 31 - 0))) - 0)) + (((((g 10 - g 11) - 0) - ((g 14 - g 15) - 0)) - 0) - ((((g 26 - g 27) - 0) - ((g 30 - g 31) - 0)) - 0)) + (((((g 11 - 0) - 0) - ((g 15 - 0) - 0)) - 0) - ((((g 27 - 0) - 0) - ((g 31 - 0) - 0)) - 0)) + (((((g 12 - g 13) - (g 14 - g 15)) - 0) - 0) - ((((g 28 - g 29) - (g 30 - g 31)) - 0) - 0)) + (((((g 13 - 0) - (g 15 - 0)) - 0) - 0) - ((((g 29 - 0) - (g 31 - 0)) - 0) - 0)) + (((((g 14 - g 15) - 0) - 0) - 0) - ((((g 30 - g 31) - 0) - 0) - 0)) + (((((g 15 - 0) - 0) - 0) - 0) - ((((g 31 - 0) - 0) - 0) - 0)) + (((((g 16 - g 17) - (g 18 - g 19)) - ((g 20 - g 21) - (g 22 - g 23))) - (((g 24 - g 25) - (g 26 - g 27)) - ((g 28 - g 29) - (g 30 - g 31)))) - 0) + (((((g 17 - 0) - (g 19 - 0)) - ((g 21 - 0) - (g 23 - 0))) - (((g 25 - 0) - (g 27 - 0)) - ((g 29 - 0) - (g 31 - 0)))) - 0) + (((((g 18 - g 19) - 0) - ((g 22 - g 23) - 0)) - (((g 26 - g 27) - 0) - ((g 30 - g 31) - 0))) - 0) + (((((g 19 - 0) - 0) - ((g 23 - 0) - 0)) - (((g 27 - 0) - 0) - ((g 31 - 0) - 0))) - 0) + (((((g 20 - g 21) - (g 22 - g 23)) - 0) - (((g 28 - g 29) - (g 30 - g 31)) - 0)) - 0) + (((((g 21 - 0) - (g 23 - 0)) - 0) - (((g 29 - 0) - (g 31 - 0)) - 0)) - 0) + (((((g 22 - g 23) - 0) - 0) - (((g 30 - g 31) - 0) - 0)) - 0) + (((((g 23 - 0) - 0) - 0) - (((g 31 - 0) - 0) - 0)) - 0) + (((((g 24 - g 25) - (g 26 - g 27)) - ((g 28 - g 29) - (g 30 - g 31))) - 0) - 0) + (((((g 25 - 0) - (g 27 - 0)) - ((g 29 - 0) - (g 31 - 0))) - 0) - 0) + (((((g 26 - g 27) - 0) - ((g 30 - g 31) - 0)) - 0) - 0) + (((((g 27 - 0) - 0) - ((g 31 - 0) - 0)) - 0) - 0) + (((((g 28 - g 29) - (g 30 - g 31)) - 0) - 0) - 0) + (((((g 29 - 0) - (g 31 - 0)) - 0) - 0) - 0) + (((((g 30 - g 31) - 0) - 0) - 0) - 0) + (((((g 31 - 0) - 0) - 0) - 0) - 0) : Int) = g 0 := by omega
theorem z5_1 (g : Nat → Int) : ((((((g 1 - 0) - (g 3 - 0)) - ((g 5 - 0) - (g 7 - 0))) - (((g 9 - 0) - (g 11 - 0)) - ((g 13 - 0) - (g 15 - 0)))) - ((((g 17 - 0) - (g 19 - 0)) - ((g 21 - 0) - (g 23 - 0))) - (((g 25 - 0) - (g 27 - 0)) - ((g 29 - 0) - (g 31 - 0))))) + (((((g 3 - 0) - 0) - ((g 7 - 0) - 0)) - (((g 11 - 0) - 0) - ((g 15 - 0) - 0))) - ((((g 19 - 0) - 0) - ((g 23 - 0) - 0)) - (((g 27 - 0) - 0) - ((g 31 - 0) - 0)))) + (((((g 5 - 0) - (g 7 - 0)) - 0) - (((g 13 - 0) - (g 15 - 0)) - 0)) - ((((g 21 - 0) - (g 23 - 0)) - 0) - (((g 29 - 0) - (g 31 - 0)) - 0))) + (((((g 7 - 0) - 0) - 0) - (((g 15 - 0) - 0) - 0)) - ((((g 23 - 0) - 0) - 0) - (((g 31 - 0) - 0) - 0))) + (((((g 9 - 0) - (g 11 - 0)) - ((g 13 - 0) - (g 15 - 0))) - 0) - ((((g 25 - 0) - (g 27 - 0)) - ((g 29 - 0) - (g 31 - 0))) - 0)) + (((((g 11 - 0) - 0) - ((g 15 - 0) - 0)) - 0) - ((((g 27 - 0) - 0) - ((g 31 - 0) - 0)) - 0)) + (((((g 13 - 0) - (g 15 - 0)) - 0) - 0) - ((((g 29 - 0) - (g 31 - 0)) - 0) - 0)) + (((((g 15 - 0) - 0) - 0) - 0) - ((((g 31 - 0) - 0) - 0) - 0)) + (((((g 17 - 0) - (g 19 - 0)) - ((g 21 - 0) - (g 23 - 0))) - (((g 25 - 0) - (g 27 - 0)) - ((g 29 - 0) - (g 31 - 0)))) - 0) + (((((g 19 - 0) - 0) - ((g 23 - 0) - 0)) - (((g 27 - 0) - 0) - ((g 31 - 0) - 0))) - 0) + (((((g 21 - 0) - (g 23 - 0)) - 0) - (((g 29 - 0) - (g 31 - 0)) - 0)) - 0) + (((((g 23 - 0) - 0) - 0) - (((g 31 - 0) - 0) - 0)) - 0) + (((((g 25 - 0) - (g 27 - 0)) - ((g 29 - 0) - (g 31 - 0))) - 0) - 0) + (((((g 27 - 0) - 0) - ((g 31 - 0) - 0)) - 0) - 0) + (((((g 29 - 0) - (g 31 - 0)) - 0) - 0) - 0) + (((((g 31 - 0) - 0) - 0) - 0) - 0) : Int) = g 1 := by omega
theorem z5_2 (g : Nat → Int) : ((((((g 2 - g 3) - 0) - ((g 6 - g 7) - 0)) - (((g 10 - g 11) - 0) - ((g 14 - g 15) - 0))) - ((((g 18 - g 19) - 0) - ((g 22 - g 23) - 0)) - (((g 26 - g 27) - 0) - ((g 30 - g 31) - 0)))) + (((((g 3 - 0) - 0) - ((g 7 - 0) - 0)) - (((g 11 - 0) - 0) - ((g 15 - 0) - 0))) - ((((g 19 - 0) - 0) - ((g 23 - 0) - 0)) - (((g 27 - 0) - 0) - ((g 31 - 0) - 0)))) + (((((g 6 - g 7) - 0) - 0) - (((g 14 - g 15) - 0) - 0)) - ((((g 22 - g 23) - 0) - 0) - (((g 30 - g 31) - 0) - 0))) + (((((g 7 - 0) - 0) - 0) - (((g 15 - 0) - 0) - 0)) - ((((g 23 - 0) - 0) - 0) - (((g 31 - 0) - 0) - 0))) + (((((g 10 - g 11) - 0) - ((g 14 - g 15) - 0)) - 0) - ((((g 26 - g 27) - 0) - ((g 30 - g 31) - 0)) - 0)) + (((((g 11 - 0) - 0) - ((g 15 - 0) - 0)) - 0) - ((((g 27 - 0) - 0) - ((g 31 - 0) - 0)) - 0)) + (((((g 14 - g 15) - 0) - 0) - 0) - ((((g 30 - g 31) - 0) - 0) - 0)) + (((((g 15 - 0) - 0) - 0) - 0) - ((((g 31 - 0) - 0) - 0) - 0)) + (((((g 18 - g 19) - 0) - ((g 22 - g 23) - 0)) - (((g 26 - g 27) - 0) - ((g 30 - g 31) - 0))) - 0) + (((((g 19 - 0) - 0) - ((g 23 - 0) - 0)) - (((g 27 - 0) - 0) - ((g 31 - 0) - 0))) - 0) + (((((g 22 - g 23) - 0) - 0) - (((g 30 - g 31) - 0) - 0)) - 0) + (((((g 23 - 0) - 0) - 0) - (((g 31 - 0) - 0) - 0)) - 0) + (((((g 26 - g 27) - 0) - ((g 30 - g 31) - 0)) - 0) - 0) + (((((g 27 - 0) - 0) - ((g 31 - 0) - 0)) - 0) - 0) + (((((g 30 - g 31) - 0) - 0) - 0) - 0) + (((((g 31 - 0) - 0) - 0) - 0) - 0) : Int) = g 2 := by omega
theorem z5_3 (g : Nat → Int) : ((((((g 3 - 0) - 0) - ((g 7 - 0) - 0)) - (((g 11 - 0) - 0) - ((g 15 - 0) - 0))) - ((((g 19 - 0) - 0) - ((g 23 - 0) - 0)) - (((g 27 - 0) - 0) - ((g 31 - 0) - 0)))) + (((((g 7 - 0) - 0) - 0) - (((g 15 - 0) - 0) - 0)) - ((((g 23 - 0) - 0) - 0) - (((g 31 - 0) - 0) - 0))) + (((((g 11 - 0) - 0) - ((g 15 - 0) - 0)) - 0) - ((((g 27 - 0) - 0) - ((g 31 - 0) - 0)) - 0)) + (((((g 15 - 0) - 0) - 0) - 0) - ((((g 31 - 0) - 0) - 0) - 0)) + (((((g 19 - 0) - 0) - ((g 23 - 0) - 0)) - (((g 27 - 0) - 0) - ((g 31 - 0) - 0))) - 0) + (((((g 23 - 0) - 0) - 0) - (((g 31 - 0) - 0) - 0)) - 0) + (((((g 27 - 0) - 0) - ((g 31 - 0) - 0)) - 0) - 0) + (((((g 31 - 0) - 0) - 0) - 0) - 0) : Int) = g 3 := by omega
theorem z5_4 (g : Nat → Int) : ((((((g 4 - g 5) - (g 6 - g 7)) - 0) - (((g 12 - g 13) - (g 14 - g 15)) - 0)) - ((((g 20 - g 21) - (g 22 - g 23)) - 0) - (((g 28 - g 29) - (g 30 - g 31)) - 0))) + (((((g 5 - 0) - (g 7 - 0)) - 0) - (((g 13 - 0) - (g 15 - 0)) - 0)) - ((((g 21 - 0) - (g 23 - 0)) - 0) - (((g 29 - 0) - (g 31 - 0)) - 0))) + (((((g 6 - g 7) - 0) - 0) - (((g 14 - g 15) - 0) - 0)) - ((((g 22 - g 23) - 0) - 0) - (((g 30 - g 31) - 0) - 0))) + (((((g 7 - 0) - 0) - 0) - (((g 15 - 0) - 0) - 0)) - ((((g 23 - 0) - 0) - 0) - (((g 31 - 0) - 0) - 0))) + (((((g 12 - g 13) - (g 14 - g 15)) - 0) - 0) - ((((g 28 - g 29) - (g 30 - g 31)) - 0) - 0)) + (((((g 13 - 0) - (g 15 - 0)) - 0) - 0) - ((((g 29 - 0) - (g 31 - 0)) - 0) - 0)) + (((((g 14 - g 15) - 0) - 0) - 0) - ((((g 30 - g 31) - 0) - 0) - 0)) + (((((g 15 - 0) - 0) - 0) - 0) - ((((g 31 - 0) - 0) - 0) - 0)) + (((((g 20 - g 21) - (g 22 - g 23)) - 0) - (((g 28 - g 29) - (g 30 - g 31)) - 0)) - 0) + (((((g 21 - 0) - (g 23 - 0)) - 0) - (((g 29 - 0) - (g 31 - 0)) - 0)) - 0) + (((((g 22 - g 23) - 0) - 0) - (((g 30 - g 31) - 0) - 0)) - 0) + (((((g 23 - 0) - 0) - 0) - (((g 31 - 0) - 0) - 0)) - 0) + (((((g 28 - g 29) - (g 30 - g 31)) - 0) - 0) - 0) + (((((g 29 - 0) - (g 31 - 0)) - 0) - 0) - 0) + (((((g 30 - g 31) - 0) - 0) - 0) - 0) + (((((g 31 - 0) - 0) - 0) - 0) - 0) : Int) = g 4 := by omega
theorem z5_5 (g : Nat → Int) : ((((((g 5 - 0) - (g 7 - 0)) - 0) - (((g 13 - 0) - (g 15 - 0)) - 0)) - ((((g 21 - 0) - (g 23 - 0)) - 0) - (((g 29 - 0) - (g 31 - 0)) - 0))) + (((((g 7 - 0) - 0) - 0) - (((g 15 - 0) - 0) - 0)) - ((((g 23 - 0) - 0) - 0) - (((g 31 - 0) - 0) - 0))) + (((((g 13 - 0) - (g 15 - 0)) - 0) - 0) - ((((g 29 - 0) - (g 31 - 0)) - 0) - 0)) + (((((g 15 - 0) - 0) - 0) - 0) - ((((g 31 - 0) - 0) - 0) - 0)) + (((((g 21 - 0) - (g 23 - 0)) - 0) - (((g 29 - 0) - (g 31 - 0)) - 0)) - 0) + (((((g 23 - 0) - 0) - 0) - (((g 31 - 0) - 0) - 0)) - 0) + (((((g 29 - 0) - (g 31 - 0)) - 0) - 0) - 0) + (((((g 31 - 0) - 0) - 0) - 0) - 0) : Int) = g 5 := by omega
theorem z5_6 (g : Nat → Int) : ((((((g 6 - g 7) - 0) - 0) - (((g 14 - g 15) - 0) - 0)) - ((((g 22 - g 23) - 0) - 0) - (((g 30 - g 31) - 0) - 0))) + (((((g 7 - 0) - 0) - 0) - (((g 15 - 0) - 0) - 0)) - ((((g 23 - 0) - 0) - 0) - (((g 31 - 0) - 0) - 0))) + (((((g 14 - g 15) - 0) - 0) - 0) - ((((g 30 - g 31) - 0) - 0) - 0)) + (((((g 15 - 0) - 0) - 0) - 0) - ((((g 31 - 0) - 0) - 0) - 0)) + (((((g 22 - g 23) - 0) - 0) - (((g 30 - g 31) - 0) - 0)) - 0) + (((((g 23 - 0) - 0) - 0) - (((g 31 - 0) - 0) - 0)) - 0) + (((((g 30 - g 31) - 0) - 0) - 0) - 0) + (((((g 31 - 0) - 0) - 0) - 0) - 0) : Int) = g 6 := by omega
theorem z5_7 (g : Nat → Int) : ((((((g 7 - 0) - 0) - 0) - (((g 15 - 0) - 0) - 0)) - ((((g 23 - 0) - 0) - 0) - (((g 31 - 0) - 0) - 0))) + (((((g 15 - 0) - 0) - 0) - 0) - ((((g 31 - 0) - 0) - 0) - 0)) + (((((g 23 - 0) - 0) - 0) - (((g 31 - 0) - 0) - 0)) - 0) + (((((g 31 - 0) - 0) - 0) - 0) - 0) : Int) = g 7 := by omega
theorem z5_8 (g : Nat → Int) : ((((((g 8 - g 9) - (g 10 - g 11)) - ((g 12 - g 13) - (g 14 - g 15))) - 0) - ((((g 24 - g 25) - (g 26 - g 27)) - ((g 28 - g 29) - (g 30 - g 31))) - 0)) + (((((g 9 - 0) - (g 11 - 0)) - ((g 13 - 0) - (g 15 - 0))) - 0) - ((((g 25 - 0) - (g 27 - 0)) - ((g 29 - 0) - (g 31 - 0))) - 0)) + (((((g 10 - g 11) - 0) - ((g 14 - g 15) - 0)) - 0) - ((((g 26 - g 27) - 0) - ((g 30 - g 31) - 0)) - 0)) + (((((g 11 - 0) - 0) - ((g 15 - 0) - 0)) - 0) - ((((g 27 - 0) - 0) - ((g 31 - 0) - 0)) - 0)) + (((((g 12 - g 13) - (g 14 - g 15)) - 0) - 0) - ((((g 28 - g 29) - (g 30 - g 31)) - 0) - 0)) + (((((g 13 - 0) - (g 15 - 0)) - 0) - 0) - ((((g 29 - 0) - (g 31 - 0)) - 0) - 0)) + (((((g 14 - g 15) - 0) - 0) - 0) - ((((g 30 - g 31) - 0) - 0) - 0)) + (((((g 15 - 0) - 0) - 0) - 0) - ((((g 31 - 0) - 0) - 0) - 0)) + (((((g 24 - g 25) - (g 26 - g 27)) - ((g 28 - g 29) - (g 30 - g 31))) - 0) - 0) + (((((g 25 - 0) - (g 27 - 0)) - ((g 29 - 0) - (g 31 - 0))) - 0) - 0) + (((((g 26 - g 27) - 0) - ((g 30 - g 31) - 0)) - 0) - 0) + (((((g 27 - 0) - 0) - ((g 31 - 0) - 0)) - 0) - 0) + (((((g 28 - g 29) - (g 30 - g 31)) - 0) - 0) - 0) + (((((g 29 - 0) - (g 31 - 0)) - 0) - 0) - 0) + (((((g 30 - g 31) - 0) - 0) - 0) - 0) + (((((g 31 - 0) - 0) - 0) - 0) - 0) : Int) = g 8 := by omega
theorem z5_9 (g : Nat → Int) : ((((((g 9 - 0) - (g 11 - 0)) - ((g 13 - 0) - (g 15 - 0))) - 0) - ((((g 25 - 0) - (g 27 - 0)) - ((g 29 - 0) - (g 31 - 0))) - 0)) + (((((g 11 - 0) - 0) - ((g 15 - 0) - 0)) - 0) - ((((g 27 - 0) - 0) - ((g 31 - 0) - 0)) - 0)) + (((((g 13 - 0) - (g 15 - 0)) - 0) - 0) - ((((g 29 - 0) - (g 31 - 0)) - 0) - 0)) + (((((g 15 - 0) - 0) - 0) - 0) - ((((g 31 - 0) - 0) - 0) - 0)) + (((((g 25 - 0) - (g 27 - 0)) - ((g 29 - 0) - (g 31 - 0))) - 0) - 0) + (((((g 27 - 0) - 0) - ((g 31 - 0) - 0)) - 0) - 0) + (((((g 29 - 0) - (g 31 - 0)) - 0) - 0) - 0) + (((((g 31 - 0) - 0) - 0) - 0) - 0) : Int) = g 9 := by omega
theorem z5_10 (g : Nat → Int) : ((((((g 10 - g 11) - 0) - ((g 14 - g 15) - 0)) - 0) - ((((g 26 - g 27) - 0) - ((g 30 - g 31) - 0)) - 0)) + (((((g 11 - 0) - 0) - ((g 15 - 0) - 0)) - 0) - ((((g 27 - 0) - 0) - ((g 31 - 0) - 0)) - 0)) + (((((g 14 - g 15) - 0) - 0) - 0) - ((((g 30 - g 31) - 0) - 0) - 0)) + (((((g 15 - 0) - 0) - 0) - 0) - ((((g 31 - 0) - 0) - 0) - 0)) + (((((g 26 - g 27) - 0) - ((g 30 - g 31) - 0)) - 0) - 0) + (((((g 27 - 0) - 0) - ((g 31 - 0) - 0)) - 0) - 0) + (((((g 30 - g 31) - 0) - 0) - 0) - 0) + (((((g 31 - 0) - 0) - 0) - 0) - 0) : Int) = g 10 := by omega
theorem z5_11 (g : Nat → Int) : ((((((g 11 - 0) - 0) - ((g 15 - 0) - 0)) - 0) - ((((g 27 - 0) - 0) - ((g 31 - 0) - 0)) - 0)) + (((((g 15 - 0) - 0) - 0) - 0) - ((((g 31 - 0) - 0) - 0) - 0)) + (((((g 27 - 0) - 0) - ((g 31 - 0) - 0)) - 0) - 0) + (((((g 31 - 0) - 0) - 0) - 0) - 0) : Int) = g 11 := by omega
theorem z5_12 (g : Nat → Int) : ((((((g 12 - g 13) - (g 14 - g 15)) - 0) - 0) - ((((g 28 - g 29) - (g 30 - g 31)) - 0) - 0)) + (((((g 13 - 0) - (g 15 - 0)) - 0) - 0) - ((((g 29 - 0) - (g 31 - 0)) - 0) - 0)) + (((((g 14 - g 15) - 0) - 0) - 0) - ((((g 30 - g 31) - 0) - 0) - 0)) + (((((g 15 - 0) - 0) - 0) - 0) - ((((g 31 - 0) - 0) - 0) - 0)) + (((((g 28 - g 29) - (g 30 - g 31)) - 0) - 0) - 0) + (((((g 29 - 0) - (g 31 - 0)) - 0) - 0) - 0) + (((((g 30 - g 31) - 0) - 0) - 0) - 0) + (((((g 31 - 0) - 0) - 0) - 0) - 0) : Int) = g 12 := by omega
theorem z5_13 (g : Nat → Int) : ((((((g 13 - 0) - (g 15 - 0)) - 0) - 0) - ((((g 29 - 0) - (g 31 - 0)) - 0) - 0)) + (((((g 15 - 0) - 0) - 0) - 0) - ((((g 31 - 0) - 0) - 0) - 0)) + (((((g 29 - 0) - (g 31 - 0)) - 0) - 0) - 0) + (((((g 31 - 0) - 0) - 0) - 0) - 0) : Int) = g 13 := by omega
theorem z5_14 (g : Nat → Int) : ((((((g 14 - g 15) - 0) - 0) - 0) - ((((g 30 - g 31) - 0) - 0) - 0)) + (((((g 15 - 0) - 0) - 0) - 0) - ((((g 31 - 0) - 0) - 0) - 0)) + (((((g 30 - g 31) - 0) - 0) - 0) - 0) + (((((g 31 - 0) - 0) - 0) - 0) - 0) : Int) = g 14 := by omega
theorem z5_15 (g : Nat → Int) : ((((((g 15 - 0) - 0) - 0) - 0) - ((((g 31 - 0) - 0) - 0) - 0)) + (((((g 31 - 0) - 0) - 0) - 0) - 0) : Int) = g 15 := by omega
theorem z5_16 (g : Nat → Int) : ((((((g 16 - g 17) - (g 18 - g 19)) - ((g 20 - g 21) - (g 22 - g 23))) - (((g 24 - g 25) - (g 26 - g 27)) - ((g 28 - g 29) - (g 30 - g 31)))) - 0) + (((((g 17 - 0) - (g 19 - 0)) - ((g 21 - 0) - (g 23 - 0))) - (((g 25 - 0) - (g 27 - 0)) - ((g 29 - 0) - (g 31 - 0)))) - 0) + (((((g 18 - g 19) - 0) - ((g 22 - g 23) - 0)) - (((g 26 - g 27) - 0) - ((g 30 - g 31) - 0))) - 0) + (((((g 19 - 0) - 0) - ((g 23 - 0) - 0)) - (((g 27 - 0) - 0) - ((g 31 - 0) - 0))) - 0) + (((((g 20 - g 21) - (g 22 - g 23)) - 0) - (((g 28 - g 29) - (g 30 - g 31)) - 0)) - 0) + (((((g 21 - 0) - (g 23 - 0)) - 0) - (((g 29 - 0) - (g 31 - 0)) - 0)) - 0) + (((((g 22 - g 23) - 0) - 0) - (((g 30 - g 31) - 0) - 0)) - 0) + (((((g 23 - 0) - 0) - 0) - (((g 31 - 0) - 0) - 0)) - 0) + (((((g 24 - g 25) - (g 26 - g 27)) - ((g 28 - g 29) - (g 30 - g 31))) - 0) - 0) + (((((g 25 - 0) - (g 27 - 0)) - ((g 29 - 0) - (g 31 - 0))) - 0) - 0) + (((((g 26 - g 27) - 0) - ((g 30 - g 31) - 0)) - 0) - 0) + (((((g 27 - 0) - 0) - ((g 31 - 0) - 0)) - 0) - 0) + (((((g 28 - g 29) - (g 30 - g 31)) - 0) - 0) - 0) + (((((g 29 - 0) - (g 31 - 0)) - 0) - 0) - 0) + (((((g 30 - g 31) - 0) - 0) - 0) - 0) + (((((g 31 - 0) - 0) - 0) - 0) - 0) : Int) = g 16 := by omega
theorem z5_17 (g : Nat → Int) : ((((((g 17 - 0) - (g 19 - 0)) - ((g 21 - 0) - (g 23 - 0))) - (((g 25 - 0) - (g 27 - 0)) - ((g 29 - 0) - (g 31 - 0)))) - 0) + (((((g 19 - 0) - 0) - ((g 23 - 0) - 0)) - (((g 27 - 0) - 0) - ((g 31 - 0) - 0))) - 0) + (((((g 21 - 0) - (g 23 - 0)) - 0) - (((g 29 - 0) - (g 31 - 0)) - 0)) - 0) + (((((g 23 - 0) - 0) - 0) - (((g 31 - 0) - 0) - 0)) - 0) + (((((g 25 - 0) - (g 27 - 0)) - ((g 29 - 0) - (g 31 - 0))) - 0) - 0) + (((((g 27 - 0) - 0) - ((g 31 - 0) - 0)) - 0) - 0) + (((((g 29 - 0) - (g 31 - 0)) - 0) - 0) - 0) + (((((g 31 - 0) - 0) - 0) - 0) - 0) : Int) = g 17 := by omega
theorem z5_18 (g : Nat → Int) : ((((((g 18 - g 19) - 0) - ((g 22 - g 23) - 0)) - (((g 26 - g 27) - 0) - ((g 30 - g 31) - 0))) - 0) + (((((g 19 - 0) - 0) - ((g 23 - 0) - 0)) - (((g 27 - 0) - 0) - ((g 31 - 0) - 0))) - 0) + (((((g 22 - g 23) - 0) - 0) - (((g 30 - g 31) - 0) - 0)) - 0) + (((((g 23 - 0) - 0) - 0) - (((g 31 - 0) - 0) - 0)) - 0) + (((((g 26 - g 27) - 0) - ((g 30 - g 31) - 0)) - 0) - 0) + (((((g 27 - 0) - 0) - ((g 31 - 0) - 0)) - 0) - 0) + (((((g 30 - g 31) - 0) - 0) - 0) - 0) + (((((g 31 - 0) - 0) - 0) - 0) - 0) : Int) = g 18 := by omega
theorem z5_19 (g : Nat → Int) : ((((((g 19 - 0) - 0) - ((g 23 - 0) - 0)) - (((g 27 - 0) - 0) - ((g 31 - 0) - 0))) - 0) + (((((g 23 - 0) - 0) - 0) - (((g 31 - 0) - 0) - 0)) - 0) + (((((g 27 - 0) - 0) - ((g 31 - 0) - 0)) - 0) - 0) + (((((g 31 - 0) - 0) - 0) - 0) - 0) : Int) = g 19 := by omega
theorem z5_20 (g : Nat → Int) : ((((((g 20 - g 21) - (g 22 - g 23)) - 0) - (((g 28 - g 29) - (g 30 - g 31)) - 0)) - 0) + (((((g 21 - 0) - (g 23 - 0)) - 0) - (((g 29 - 0) - (g 31 - 0)) - 0)) - 0) + (((((g 22 - g 23) - 0) - 0) - (((g 30 - g 31) - 0) - 0)) - 0) + (((((g 23 - 0) - 0) - 0) - (((g 31 - 0) - 0) - 0)) - 0) + (((((g 28 - g 29) - (g 30 - g 31)) - 0) - 0) - 0) + (((((g 29 - 0) - (g 31 - 0)) - 0) - 0) - 0) + (((((g 30 - g 31) - 0) - 0) - 0) - 0) + (((((g 31 - 0) - 0) - 0) - 0) - 0) : Int) = g 20 := by omega
theorem z5_21 (g : Nat → Int) : ((((((g 21 - 0) - (g 23 - 0)) - 0) - (((g 29 - 0) - (g 31 - 0)) - 0)) - 0) + (((((g 23 - 0) - 0) - 0) - (((g 31 - 0) - 0) - 0)) - 0) + (((((g 29 - 0) - (g 31 - 0)) - 0) - 0) - 0) + (((((g 31 - 0) - 0) - 0) - 0) - 0) : Int) = g 21 := by omega
theorem z5_22 (g : Nat → Int) : ((((((g 22 - g 23) - 0) - 0) - (((g 30 - g 31) - 0) - 0)) - 0) + (((((g 23 - 0) - 0) - 0) - (((g 31 - 0) - 0) - 0)) - 0) + (((((g 30 - g 31) - 0) - 0) - 0) - 0) + (((((g 31 - 0) - 0) - 0) - 0) - 0) : Int) = g 22 := by omega
theorem z5_23 (g : Nat → Int) : ((((((g 23 - 0) - 0) - 0) - (((g 31 - 0) - 0) - 0)) - 0) + (((((g 31 - 0) - 0) - 0) - 0) - 0) : Int) = g 23 := by omega
theorem z5_24 (g : Nat → Int) : ((((((g 24 - g 25) - (g 26 - g 27)) - ((g 28 - g 29) - (g 30 - g 31))) - 0) - 0) + (((((g 25 - 0) - (g 27 - 0)) - ((g 29 - 0) - (g 31 - 0))) - 0) - 0) + (((((g 26 - g 27) - 0) - ((g 30 - g 31) - 0)) - 0) - 0) + (((((g 27 - 0) - 0) - ((g 31 - 0) - 0)) - 0) - 0) + (((((g 28 - g 29) - (g 30 - g 31)) - 0) - 0) - 0) + (((((g 29 - 0) - (g 31 - 0)) - 0) - 0) - 0) + (((((g 30 - g 31) - 0) - 0) - 0) - 0) + (((((g 31 - 0) - 0) - 0) - 0) - 0) : Int) = g 24 := by omega
theorem z5_25 (g : Nat → Int) : ((((((g 25 - 0) - (g 27 - 0)) - ((g 29 - 0) - (g 31 - 0))) - 0) - 0) + (((((g 27 - 0) - 0) - ((g 31 - 0) - 0)) - 0) - 0) + (((((g 29 - 0) - (g 31 - 0)) - 0) - 0) - 0) + (((((g 31 - 0) - 0) - 0) - 0) - 0) : Int) = g 25 := by omega
theorem z5_26 (g : Nat → Int) : ((((((g 26 - g 27) - 0) - ((g 30 - g 31) - 0)) - 0) - 0) + (((((g 27 - 0) - 0) - ((g 31 - 0) - 0)) - 0) - 0) + (((((g 30 - g 31) - 0) - 0) - 0) - 0) + (((((g 31 - 0) - 0) - 0) - 0) - 0) : Int) = g 26 := by omega
theorem z5_27 (g : Nat → Int) : ((((((g 27 - 0) - 0) - ((g 31 - 0) - 0)) - 0) - 0) + (((((g 31 - 0) - 0) - 0) - 0) - 0) : Int) = g 27 := by omega
theorem z5_28 (g : Nat → Int) : ((((((g 28 - g 29) - (g 30 - g 31)) - 0) - 0) - 0) + (((((g 29 - 0) - (g 31 - 0)) - 0) - 0) - 0) + (((((g 30 - g 31) - 0) - 0) - 0) - 0) + (((((g 31 - 0) - 0) - 0) - 0) - 0) : Int) = g 28 := by omega
theorem z5_29 (g : Nat → Int) : ((((((g 29 - 0) - (g 31 - 0)) - 0) - 0) - 0) + (((((g 31 - 0) - 0) - 0) - 0) - 0) : Int) = g 29 := by omega
theorem z5_30 (g : Nat → Int) : ((((((g 30 - g 31) - 0) - 0) - 0) - 0) + (((((g 31 - 0) - 0) - 0) - 0) - 0) : Int) = g 30 := by omega
theorem z5_31 (g : Nat → Int) : ((((((g 31 - 0) - 0) - 0) - 0) - 0) : Int) = g 31 := by omega
end K53
end
section
set_option Elab.async false
set_option linter.all false
set_option maxRecDepth 100000
set_option maxHeartbeats 2000000
namespace K53
open PySem PySem.Spec Pi
/-! ### the algebra in general form -/
theorem vec_of {c : List Int} {n : Nat} (h : c.length = n) : c = vec (fun i => c.getD i 0) n := by
  apply List.ext_getElem
  · unfold vec; simp [h]
  · intro i h1 h2
    unfold vec
    simp [List.getD_eq_getElem?_getD, h1]
theorem same_at (m : Nat) (hm : m ≤ 5) (c : List Int) (h : c.length = 2 ^ m) : exF m c = lawX m c := by
  rw [vec_of h]
  match m, hm with
  | 0, _ => exact same0 _
  | 1, _ => exact same1 _
  | 2, _ => exact same2 _
  | 3, _ => exact same3 _
  | 4, _ => exact same4 _
  | 5, _ => exact same5 _
  | n + 6, h => omega
theorem law_run (l m : Nat) (hm : m ≤ 5) (c : List Int) (h : c.length = 2 ^ m) : Pi.run TT 0 (l + 1) 17 [.int m, eI c] = some (.val (eI (exF m c))) := by
  rw [same_at m hm c h]
  have := lawX_at l m hm (fun i => c.getD i 0)
  rw [← vec_of h] at this
  exact this
theorem ex_run (l m : Nat) (hm : m ≤ 5) (c : List Int) (h : c.length = 2 ^ m) : Pi.run TT 0 (l + 5) 7 [.int m, eI c] = some (.val (eI (exF m c))) := by
  have := exF_at l m hm (fun i => c.getD i 0)
  rw [← vec_of h] at this
  exact this
theorem exF_len (m : Nat) (c : List Int) : (exF m c).length = 2 ^ m := by
  unfold exF
  rw [List.length_map, S_len]
/-- one row of the sum -/
def fo (s : List Int) (L : List (List Int × Nat)) (c : Nat → Int) (acc : Int) : Int := L.foldl (fun acc p => if sub s p.1 then acc + (if (p.1.length - s.length) % 2 = 0 then c p.2 else -(c p.2)) else acc) acc
theorem fo_add (s : List Int) (c d : Nat → Int) : ∀ (L : List (List Int × Nat)) (a b : Int), fo s L (fun i => c i + d i) (a + b) = fo s L c a + fo s L d b
  | [], a, b => rfl
  | p :: L, a, b => by
    unfold fo
    simp only [List.foldl_cons]
    by_cases h : sub s p.1 = true
    · rw [if_pos h, if_pos h, if_pos h]
      by_cases h2 : (p.1.length - s.length) % 2 = 0
      · rw [if_pos h2, if_pos h2, if_pos h2, show a + b + (c p.2 + d p.2) = (a + c p.2) + (b + d p.2) by omega]
        exact fo_add s c d L _ _
      · rw [if_neg h2, if_neg h2, if_neg h2, show a + b + -(c p.2 + d p.2) = (a + -(c p.2)) + (b + -(d p.2)) by omega]
        exact fo_add s c d L _ _
    · rw [if_neg h, if_neg h, if_neg h]
      exact fo_add s c d L _ _
theorem fo_zero (s : List Int) : ∀ (L : List (List Int × Nat)) (c : Nat → Int), (∀ i, c i = 0) → fo s L c 0 = 0
  | [], _, _ => rfl
  | p :: L, c, h => by
    unfold fo
    simp only [List.foldl_cons, h]
    have := fo_zero s L c h
    unfold fo at this
    simp only [h, Int.neg_zero, Int.add_zero, ite_self] at this ⊢
    exact this
theorem fo_bound (s : List Int) (B : Int) (hB : 0 ≤ B) (c : Nat → Int) (hc : ∀ i, -B ≤ c i ∧ c i ≤ B) : ∀ (L : List (List Int × Nat)) (a : Int), fo s L c a ≤ a + B * L.length
  | [], a => by simp [fo]
  | p :: L, a => by
    have h1 := hc p.2
    have e : B * ((p :: L).length : Int) = B * (L.length : Int) + B := by
      rw [List.length_cons]
      push_cast
      rw [Int.mul_add, Int.mul_one]
    rw [e]
    unfold fo
    simp only [List.foldl_cons]
    have key : ∀ a' : Int, a' ≤ a + B → List.foldl (fun acc p => if sub s p.1 then acc + (if (p.1.length - s.length) % 2 = 0 then c p.2 else -(c p.2)) else acc) a' L ≤ a + (B * (L.length : Int) + B) := fun a' h' => by
      have := fo_bound s B hB c hc L a'
      unfold fo at this
      omega
    apply key
    split
    · split <;> omega
    · omega
/-- the counts of rows -/
def cts (m : Nat) (rows : List (List Int)) : List Int := (S m).map fun s => (cnt s rows : Int)
def ind (m : Nat) (r : List Int) (i : Nat) : Int := ((S m).map fun s => if sub s r then (1 : Int) else 0).getD i 0
theorem cts_getD (m : Nat) (r : List Int) (rows : List (List Int)) (i : Nat) : (cts m (r :: rows)).getD i 0 = ind m r i + (cts m rows).getD i 0 := by
  unfold cts ind
  simp only [List.getD_eq_getElem?_getD, List.getElem?_map]
  cases (S m)[i]? with
  | none => simp
  | some s =>
    simp only [Option.map_some, Option.getD_some]
    unfold cnt
    rw [List.filter_cons]
    by_cases h : sub s r = true
    · rw [if_pos h, if_pos h, List.length_cons]; omega
    · rw [if_neg h, if_neg h]; omega
def okInd (m : Nat) : Bool := (S m).all fun r => (S m).all fun s => decide (fo s (S m).zipIdx (ind m r) 0 = if r == s then 1 else 0)
theorem okInd_all : ∀ m ≤ 5, okInd m = true := by decide +kernel
theorem ex_counts (m : Nat) (hm : m ≤ 5) : ∀ rows : List (List Int), (∀ r ∈ rows, r ∈ S m) → exF m (cts m rows) = (S m).map fun s => ((rows.filter fun r => r == s).length : Int) := by
  have ok := okInd_all m hm
  unfold okInd at ok
  simp only [List.all_eq_true, decide_eq_true_eq] at ok
  have key : ∀ rows : List (List Int), (∀ r ∈ rows, r ∈ S m) → ∀ s ∈ S m, fo s (S m).zipIdx (fun i => (cts m rows).getD i 0) 0 = ((rows.filter fun r => r == s).length : Int) := by
    intro rows
    induction rows with
    | nil =>
      intro _ s _
      refine fo_zero s _ _ fun i => ?_
      unfold cts cnt
      simp only [List.filter_nil, List.length_nil, List.getD_eq_getElem?_getD, List.getElem?_map]
      cases (S m)[i]? <;> rfl
    | cons r rows ih =>
      intro h s hs
      have e : (fun i => (cts m (r :: rows)).getD i 0) = fun i => ind m r i + (cts m rows).getD i 0 := funext fun i => cts_getD m r rows i
      rw [e]
      have := fo_add s (ind m r) (fun i => (cts m rows).getD i 0) (S m).zipIdx 0 0
      rw [Int.add_zero] at this
      rw [this, ok r (h r (by simp)) s hs, ih (fun r' hr' => h r' (by simp [hr'])) s hs, List.filter_cons]
      by_cases hrs : (r == s) = true
      · rw [if_pos hrs, if_pos hrs, List.length_cons]; omega
      · rw [if_neg hrs, if_neg hrs]; omega
  intro rows h
  unfold exF
  apply List.map_congr_left
  intro s hs
  exact key rows h s hs
/-! ### lacks and tables -/
/-- the first set with a count below 0 -/
def lack : List (List Int) → List Int → Option (List Int)
  | s :: ss, x :: xs => if x < 0 then some s else lack ss xs
  | _, _ => none
/-- the told rows -/
def made : List (List Int) → List Int → List (List Int)
  | s :: ss, x :: xs => List.replicate x.toNat s ++ made ss xs
  | _, _ => []
def oS : Option (List Int) → PyData
  | none => .none
  | some s => eI s
theorem ex_bound (m : Nat) (hm : m ≤ 5) (c : List Int) (B : Int) (hB : 0 ≤ B) (hc : ∀ x ∈ c, -B ≤ x ∧ x ≤ B) : ∀ x ∈ exF m c, x ≤ B * 32 := by
  intro x hx
  unfold exF at hx
  obtain ⟨s, hs, rfl⟩ := List.mem_map.mp hx
  have := fo_bound s B hB (fun i => c.getD i 0) (fun i => by
    simp only [List.getD_eq_getElem?_getD]
    cases h : c[i]? with
    | none => simp; omega
    | some y => exact hc y (List.mem_of_getElem? h)) (S m).zipIdx 0
  rw [List.length_zipIdx, S_len, Int.zero_add] at this
  have h32 : (2 : Nat) ^ m ≤ 2 ^ 5 := Nat.pow_le_pow_right (by omega) hm
  have h2 : B * ((2 ^ m : Nat) : Int) ≤ B * 32 := Int.mul_le_mul_of_nonneg_left (by omega) hB
  exact Int.le_trans this h2
theorem made_len : ∀ (ss : List (List Int)) (xs : List Int) (B : Int), 0 ≤ B → (∀ x ∈ xs, x ≤ B) → ((made ss xs).length : Int) ≤ B * xs.length
  | [], xs, B, hB, _ => by
    show (0 : Int) ≤ _
    exact Int.mul_nonneg hB (by omega)
  | _ :: _, [], B, hB, _ => by simp [made]
  | s :: ss, x :: xs, B, hB, h => by
    have ih := made_len ss xs B hB fun y hy => h y (by simp [hy])
    have h1 := h x (by simp)
    show ((List.replicate x.toNat s ++ made ss xs).length : Int) ≤ _
    rw [List.length_append, List.length_replicate, List.length_cons]
    push_cast
    rw [Int.mul_add, Int.mul_one]
    omega
end K53
end
section
set_option Elab.async false
set_option linter.all false
set_option maxRecDepth 100000
set_option maxHeartbeats 2000000
namespace K53
open PySem PySem.Spec Pi
theorem enum_ints (xs : List Int) (k : Nat) : ((xs.map PyData.int).zipIdx k).map (fun p => PyData.tuple [.int p.2, p.1]) = (xs.zipIdx k).map fun p => .tuple [.int p.2, .int p.1] := by
  rw [List.zipIdx_map, List.map_map]
  rfl
theorem i_rangeZ {Γ : Gm} {ρ : List Cell} {fz : Bool} {e : E} {j : Int} (h : EvB Γ ρ e (.int j)) (h1 : -4611686018427387904 ≤ j) (h2 : j < 4611686018427387904) : EvI Γ fz ρ (.range [e]) ((List.range j.toNat).map fun (k : Nat) => .int k) := by
  have := i_range (fz := fz) (ns := [j]) (ks := (List.range j.toNat).map fun (k : Nat) => (k : Int)) (l_cons h l_nil) (by
    have h3 : decide (-(2 ^ 62) ≤ j) = true := decide_eq_true (by omega)
    have h4 : decide (j < 2 ^ 62) = true := decide_eq_true (by omega)
    unfold rangeI
    simp only [h3, h4, Bool.and_self, if_true])
  rw [List.map_map] at this
  exact this
def body8 : List Pi.S := [.ifs (.cmp .Lt (.var 3) (.const (.int 0))) [.ret (.ix (.call 5 [.var 0]) (.var 2))] []]
theorem drop_cons {α : Type} {l : List α} {k : Nat} (h : k < l.length) : l.drop k = l[k] :: l.drop (k + 1) := List.drop_eq_getElem_cons h
theorem S_ix (m k : Nat) (h : k < (S m).length) : ixD (.list ((S m).map eI)) (k : Int) = some (eI (S m)[k]) := by
  refine atI_at ?_
  rw [List.getElem?_map, List.getElem?_eq_getElem h]
  rfl
theorem lack_loop (l m : Nat) (hm : m ≤ 5) (cI : PyData) : ∀ (xs : List Int) (k : Nat) (c2 c3 : Cell), k + xs.length ≤ (S m).length →
    (lack ((S m).drop k) xs = none ∧ ∃ d2 d3, loopS (bodyS ⟨Pi.run TT 0 (l + 4), 0⟩ body8) (.tup [.name 2, .name 3]) ((xs.zipIdx k).map fun p => .tuple [.int p.2, .int p.1]) [.fr (.int m), .fr cI, c2, c3] = some (.nx [.fr (.int m), .fr cI, d2, d3])) ∨
    (∃ s, lack ((S m).drop k) xs = some s ∧ loopS (bodyS ⟨Pi.run TT 0 (l + 4), 0⟩ body8) (.tup [.name 2, .name 3]) ((xs.zipIdx k).map fun p => .tuple [.int p.2, .int p.1]) [.fr (.int m), .fr cI, c2, c3] = some (.rt (.val (eI s))))
  | [], k, c2, c3, _ => .inl ⟨by cases (S m).drop k <;> rfl, c2, c3, rfl⟩
  | x :: xs, k, c2, c3, h => by
    simp only [List.length_cons] at h
    have hk : k < (S m).length := by omega
    rw [drop_cons hk]
    show (( (if x < 0 then some (S m)[k] else lack ((S m).drop (k + 1)) xs) = none) ∧ _) ∨ ∃ s, (if x < 0 then some (S m)[k] else lack ((S m).drop (k + 1)) xs) = some s ∧ _
    rw [List.zipIdx_cons, List.map_cons]
    by_cases hx : x < 0
    · refine .inr ⟨(S m)[k], by rw [if_pos hx], ?_⟩
      have e : bodyS ⟨Pi.run TT 0 (l + 4), 0⟩ body8 [.fr (.int m), .fr cI, .fr (.int k), .fr (.int x)] = some (.rt (.val (eI (S m)[k]))) :=
        EvSs.h (s_ifT (t_of (b_cmp (b_fr rfl) b_const cmp_lt) (congrArg some (decide_eq_true hx))) (s_ret (e_ix (b_callN (a_consV (e_var rfl) a_nil) (sets_at l m hm)) (b_fr rfl) (S_ix m k hk))))
      show (asg _ _ _).bind _ = _
      show (some [Cell.fr (.int m), .fr cI, .fr (.int k), .fr (.int x)]).bind _ = _
      rw [Option.bind_some, e, Option.bind_some]
    · have e : bodyS ⟨Pi.run TT 0 (l + 4), 0⟩ body8 [.fr (.int m), .fr cI, .fr (.int k), .fr (.int x)] = some (.nx [.fr (.int m), .fr cI, .fr (.int k), .fr (.int x)]) :=
        EvSs.h (s_ifF (t_of (b_cmp (b_fr rfl) b_const cmp_lt) (congrArg some (decide_eq_false hx))) s_nil)
      rw [if_neg hx]
      have st : loopS (bodyS ⟨Pi.run TT 0 (l + 4), 0⟩ body8) (.tup [.name 2, .name 3]) (.tuple [.int (k : Nat), .int x] :: (xs.zipIdx (k + 1)).map fun p => .tuple [.int p.2, .int p.1]) [.fr (.int m), .fr cI, c2, c3] = loopS (bodyS ⟨Pi.run TT 0 (l + 4), 0⟩ body8) (.tup [.name 2, .name 3]) ((xs.zipIdx (k + 1)).map fun p => .tuple [.int p.2, .int p.1]) [.fr (.int m), .fr cI, .fr (.int k), .fr (.int x)] := by
        show (some [Cell.fr (.int m), .fr cI, .fr (.int k), .fr (.int x)]).bind _ = _
        rw [Option.bind_some, e, Option.bind_some]
      rcases lack_loop l m hm cI xs (k + 1) (.fr (.int k)) (.fr (.int x)) (by omega) with ⟨h1, d2, d3, h2⟩ | ⟨s, h1, h2⟩
      · exact .inl ⟨h1, d2, d3, st.trans h2⟩
      · exact .inr ⟨s, h1, st.trans h2⟩
theorem lack_run (l m : Nat) (hm : m ≤ 5) (c : List Int) (h : c.length = 2 ^ m) : Pi.run TT 0 (l + 6) 8 [.int m, eI c] = some (.val (oS (lack (S m) (exF m c)))) := by
  have hit : EvI ⟨Pi.run TT 0 (l + 5), 0⟩ true [.fr (.int m), .fr (eI c), .un, .un] (.enum (.call 7 [.var 0, .var 1])) (((exF m c).zipIdx 0).map fun p => .tuple [.int p.2, .int p.1]) := by
    rw [← enum_ints]
    exact i_enumV (e_callR (a_consV (e_var rfl) (a_consV (e_var rfl) a_nil)) (ex_run l m hm c h)) rfl
  rcases lack_loop (l + 1) m hm (eI c) (exF m c) 0 .un .un (by rw [exF_len, S_len]; omega) with ⟨h1, d2, d3, h2⟩ | ⟨s, h1, h2⟩
  · rw [List.drop_zero] at h1
    rw [h1]
    exact run_rt rfl rfl (s_loop hit h2 (s_ret e_const))
  · rw [List.drop_zero] at h1
    rw [h1]
    exact run_rt rfl rfl (s_loopR hit h2)
def body9i : List Pi.S := [.append 2 (.ix (.var 3) (.var 4))]
def body9 : List Pi.S := [.loop (.name 6) (.range [.var 5]) body9i]
theorem made_inner (Γ : Gm) (m k : Nat) (hk : k < (S m).length) (cI : PyData) (acc : List (List Int)) (x : Int) (c6 : Cell) (hz : acc.length + x.toNat ≤ 100000) : ∃ d6, loopS (bodyS Γ body9i) (.name 6) ((List.range x.toNat).map fun (k : Nat) => .int k) [.fr (.int m), .fr cI, .ow (acc.map eI), .ow ((S m).map eI), .fr (.int k), .fr (.int x), c6] = some (.nx [.fr (.int m), .fr cI, .ow ((acc ++ List.replicate x.toNat (S m)[k]).map eI), .ow ((S m).map eI), .fr (.int k), .fr (.int x), d6]) := by
  have hsz := sizeLine_big
  obtain ⟨ρ, h1, d6, h2⟩ := loop_inv (f := bodyS Γ body9i) (tg := .name 6) (fun j ρ => ∃ d6, ρ = [.fr (.int m), .fr cI, .ow ((acc ++ List.replicate j (S m)[k]).map eI), .ow ((S m).map eI), .fr (.int k), .fr (.int x), d6])
    (ds := (List.range x.toNat).map fun (k : Nat) => .int k) (ρ := [.fr (.int m), .fr cI, .ow (acc.map eI), .ow ((S m).map eI), .fr (.int k), .fr (.int x), c6]) ⟨c6, by simp⟩ (fun j d r hd ⟨d6, e⟩ => by
      subst e
      obtain ⟨rfl, hj⟩ := range_at hd
      refine ⟨_, rfl, _, .inl (EvSs.h (s_append (e_ix (b_ow rfl) (b_fr rfl) (S_ix m k hk)) rfl ?_ s_nil)), .fr (.int j), ?_⟩
      · rw [List.length_map, List.length_append, List.length_replicate]; omega
      · show [_, _, Cell.ow (((acc ++ List.replicate j (S m)[k]).map eI) ++ [eI (S m)[k]]), _, _, _, _] = _
        rw [List.replicate_succ', ← List.append_assoc, List.map_append (l₁ := acc ++ List.replicate j (S m)[k])]
        rfl)
  rw [List.length_map, List.length_range] at h2
  subst h2
  exact ⟨d6, h1⟩
theorem made_loop (Γ : Gm) (m : Nat) (cI : PyData) : ∀ (xs : List Int) (k : Nat) (acc : List (List Int)) (c4 c5 c6 : Cell), k + xs.length ≤ (S m).length → (∀ x ∈ xs, 0 ≤ x ∧ x ≤ 100000) → acc.length + (made ((S m).drop k) xs).length ≤ 100000 →
    ∃ d4 d5 d6, loopS (bodyS Γ body9) (.tup [.name 4, .name 5]) ((xs.zipIdx k).map fun p => .tuple [.int p.2, .int p.1]) [.fr (.int m), .fr cI, .ow (acc.map eI), .ow ((S m).map eI), c4, c5, c6] = some (.nx [.fr (.int m), .fr cI, .ow ((acc ++ made ((S m).drop k) xs).map eI), .ow ((S m).map eI), d4, d5, d6])
  | [], k, acc, c4, c5, c6, _, _, _ => ⟨c4, c5, c6, by
    have e : made ((S m).drop k) [] = [] := by cases (S m).drop k <;> rfl
    rw [e, List.append_nil]
    rfl⟩
  | x :: xs, k, acc, c4, c5, c6, h, hx, hz => by
    simp only [List.length_cons] at h
    have hk : k < (S m).length := by omega
    rw [drop_cons hk] at hz ⊢
    have em : made ((S m)[k] :: (S m).drop (k + 1)) (x :: xs) = List.replicate x.toNat (S m)[k] ++ made ((S m).drop (k + 1)) xs := rfl
    rw [em] at hz ⊢
    rw [List.length_append, List.length_replicate] at hz
    have hx0 := hx x (by simp)
    obtain ⟨e6, h1⟩ := made_inner Γ m k hk cI acc x c6 (by omega)
    have e : bodyS Γ body9 [.fr (.int m), .fr cI, .ow (acc.map eI), .ow ((S m).map eI), .fr (.int k), .fr (.int x), c6] = some (.nx [.fr (.int m), .fr cI, .ow ((acc ++ List.replicate x.toNat (S m)[k]).map eI), .ow ((S m).map eI), .fr (.int k), .fr (.int x), e6]) :=
      EvSs.h (s_loop (i_rangeZ (b_fr rfl) (by omega) (by omega)) h1 s_nil)
    obtain ⟨d4, d5, d6, h2⟩ := made_loop Γ m cI xs (k + 1) (acc ++ List.replicate x.toNat (S m)[k]) (.fr (.int k)) (.fr (.int x)) e6 (by omega) (fun y hy => hx y (by simp [hy])) (by rw [List.length_append, List.length_replicate]; omega)
    refine ⟨d4, d5, d6, ?_⟩
    rw [List.zipIdx_cons, List.map_cons]
    show (some [Cell.fr (.int m), .fr cI, .ow (acc.map eI), .ow ((S m).map eI), .fr (.int k), .fr (.int x), c6]).bind _ = _
    rw [Option.bind_some, e, Option.bind_some, ← List.append_assoc]
    exact h2
theorem lack_none : ∀ {ss : List (List Int)} {xs : List Int}, ss.length = xs.length → lack ss xs = none → ∀ x ∈ xs, 0 ≤ x
  | [], [], _, _, x, h => by simp at h
  | s :: ss, y :: xs, hl, h, x, hx => by
    have h' : (if y < 0 then some s else lack ss xs) = none := h
    by_cases hy : y < 0
    · rw [if_pos hy] at h'; cases h'
    · rw [if_neg hy] at h'
      rcases List.mem_cons.mp hx with rfl | hx
      · omega
      · exact lack_none (by simpa using hl) h' x hx
  | [], _ :: _, hl, _, _, _ => by simp at hl
  | _ :: _, [], hl, _, _, _ => by simp at hl
/-- the told table -/
def told (m : Nat) (xs : List Int) : PyData := match lack (S m) xs with
  | none => tbl m (made (S m) xs)
  | some _ => .none
theorem isNone_oS (o : Option (List Int)) : isNoneD (oS o) = o.isNone := by cases o <;> rfl
theorem table_run (l m : Nat) (hm : m ≤ 5) (c : List Int) (h : c.length = 2 ^ m) (hb : ∀ x ∈ exF m c, x ≤ 3000) : Pi.run TT 0 (l + 7) 9 [.int m, eI c] = some (.val (told m (exF m c))) := by
  have hsz := sizeLine_big
  have h32 : (2 : Nat) ^ m ≤ 2 ^ 5 := Nat.pow_le_pow_right (by omega) hm
  have hc : ∀ t, EvB ⟨Pi.run TT 0 (l + 6), 0⟩ [.fr (.int m), .fr (eI c), .un, .un, .un, .un, .un] (.cmp .IsNot (.call 8 [.var 0, .var 1]) (.const .none)) (.bool t) ↔ t = !(lack (S m) (exF m c)).isNone := fun t => ⟨fun hh => by
      have := b_cmp (Γ := ⟨Pi.run TT 0 (l + 6), 0⟩) (b_callR (a_consV (e_var (ρ := [.fr (.int m), .fr (eI c), .un, .un, .un, .un, .un]) (i := 0) rfl) (a_consV (e_var (i := 1) rfl) a_nil)) (lack_run l m hm c h)) b_const cmp_isnot
      rw [isNone_oS] at this
      have := hh.h.symm.trans this.h
      cases this
      rfl, fun hh => by
      subst hh
      have := b_cmp (Γ := ⟨Pi.run TT 0 (l + 6), 0⟩) (b_callR (a_consV (e_var (ρ := [.fr (.int m), .fr (eI c), .un, .un, .un, .un, .un]) (i := 0) rfl) (a_consV (e_var (i := 1) rfl) a_nil)) (lack_run l m hm c h)) b_const cmp_isnot
      rw [isNone_oS] at this
      exact this⟩
  unfold told
  cases hl : lack (S m) (exF m c) with
  | some s =>
    refine run_rt rfl rfl (s_ifT (t_of ((hc true).mpr (by rw [hl]; rfl)) rfl) (s_ret e_const))
  | none =>
    have hx := lack_none (by rw [exF_len, S_len]) hl
    have hlen := made_len (S m) (exF m c) 3000 (by omega) hb
    rw [exF_len] at hlen
    have hz : (made (S m) (exF m c)).length ≤ 100000 := by omega
    obtain ⟨d4, d5, d6, h2⟩ := made_loop ⟨Pi.run TT 0 (l + 6), 0⟩ m (eI c) (exF m c) 0 [] .un .un .un (by rw [exF_len, S_len]; omega) (fun x hx' => ⟨hx x hx', by have := hb x hx'; omega⟩) (by rw [List.drop_zero]; simpa using hz)
    rw [List.drop_zero, List.nil_append] at h2
    refine run_rt rfl rfl (s_ifF (t_of ((hc false).mpr (by rw [hl]; rfl)) rfl) (s_set (e_lst a_nil (Nat.zero_le _)) (s_set (e_callR (a_consV (e_var rfl) a_nil) (sets_at (l + 2) m hm)) (s_loop ?_ h2 (s_ret (e_tup (a_consV (e_var rfl) (a_consV (e_bi (l_cons (b_ow rfl) l_nil) bi_tupL) a_nil)) ?_))))))
    · rw [← enum_ints]
      exact i_enumV (e_callR (a_consV (e_var rfl) (a_consV (e_var rfl) a_nil)) (ex_run (l + 1) m hm c h)) rfl
    · show 2 ≤ sizeLine
      omega
end K53
end
section
set_option Elab.async false
set_option linter.all false
set_option maxRecDepth 100000
set_option maxHeartbeats 2000000
namespace K53
open PySem PySem.Spec Pi
theorem cmp_eqI (i j : Int) : cmpD .Eq (.int i) (.int j) = some (i == j) := rfl
/-! ### the law's sets -/
def bitp (n : Int) (j : Nat) : Bool := n / (2 ^ j : Int) % 2 == 1
def rowZ (n : Int) (m : Nat) : List Int := ((List.range m).filter (bitp n)).map fun (j : Nat) => (j : Int)
theorem row_mem (n : Int) : ∀ m, rowZ n m ∈ S m
  | 0 => List.mem_singleton.mpr rfl
  | m + 1 => by
    have ih := row_mem n m
    show rowZ n (m + 1) ∈ S m ++ (S m).map fun s => s ++ [(m : Int)]
    unfold rowZ at ih ⊢
    rw [List.range_succ, List.filter_append, List.map_append]
    by_cases h : bitp n m = true
    · rw [List.filter_cons_of_pos h]
      exact List.mem_append_right _ (List.mem_map.mpr ⟨_, ih, rfl⟩)
    · rw [List.filter_cons_of_neg h]
      refine List.mem_append_left _ ?_
      rw [List.filter_nil, List.map_nil, List.append_nil]
      exact ih
theorem row_len (n : Int) (m : Nat) : (rowZ n m).length ≤ m := S_small m _ (row_mem n m)
theorem pows (j : Nat) (h : j < 7) : ixD (.tuple [.int 1, .int 2, .int 4, .int 8, .int 16, .int 32, .int 64]) (j : Int) = some (.int (2 ^ j : Int)) := by
  refine atI_at ?_
  match j, h with
  | 0, _ => rfl
  | 1, _ => rfl
  | 2, _ => rfl
  | 3, _ => rfl
  | 4, _ => rfl
  | 5, _ => rfl
  | 6, _ => rfl
theorem pow_small (j : Nat) (h : j < 7) : (decide (0 < (2 ^ j : Int)) && decide ((2 ^ j : Int) < 1073741824)) = true := by
  match j, h with
  | 0, _ => rfl
  | 1, _ => rfl
  | 2, _ => rfl
  | 3, _ => rfl
  | 4, _ => rfl
  | 5, _ => rfl
  | 6, _ => rfl
theorem set_run (l m : Nat) (hm : m ≤ 5) (n : Int) : Pi.run TT 0 (l + 1) 14 [.int n, .int m] = some (.val (eI (rowZ n m))) := by
  have hz := sizeLine_big
  refine run_rt rfl rfl (s_ret (e_bi (l_cons (b_new (e_comp (xs := (List.range m).map fun (k : Nat) => .int k) (i_range1 (b_fr rfl) (by omega)) (collect_filter (p := bitp n) (g := fun (j : Nat) => .int j) (fun j hj => ?_) (by rw [List.length_range]; omega)))) l_nil) ?_))
  · have hj := List.mem_range.mp hj
    refine c_elemIf (Γ := ⟨Pi.run TT 0 l, 0⟩) rfl (t_of (b_cmp (b_bin (b_bin (b_bi (l_cons (b_fr rfl) l_nil) bi_int) (b_ix (b_tup ?_ ?_) (b_fr rfl) (pows j (by omega))) (bin_div' (pow_small j (by omega)))) b_const (bin_mod' rfl)) b_const (cmp_eqI _ _)) tru_bool) fun _ => e_var rfl
    · exact a_consV e_const (a_consV e_const (a_consV e_const (a_consV e_const (a_consV e_const (a_consV e_const (a_consV e_const a_nil))))))
    · show 7 ≤ sizeLine
      omega
  · rw [bi_tupL]
    simp [eI, rowZ, List.map_map]
theorem lin_run (l : Nat) (a b : List Int) (ha : a.length ≤ 100000) : Pi.run TT 0 (l + 1) 15 [eI a, eI b] = some (.val (.bool (sub a b))) := inL_ok rfl a b ha
theorem is_run (n l : Nat) (d : PyData) (h1 : okD d = true) (h2 : d.depth ≤ n) : Pi.run TT 0 (l + n + 2) 13 [d, d] = some (.val (.bool true)) := is_refl (iInt := 12) rfl rfl n d h1 h2
/-! ### told tables give their counts -/
def picks (s : List Int) : List (List Int) → List Int → List Int
  | t :: ts, x :: xs => if sub s t then x :: picks s ts xs else picks s ts xs
  | _, _ => []
def sumF : Int → List Int → Int
  | a, [] => a
  | a, x :: xs => sumF (a + x) xs
def sumL : List Int → Int
  | [] => 0
  | x :: xs => sumF x xs
theorem sumF_add : ∀ (xs : List Int) (a : Int), sumF a xs = a + sumL xs
  | [], a => (Int.add_zero a).symm
  | x :: xs, a => by
    show sumF (a + x) xs = a + sumF x xs
    rw [sumF_add xs (a + x), sumF_add xs x, Int.add_assoc]
theorem sumL_cons (x : Int) (xs : List Int) : sumL (x :: xs) = x + sumL xs := sumF_add xs x
theorem cnt_app (s : List Int) (a b : List (List Int)) : cnt s (a ++ b) = cnt s a + cnt s b := by
  unfold cnt; rw [List.filter_append, List.length_append]
theorem cnt_rep (s t : List Int) (n : Nat) : cnt s (List.replicate n t) = if sub s t then n else 0 := by
  unfold cnt
  by_cases h : sub s t = true
  · rw [if_pos h, List.filter_replicate_of_pos h, List.length_replicate]
  · rw [if_neg h, List.filter_replicate_of_neg h]; rfl
theorem cnt_made (s : List Int) : ∀ (ts : List (List Int)) (xs : List Int), (∀ x ∈ xs, 0 ≤ x) → (cnt s (made ts xs) : Int) = sumL (picks s ts xs)
  | [], _, _ => rfl
  | _ :: _, [], _ => rfl
  | t :: ts, x :: xs, h => by
    have ih := cnt_made s ts xs fun y hy => h y (by simp [hy])
    have hx := h x (by simp)
    show (cnt s (List.replicate x.toNat t ++ made ts xs) : Int) = sumL (if sub s t then x :: picks s ts xs else picks s ts xs)
    rw [cnt_app, cnt_rep]
    by_cases hs : sub s t = true
    · rw [if_pos hs, if_pos hs]
      rw [sumL_cons]
      push_cast
      omega
    · rw [if_neg hs, if_neg hs]
      omega
def inv (m : Nat) (c : List Int) : List Int := (S m).map fun s => sumL (picks s (S m) (lawX m c))
theorem w0 (g : Nat → Int) : inv 0 (vec g 1) = [g 0] := by kernel_rfl
theorem inv0 (g : Nat → Int) : inv 0 (vec g 1) = vec g 1 := by
  rw [w0]
  rfl
theorem w1 (g : Nat → Int) : inv 1 (vec g 2) = [(g 0 - g 1) + (g 1 - 0), (g 1 - 0)] := by kernel_rfl
theorem inv1 (g : Nat → Int) : inv 1 (vec g 2) = vec g 2 := by
  rw [w1, z1_0, z1_1]
  rfl
theorem w2 (g : Nat → Int) : inv 2 (vec g 4) = [((g 0 - g 1) - (g 2 - g 3)) + ((g 1 - 0) - (g 3 - 0)) + ((g 2 - g 3) - 0) + ((g 3 - 0) - 0), ((g 1 - 0) - (g 3 - 0)) + ((g 3 - 0) - 0), ((g 2 - g 3) - 0) + ((g 3 - 0) - 0), ((g 3 - 0) - 0)] := by kernel_rfl
theorem inv2 (g : Nat → Int) : inv 2 (vec g 4) = vec g 4 := by
  rw [w2, z2_0, z2_1, z2_2, z2_3]
  rfl
theorem w3 (g : Nat → Int) : inv 3 (vec g 8) = [(((g 0 - g 1) - (g 2 - g 3)) - ((g 4 - g 5) - (g 6 - g 7))) + (((g 1 - 0) - (g 3 - 0)) - ((g 5 - 0) - (g 7 - 0))) + (((g 2 - g 3) - 0) - ((g 6 - g 7) - 0)) + (((g 3 - 0) - 0) - ((g 7 - 0) - 0)) + (((g 4 - g 5) - (g 6 - g 7)) - 0) + (((g 5 - 0) - (g 7 - 0)) - 0) + (((g 6 - g 7) - 0) - 0) + (((g 7 - 0) - 0) - 0), (((g 1 - 0) - (g 3 - 0)) - ((g 5 - 0) - (g 7 - 0))) + (((g 3 - 0) - 0) - ((g 7 - 0) - 0)) + (((g 5 - 0) - (g 7 - 0)) - 0) + (((g 7 - 0) - 0) - 0), (((g 2 - g 3) - 0) - ((g 6 - g 7) - 0)) + (((g 3 - 0) - 0) - ((g 7 - 0) - 0)) + (((g 6 - g 7) - 0) - 0) + (((g 7 - 0) - 0) - 0), (((g 3 - 0) - 0) - ((g 7 - 0) - 0)) + (((g 7 - 0) - 0) - 0), (((g 4 - g 5) - (g 6 - g 7)) - 0) + (((g 5 - 0) - (g 7 - 0)) - 0) + (((g 6 - g 7) - 0) - 0) + (((g 7 - 0) - 0) - 0), (((g 5 - 0) - (g 7 - 0)) - 0) + (((g 7 - 0) - 0) - 0), (((g 6 - g 7) - 0) - 0) + (((g 7 - 0) - 0) - 0), (((g 7 - 0) - 0) - 0)] := by kernel_rfl
theorem inv3 (g : Nat → Int) : inv 3 (vec g 8) = vec g 8 := by
  rw [w3, z3_0, z3_1, z3_2, z3_3, z3_4, z3_5, z3_6, z3_7]
  rfl
theorem w4 (g : Nat → Int) : inv 4 (vec g 16) = [((((g 0 - g 1) - (g 2 - g 3)) - ((g 4 - g 5) - (g 6 - g 7))) - (((g 8 - g 9) - (g 10 - g 11)) - ((g 12 - g 13) - (g 14 - g 15)))) + ((((g 1 - 0) - (g 3 - 0)) - ((g 5 - 0) - (g 7 - 0))) - (((g 9 - 0) - (g 11 - 0)) - ((g 13 - 0) - (g 15 - 0)))) + ((((g 2 - g 3) - 0) - ((g 6 - g 7) - 0)) - (((g 10 - g 11) - 0) - ((g 14 - g 15) - 0))) + ((((g 3 - 0) - 0) - ((g 7 - 0) - 0)) - (((g 11 - 0) - 0) - ((g 15 - 0) - 0))) + ((((g 4 - g 5) - (g 6 - g 7)) - 0) - (((g 12 - g 13) - (g 14 - g 15)) - 0)) + ((((g 5 - 0) - (g 7 - 0)) - 0) - (((g 13 - 0) - (g 15 - 0)) - 0)) + ((((g 6 - g 7) - 0) - 0) - (((g 14 - g 15) - 0) - 0)) + ((((g 7 - 0) - 0) - 0) - (((g 15 - 0) - 0) - 0)) + ((((g 8 - g 9) - (g 10 - g 11)) - ((g 12 - g 13) - (g 14 - g 15))) - 0) + ((((g 9 - 0) - (g 11 - 0)) - ((g 13 - 0) - (g 15 - 0))) - 0) + ((((g 10 - g 11) - 0) - ((g 14 - g 15) - 0)) - 0) + ((((g 11 - 0) - 0) - ((g 15 - 0) - 0)) - 0) + ((((g 12 - g 13) - (g 14 - g 15)) - 0) - 0) + ((((g 13 - 0) - (g 15 - 0)) - 0) - 0) + ((((g 14 - g 15) - 0) - 0) - 0) + ((((g 15 - 0) - 0) - 0) - 0), ((((g 1 - 0) - (g 3 - 0)) - ((g 5 - 0) - (g 7 - 0))) - (((g 9 - 0) - (g 11 - 0)) - ((g 13 - 0) - (g 15 - 0)))) + ((((g 3 - 0) - 0) - ((g 7 - 0) - 0)) - (((g 11 - 0) - 0) - ((g 15 - 0) - 0))) + ((((g 5 - 0) - (g 7 - 0)) - 0) - (((g 13 - 0) - (g 15 - 0)) - 0)) + ((((g 7 - 0) - 0) - 0) - (((g 15 - 0) - 0) - 0)) + ((((g 9 - 0) - (g 11 - 0)) - ((g 13 - 0) - (g 15 - 0))) - 0) + ((((g 11 - 0) - 0) - ((g 15 - 0) - 0)) - 0) + ((((g 13 - 0) - (g 15 - 0)) - 0) - 0) + ((((g 15 - 0) - 0) - 0) - 0), ((((g 2 - g 3) - 0) - ((g 6 - g 7) - 0)) - (((g 10 - g 11) - 0) - ((g 14 - g 15) - 0))) + ((((g 3 - 0) - 0) - ((g 7 - 0) - 0)) - (((g 11 - 0) - 0) - ((g 15 - 0) - 0))) + ((((g 6 - g 7) - 0) - 0) - (((g 14 - g 15) - 0) - 0)) + ((((g 7 - 0) - 0) - 0) - (((g 15 - 0) - 0) - 0)) + ((((g 10 - g 11) - 0) - ((g 14 - g 15) - 0)) - 0) + ((((g 11 - 0) - 0) - ((g 15 - 0) - 0)) - 0) + ((((g 14 - g 15) - 0) - 0) - 0) + ((((g 15 - 0) - 0) - 0) - 0), ((((g 3 - 0) - 0) - ((g 7 - 0) - 0)) - (((g 11 - 0) - 0) - ((g 15 - 0) - 0))) + ((((g 7 - 0) - 0) - 0) - (((g 15 - 0) - 0) - 0)) + ((((g 11 - 0) - 0) - ((g 15 - 0) - 0)) - 0) + ((((g 15 - 0) - 0) - 0) - 0), ((((g 4 - g 5) - (g 6 - g 7)) - 0) - (((g 12 - g 13) - (g 14 - g 15)) - 0)) + ((((g 5 - 0) - (g 7 - 0)) - 0) - (((g 13 - 0) - (g 15 - 0)) - 0)) + ((((g 6 - g 7) - 0) - 0) - (((g 14 - g 15) - 0) - 0)) + ((((g 7 - 0) - 0) - 0) - (((g 15 - 0) - 0) - 0)) + ((((g 12 - g 13) - (g 14 - g 15)) - 0) - 0) + ((((g 13 - 0) - (g 15 - 0)) - 0) - 0) + ((((g 14 - g 15) - 0) - 0) - 0) + ((((g 15 - 0) - 0) - 0) - 0), ((((g 5 - 0) - (g 7 - 0)) - 0) - (((g 13 - 0) - (g 15 - 0)) - 0)) + ((((g 7 - 0) - 0) - 0) - (((g 15 - 0) - 0) - 0)) + ((((g 13 - 0) - (g 15 - 0)) - 0) - 0) + ((((g 15 - 0) - 0) - 0) - 0), ((((g 6 - g 7) - 0) - 0) - (((g 14 - g 15) - 0) - 0)) + ((((g 7 - 0) - 0) - 0) - (((g 15 - 0) - 0) - 0)) + ((((g 14 - g 15) - 0) - 0) - 0) + ((((g 15 - 0) - 0) - 0) - 0), ((((g 7 - 0) - 0) - 0) - (((g 15 - 0) - 0) - 0)) + ((((g 15 - 0) - 0) - 0) - 0), ((((g 8 - g 9) - (g 10 - g 11)) - ((g 12 - g 13) - (g 14 - g 15))) - 0) + ((((g 9 - 0) - (g 11 - 0)) - ((g 13 - 0) - (g 15 - 0))) - 0) + ((((g 10 - g 11) - 0) - ((g 14 - g 15) - 0)) - 0) + ((((g 11 - 0) - 0) - ((g 15 - 0) - 0)) - 0) + ((((g 12 - g 13) - (g 14 - g 15)) - 0) - 0) + ((((g 13 - 0) - (g 15 - 0)) - 0) - 0) + ((((g 14 - g 15) - 0) - 0) - 0) + ((((g 15 - 0) - 0) - 0) - 0), ((((g 9 - 0) - (g 11 - 0)) - ((g 13 - 0) - (g 15 - 0))) - 0) + ((((g 11 - 0) - 0) - ((g 15 - 0) - 0)) - 0) + ((((g 13 - 0) - (g 15 - 0)) - 0) - 0) + ((((g 15 - 0) - 0) - 0) - 0), ((((g 10 - g 11) - 0) - ((g 14 - g 15) - 0)) - 0) + ((((g 11 - 0) - 0) - ((g 15 - 0) - 0)) - 0) + ((((g 14 - g 15) - 0) - 0) - 0) + ((((g 15 - 0) - 0) - 0) - 0), ((((g 11 - 0) - 0) - ((g 15 - 0) - 0)) - 0) + ((((g 15 - 0) - 0) - 0) - 0), ((((g 12 - g 13) - (g 14 - g 15)) - 0) - 0) + ((((g 13 - 0) - (g 15 - 0)) - 0) - 0) + ((((g 14 - g 15) - 0) - 0) - 0) + ((((g 15 - 0) - 0) - 0) - 0), ((((g 13 - 0) - (g 15 - 0)) - 0) - 0) + ((((g 15 - 0) - 0) - 0) - 0), ((((g 14 - g 15) - 0) - 0) - 0) + ((((g 15 - 0) - 0) - 0) - 0), ((((g 15 - 0) - 0) - 0) - 0)] := by kernel_rfl
theorem inv4 (g : Nat → Int) : inv 4 (vec g 16) = vec g 16 := by
  rw [w4, z4_0, z4_1, z4_2, z4_3, z4_4, z4_5, z4_6, z4_7, z4_8, z4_9, z4_10, z4_11, z4_12, z4_13, z4_14, z4_15]
  rfl
theorem w5 (g : Nat → Int) : inv 5 (vec g 32) = [(((((g 0 - g 1) - (g 2 - g 3)) - ((g 4 - g 5) - (g 6 - g 7))) - (((g 8 - g 9) - (g 10 - g 11)) - ((g 12 - g 13) - (g 14 - g 15)))) - ((((g 16 - g 17) - (g 18 - g 19)) - ((g 20 - g 21) - (g 22 - g 23))) - (((g 24 - g 25) - (g 26 - g 27)) - ((g 28 - g 29) - (g 30 - g 31))))) + (((((g 1 - 0) - (g 3 - 0)) - ((g 5 - 0) - (g 7 - 0))) - (((g 9 - 0) - (g 11 - 0)) - ((g 13 - 0) - (g 15 - 0)))) - ((((g 17 - 0) - (g 19 - 0)) - ((g 21 - 0) - (g 23 - 0))) - (((g 25 - 0) - (g 27 - 0)) - ((g 29 - 0) - (g 31 - 0))))) + (((((g 2 - g 3) - 0) - ((g 6 - g 7) - 0)) - (((g 10 - g 11) - 0) - ((g 14 - g 15) - 0))) - ((((g 18 - g 19) - 0) - ((g 22 - g 23) - 0)) - (((g 26 - g 27) - 0) - ((g 30 - g 31) - 0)))) + (((((g 3 - 0) - 0) - ((g 7 - 0) - 0)) - (((g 11 - 0) - 0) - ((g 15 - 0) - 0))) - ((((g 19 - 0) - 0) - ((g 23 - 0) - 0)) - (((g 27 - 0) - 0) - ((g 31 - 0) - 0)))) + (((((g 4 - g 5) - (g 6 - g 7)) - 0) - (((g 12 - g 13) - (g 14 - g 15)) - 0)) - ((((g 20 - g 21) - (g 22 - g 23)) - 0) - (((g 28 - g 29) - (g 30 - g 31)) - 0))) + (((((g 5 - 0) - (g 7 - 0)) - 0) - (((g 13 - 0) - (g 15 - 0)) - 0)) - ((((g 21 - 0) - (g 23 - 0)) - 0) - (((g 29 - 0) - (g 31 - 0)) - 0))) + (((((g 6 - g 7) - 0) - 0) - (((g 14 - g 15) - 0) - 0)) - ((((g 22 - g 23) - 0) - 0) - (((g 30 - g 31) - 0) - 0))) + (((((g 7 - 0) - 0) - 0) - (((g 15 - 0) - 0) - 0)) - ((((g 23 - 0) - 0) - 0) - (((g 31 - 0) - 0) - 0))) + (((((g 8 - g 9) - (g 10 - g 11)) - ((g 12 - g 13) - (g 14 - g 15))) - 0) - ((((g 24 - g 25) - (g 26 - g 27)) - ((g 28 - g 29) - (g 30 - g 31))) - 0)) + (((((g 9 - 0) - (g 11 - 0)) - ((g 13 - 0) - (g 15 - 0))) - 0) - ((((g 25 - 0) - (g 27 - 0)) - ((g 29 - 0) - (g 31 - 0))) - 0)) + (((((g 10 - g 11) - 0) - ((g 14 - g 15) - 0)) - 0) - ((((g 26 - g 27) - 0) - ((g 30 - g 31) - 0)) - 0)) + (((((g 11 - 0) - 0) - ((g 15 - 0) - 0)) - 0) - ((((g 27 - 0) - 0) - ((g 31 - 0) - 0)) - 0)) + (((((g 12 - g 13) - (g 14 - g 15)) - 0) - 0) - ((((g 28 - g 29) - (g 30 - g 31)) - 0) - 0)) + (((((g 13 - 0) - (g 15 - 0)) - 0) - 0) - ((((g 29 - 0) - (g 31 - 0)) - 0) - 0)) + (((((g 14 - g 15) - 0) - 0) - 0) - ((((g 30 - g 31) - 0) - 0) - 0)) + (((((g 15 - 0) - 0) - 0) - 0) - ((((g 31 - 0) - 0) - 0) - 0)) + (((((g 16 - g 17) - (g 18 - g 19)) - ((g 20 - g 21) - (g 22 - g 23))) - (((g 24 - g 25) - (g 26 - g 27)) - ((g 28 - g 29) - (g 30 - g 31)))) - 0) + (((((g 17 - 0) - (g 19 - 0)) - ((g 21 - 0) - (g 23 - 0))) - (((g 25 - 0) - (g 27 - 0)) - ((g 29 - 0) - (g 31 - 0)))) - 0) + (((((g 18 - g 19) - 0) - ((g 22 - g 23) - 0)) - (((g 26 - g 27) - 0) - ((g 30 - g 31) - 0))) - 0) + (((((g 19 - 0) - 0) - ((g 23 - 0) - 0)) - (((g 27 - 0) - 0) - ((g 31 - 0) - 0))) - 0) + (((((g 20 - g 21) - (g 22 - g 23)) - 0) - (((g 28 - g 29) - (g 30 - g 31)) - 0)) - 0) + (((((g 21 - 0) - (g 23 - 0)) - 0) - (((g 29 - 0) - (g 31 - 0)) - 0)) - 0) + (((((g 22 - g 23) - 0) - 0) - (((g 30 - g 31) - 0) - 0)) - 0) + (((((g 23 - 0) - 0) - 0) - (((g 31 - 0) - 0) - 0)) - 0) + (((((g 24 - g 25) - (g 26 - g 27)) - ((g 28 - g 29) - (g 30 - g 31))) - 0) - 0) + (((((g 25 - 0) - (g 27 - 0)) - ((g 29 - 0) - (g 31 - 0))) - 0) - 0) + (((((g 26 - g 27) - 0) - ((g 30 - g 31) - 0)) - 0) - 0) + (((((g 27 - 0) - 0) - ((g 31 - 0) - 0)) - 0) - 0) + (((((g 28 - g 29) - (g 30 - g 31)) - 0) - 0) - 0) + (((((g 29 - 0) - (g 31 - 0)) - 0) - 0) - 0) + (((((g 30 - g 31) - 0) - 0) - 0) - 0) + (((((g 31 - 0) - 0) - 0) - 0) - 0), (((((g 1 - 0) - (g 3 - 0)) - ((g 5 - 0) - (g 7 - 0))) - (((g 9 - 0) - (g 11 - 0)) - ((g 13 - 0) - (g 15 - 0)))) - ((((g 17 - 0) - (g 19 - 0)) - ((g 21 - 0) - (g 23 - 0))) - (((g 25 - 0) - (g 27 - 0)) - ((g 29 - 0) - (g 31 - 0))))) + (((((g 3 - 0) - 0) - ((g 7 - 0) - 0)) - (((g 11 - 0) - 0) - ((g 15 - 0) - 0))) - ((((g 19 - 0) - 0) - ((g 23 - 0) - 0)) - (((g 27 - 0) - 0) - ((g 31 - 0) - 0)))) + (((((g 5 - 0) - (g 7 - 0)) - 0) - (((g 13 - 0) - (g 15 - 0)) - 0)) - ((((g 21 - 0) - (g 23 - 0)) - 0) - (((g 29 - 0) - (g 31 - 0)) - 0))) + (((((g 7 - 0) - 0) - 0) - (((g 15 - 0) - 0) - 0)) - ((((g 23 - 0) - 0) - 0) - (((g 31 - 0) - 0) - 0))) + (((((g 9 - 0) - (g 11 - 0)) - ((g 13 - 0) - (g 15 - 0))) - 0) - ((((g 25 - 0) - (g 27 - 0)) - ((g 29 - 0) - (g 31 - 0))) - 0)) + (((((g 11 - 0) - 0) - ((g 15 - 0) - 0)) - 0) - ((((g 27 - 0) - 0) - ((g 31 - 0) - 0)) - 0)) + (((((g 13 - 0) - (g 15 - 0)) - 0) - 0) - ((((g 29 - 0) - (g 31 - 0)) - 0) - 0)) + (((((g 15 - 0) - 0) - 0) - 0) - ((((g 31 - 0) - 0) - 0) - 0)) + (((((g 17 - 0) - (g 19 - 0)) - ((g 21 - 0) - (g 23 - 0))) - (((g 25 - 0) - (g 27 - 0)) - ((g 29 - 0) - (g 31 - 0)))) - 0) + (((((g 19 - 0) - 0) - ((g 23 - 0) - 0)) - (((g 27 - 0) - 0) - ((g 31 - 0) - 0))) - 0) + (((((g 21 - 0) - (g 23 - 0)) - 0) - (((g 29 - 0) - (g 31 - 0)) - 0)) - 0) + (((((g 23 - 0) - 0) - 0) - (((g 31 - 0) - 0) - 0)) - 0) + (((((g 25 - 0) - (g 27 - 0)) - ((g 29 - 0) - (g 31 - 0))) - 0) - 0) + (((((g 27 - 0) - 0) - ((g 31 - 0) - 0)) - 0) - 0) + (((((g 29 - 0) - (g 31 - 0)) - 0) - 0) - 0) + (((((g 31 - 0) - 0) - 0) - 0) - 0), (((((g 2 - g 3) - 0) - ((g 6 - g 7) - 0)) - (((g 10 - g 11) - 0) - ((g 14 - g 15) - 0))) - ((((g 18 - g 19) - 0) - ((g 22 - g 23) - 0)) - (((g 26 - g 27) - 0) - ((g 30 - g 31) - 0)))) + (((((g 3 - 0) - 0) - ((g 7 - 0) - 0)) - (((g 11 - 0) - 0) - ((g 15 - 0) - 0))) - ((((g 19 - 0) - 0) - ((g 23 - 0) - 0)) - (((g 27 - 0) - 0) - ((g 31 - 0) - 0)))) + (((((g 6 - g 7) - 0) - 0) - (((g 14 - g 15) - 0) - 0)) - ((((g 22 - g 23) - 0) - 0) - (((g 30 - g 31) - 0) - 0))) + (((((g 7 - 0) - 0) - 0) - (((g 15 - 0) - 0) - 0)) - ((((g 23 - 0) - 0) - 0) - (((g 31 - 0) - 0) - 0))) + (((((g 10 - g 11) - 0) - ((g 14 - g 15) - 0)) - 0) - ((((g 26 - g 27) - 0) - ((g 30 - g 31) - 0)) - 0)) + (((((g 11 - 0) - 0) - ((g 15 - 0) - 0)) - 0) - ((((g 27 - 0) - 0) - ((g 31 - 0) - 0)) - 0)) + (((((g 14 - g 15) - 0) - 0) - 0) - ((((g 30 - g 31) - 0) - 0) - 0)) + (((((g 15 - 0) - 0) - 0) - 0) - ((((g 31 - 0) - 0) - 0) - 0)) + (((((g 18 - g 19) - 0) - ((g 22 - g 23) - 0)) - (((g 26 - g 27) - 0) - ((g 30 - g 31) - 0))) - 0) + (((((g 19 - 0) - 0) - ((g 23 - 0) - 0)) - (((g 27 - 0) - 0) - ((g 31 - 0) - 0))) - 0) + (((((g 22 - g 23) - 0) - 0) - (((g 30 - g 31) - 0) - 0)) - 0) + (((((g 23 - 0) - 0) - 0) - (((g 31 - 0) - 0) - 0)) - 0) + (((((g 26 - g 27) - 0) - ((g 30 - g 31) - 0)) - 0) - 0) + (((((g 27 - 0) - 0) - ((g 31 - 0) - 0)) - 0) - 0) + (((((g 30 - g 31) - 0) - 0) - 0) - 0) + (((((g 31 - 0) - 0) - 0) - 0) - 0), (((((g 3 - 0) - 0) - ((g 7 - 0) - 0)) - (((g 11 - 0) - 0) - ((g 15 - 0) - 0))) - ((((g 19 - 0) - 0) - ((g 23 - 0) - 0)) - (((g 27 - 0) - 0) - ((g 31 - 0) - 0)))) + (((((g 7 - 0) - 0) - 0) - (((g 15 - 0) - 0) - 0)) - ((((g 23 - 0) - 0) - 0) - (((g 31 - 0) - 0) - 0))) + (((((g 11 - 0) - 0) - ((g 15 - 0) - 0)) - 0) - ((((g 27 - 0) - 0) - ((g 31 - 0) - 0)) - 0)) + (((((g 15 - 0) - 0) - 0) - 0) - ((((g 31 - 0) - 0) - 0) - 0)) + (((((g 19 - 0) - 0) - ((g 23 - 0) - 0)) - (((g 27 - 0) - 0) - ((g 31 - 0) - 0))) - 0) + (((((g 23 - 0) - 0) - 0) - (((g 31 - 0) - 0) - 0)) - 0) + (((((g 27 - 0) - 0) - ((g 31 - 0) - 0)) - 0) - 0) + (((((g 31 - 0) - 0) - 0) - 0) - 0), (((((g 4 - g 5) - (g 6 - g 7)) - 0) - (((g 12 - g 13) - (g 14 - g 15)) - 0)) - ((((g 20 - g 21) - (g 22 - g 23)) - 0) - (((g 28 - g 29) - (g 30 - g 31)) - 0))) + (((((g 5 - 0) - (g 7 - 0)) - 0) - (((g 13 - 0) - (g 15 - 0)) - 0)) - ((((g 21 - 0) - (g 23 - 0)) - 0) - (((g 29 - 0) - (g 31 - 0)) - 0))) + (((((g 6 - g 7) - 0) - 0) - (((g 14 - g 15) - 0) - 0)) - ((((g 22 - g 23) - 0) - 0) - (((g 30 - g 31) - 0) - 0))) + (((((g 7 - 0) - 0) - 0) - (((g 15 - 0) - 0) - 0)) - ((((g 23 - 0) - 0) - 0) - (((g 31 - 0) - 0) - 0))) + (((((g 12 - g 13) - (g 14 - g 15)) - 0) - 0) - ((((g 28 - g 29) - (g 30 - g 31)) - 0) - 0)) + (((((g 13 - 0) - (g 15 - 0)) - 0) - 0) - ((((g 29 - 0) - (g 31 - 0)) - 0) - 0)) + (((((g 14 - g 15) - 0) - 0) - 0) - ((((g 30 - g 31) - 0) - 0) - 0)) + (((((g 15 - 0) - 0) - 0) - 0) - ((((g 31 - 0) - 0) - 0) - 0)) + (((((g 20 - g 21) - (g 22 - g 23)) - 0) - (((g 28 - g 29) - (g 30 - g 31)) - 0)) - 0) + (((((g 21 - 0) - (g 23 - 0)) - 0) - (((g 29 - 0) - (g 31 - 0)) - 0)) - 0) + (((((g 22 - g 23) - 0) - 0) - (((g 30 - g 31) - 0) - 0)) - 0) + (((((g 23 - 0) - 0) - 0) - (((g 31 - 0) - 0) - 0)) - 0) + (((((g 28 - g 29) - (g 30 - g 31)) - 0) - 0) - 0) + (((((g 29 - 0) - (g 31 - 0)) - 0) - 0) - 0) + (((((g 30 - g 31) - 0) - 0) - 0) - 0) + (((((g 31 - 0) - 0) - 0) - 0) - 0), (((((g 5 - 0) - (g 7 - 0)) - 0) - (((g 13 - 0) - (g 15 - 0)) - 0)) - ((((g 21 - 0) - (g 23 - 0)) - 0) - (((g 29 - 0) - (g 31 - 0)) - 0))) + (((((g 7 - 0) - 0) - 0) - (((g 15 - 0) - 0) - 0)) - ((((g 23 - 0) - 0) - 0) - (((g 31 - 0) - 0) - 0))) + (((((g 13 - 0) - (g 15 - 0)) - 0) - 0) - ((((g 29 - 0) - (g 31 - 0)) - 0) - 0)) + (((((g 15 - 0) - 0) - 0) - 0) - ((((g 31 - 0) - 0) - 0) - 0)) + (((((g 21 - 0) - (g 23 - 0)) - 0) - (((g 29 - 0) - (g 31 - 0)) - 0)) - 0) + (((((g 23 - 0) - 0) - 0) - (((g 31 - 0) - 0) - 0)) - 0) + (((((g 29 - 0) - (g 31 - 0)) - 0) - 0) - 0) + (((((g 31 - 0) - 0) - 0) - 0) - 0), (((((g 6 - g 7) - 0) - 0) - (((g 14 - g 15) - 0) - 0)) - ((((g 22 - g 23) - 0) - 0) - (((g 30 - g 31) - 0) - 0))) + (((((g 7 - 0) - 0) - 0) - (((g 15 - 0) - 0) - 0)) - ((((g 23 - 0) - 0) - 0) - (((g 31 - 0) - 0) - 0))) + (((((g 14 - g 15) - 0) - 0) - 0) - ((((g 30 - g 31) - 0) - 0) - 0)) + (((((g 15 - 0) - 0) - 0) - 0) - ((((g 31 - 0) - 0) - 0) - 0)) + (((((g 22 - g 23) - 0) - 0) - (((g 30 - g 31) - 0) - 0)) - 0) + (((((g 23 - 0) - 0) - 0) - (((g 31 - 0) - 0) - 0)) - 0) + (((((g 30 - g 31) - 0) - 0) - 0) - 0) + (((((g 31 - 0) - 0) - 0) - 0) - 0), (((((g 7 - 0) - 0) - 0) - (((g 15 - 0) - 0) - 0)) - ((((g 23 - 0) - 0) - 0) - (((g 31 - 0) - 0) - 0))) + (((((g 15 - 0) - 0) - 0) - 0) - ((((g 31 - 0) - 0) - 0) - 0)) + (((((g 23 - 0) - 0) - 0) - (((g 31 - 0) - 0) - 0)) - 0) + (((((g 31 - 0) - 0) - 0) - 0) - 0), (((((g 8 - g 9) - (g 10 - g 11)) - ((g 12 - g 13) - (g 14 - g 15))) - 0) - ((((g 24 - g 25) - (g 26 - g 27)) - ((g 28 - g 29) - (g 30 - g 31))) - 0)) + (((((g 9 - 0) - (g 11 - 0)) - ((g 13 - 0) - (g 15 - 0))) - 0) - ((((g 25 - 0) - (g 27 - 0)) - ((g 29 - 0) - (g 31 - 0))) - 0)) + (((((g 10 - g 11) - 0) - ((g 14 - g 15) - 0)) - 0) - ((((g 26 - g 27) - 0) - ((g 30 - g 31) - 0)) - 0)) + (((((g 11 - 0) - 0) - ((g 15 - 0) - 0)) - 0) - ((((g 27 - 0) - 0) - ((g 31 - 0) - 0)) - 0)) + (((((g 12 - g 13) - (g 14 - g 15)) - 0) - 0) - ((((g 28 - g 29) - (g 30 - g 31)) - 0) - 0)) + (((((g 13 - 0) - (g 15 - 0)) - 0) - 0) - ((((g 29 - 0) - (g 31 - 0)) - 0) - 0)) + (((((g 14 - g 15) - 0) - 0) - 0) - ((((g 30 - g 31) - 0) - 0) - 0)) + (((((g 15 - 0) - 0) - 0) - 0) - ((((g 31 - 0) - 0) - 0) - 0)) + (((((g 24 - g 25) - (g 26 - g 27)) - ((g 28 - g 29) - (g 30 - g 31))) - 0) - 0) + (((((g 25 - 0) - (g 27 - 0)) - ((g 29 - 0) - (g 31 - 0))) - 0) - 0) + (((((g 26 - g 27) - 0) - ((g 30 - g 31) - 0)) - 0) - 0) + (((((g 27 - 0) - 0) - ((g 31 - 0) - 0)) - 0) - 0) + (((((g 28 - g 29) - (g 30 - g 31)) - 0) - 0) - 0) + (((((g 29 - 0) - (g 31 - 0)) - 0) - 0) - 0) + (((((g 30 - g 31) - 0) - 0) - 0) - 0) + (((((g 31 - 0) - 0) - 0) - 0) - 0), (((((g 9 - 0) - (g 11 - 0)) - ((g 13 - 0) - (g 15 - 0))) - 0) - ((((g 25 - 0) - (g 27 - 0)) - ((g 29 - 0) - (g 31 - 0))) - 0)) + (((((g 11 - 0) - 0) - ((g 15 - 0) - 0)) - 0) - ((((g 27 - 0) - 0) - ((g 31 - 0) - 0)) - 0)) + (((((g 13 - 0) - (g 15 - 0)) - 0) - 0) - ((((g 29 - 0) - (g 31 - 0)) - 0) - 0)) + (((((g 15 - 0) - 0) - 0) - 0) - ((((g 31 - 0) - 0) - 0) - 0)) + (((((g 25 - 0) - (g 27 - 0)) - ((g 29 - 0) - (g 31 - 0))) - 0) - 0) + (((((g 27 - 0) - 0) - ((g 31 - 0) - 0)) - 0) - 0) + (((((g 29 - 0) - (g 31 - 0)) - 0) - 0) - 0) + (((((g 31 - 0) - 0) - 0) - 0) - 0), (((((g 10 - g 11) - 0) - ((g 14 - g 15) - 0)) - 0) - ((((g 26 - g 27) - 0) - ((g 30 - g 31) - 0)) - 0)) + (((((g 11 - 0) - 0) - ((g 15 - 0) - 0)) - 0) - ((((g 27 - 0) - 0) - ((g 31 - 0) - 0)) - 0)) + (((((g 14 - g 15) - 0) - 0) - 0) - ((((g 30 - g 31) - 0) - 0) - 0)) + (((((g 15 - 0) - 0) - 0) - 0) - ((((g 31 - 0) - 0) - 0) - 0)) + (((((g 26 - g 27) - 0) - ((g 30 - g 31) - 0)) - 0) - 0) + (((((g 27 - 0) - 0) - ((g 31 - 0) - 0)) - 0) - 0) + (((((g 30 - g 31) - 0) - 0) - 0) - 0) + (((((g 31 - 0) - 0) - 0) - 0) - 0), (((((g 11 - 0) - 0) - ((g 15 - 0) - 0)) - 0) - ((((g 27 - 0) - 0) - ((g 31 - 0) - 0)) - 0)) + (((((g 15 - 0) - 0) - 0) - 0) - ((((g 31 - 0) - 0) - 0) - 0)) + (((((g 27 - 0) - 0) - ((g 31 - 0) - 0)) - 0) - 0) + (((((g 31 - 0) - 0) - 0) - 0) - 0), (((((g 12 - g 13) - (g 14 - g 15)) - 0) - 0) - ((((g 28 - g 29) - (g 30 - g 31)) - 0) - 0)) + (((((g 13 - 0) - (g 15 - 0)) - 0) - 0) - ((((g 29 - 0) - (g 31 - 0)) - 0) - 0)) + (((((g 14 - g 15) - 0) - 0) - 0) - ((((g 30 - g 31) - 0) - 0) - 0)) + (((((g 15 - 0) - 0) - 0) - 0) - ((((g 31 - 0) - 0) - 0) - 0)) + (((((g 28 - g 29) - (g 30 - g 31)) - 0) - 0) - 0) + (((((g 29 - 0) - (g 31 - 0)) - 0) - 0) - 0) + (((((g 30 - g 31) - 0) - 0) - 0) - 0) + (((((g 31 - 0) - 0) - 0) - 0) - 0), (((((g 13 - 0) - (g 15 - 0)) - 0) - 0) - ((((g 29 - 0) - (g 31 - 0)) - 0) - 0)) + (((((g 15 - 0) - 0) - 0) - 0) - ((((g 31 - 0) - 0) - 0) - 0)) + (((((g 29 - 0) - (g 31 - 0)) - 0) - 0) - 0) + (((((g 31 - 0) - 0) - 0) - 0) - 0), (((((g 14 - g 15) - 0) - 0) - 0) - ((((g 30 - g 31) - 0) - 0) - 0)) + (((((g 15 - 0) - 0) - 0) - 0) - ((((g 31 - 0) - 0) - 0) - 0)) + (((((g 30 - g 31) - 0) - 0) - 0) - 0) + (((((g 31 - 0) - 0) - 0) - 0) - 0), (((((g 15 - 0) - 0) - 0) - 0) - ((((g 31 - 0) - 0) - 0) - 0)) + (((((g 31 - 0) - 0) - 0) - 0) - 0), (((((g 16 - g 17) - (g 18 - g 19)) - ((g 20 - g 21) - (g 22 - g 23))) - (((g 24 - g 25) - (g 26 - g 27)) - ((g 28 - g 29) - (g 30 - g 31)))) - 0) + (((((g 17 - 0) - (g 19 - 0)) - ((g 21 - 0) - (g 23 - 0))) - (((g 25 - 0) - (g 27 - 0)) - ((g 29 - 0) - (g 31 - 0)))) - 0) + (((((g 18 - g 19) - 0) - ((g 22 - g 23) - 0)) - (((g 26 - g 27) - 0) - ((g 30 - g 31) - 0))) - 0) + (((((g 19 - 0) - 0) - ((g 23 - 0) - 0)) - (((g 27 - 0) - 0) - ((g 31 - 0) - 0))) - 0) + (((((g 20 - g 21) - (g 22 - g 23)) - 0) - (((g 28 - g 29) - (g 30 - g 31)) - 0)) - 0) + (((((g 21 - 0) - (g 23 - 0)) - 0) - (((g 29 - 0) - (g 31 - 0)) - 0)) - 0) + (((((g 22 - g 23) - 0) - 0) - (((g 30 - g 31) - 0) - 0)) - 0) + (((((g 23 - 0) - 0) - 0) - (((g 31 - 0) - 0) - 0)) - 0) + (((((g 24 - g 25) - (g 26 - g 27)) - ((g 28 - g 29) - (g 30 - g 31))) - 0) - 0) + (((((g 25 - 0) - (g 27 - 0)) - ((g 29 - 0) - (g 31 - 0))) - 0) - 0) + (((((g 26 - g 27) - 0) - ((g 30 - g 31) - 0)) - 0) - 0) + (((((g 27 - 0) - 0) - ((g 31 - 0) - 0)) - 0) - 0) + (((((g 28 - g 29) - (g 30 - g 31)) - 0) - 0) - 0) + (((((g 29 - 0) - (g 31 - 0)) - 0) - 0) - 0) + (((((g 30 - g 31) - 0) - 0) - 0) - 0) + (((((g 31 - 0) - 0) - 0) - 0) - 0), (((((g 17 - 0) - (g 19 - 0)) - ((g 21 - 0) - (g 23 - 0))) - (((g 25 - 0) - (g 27 - 0)) - ((g 29 - 0) - (g 31 - 0)))) - 0) + (((((g 19 - 0) - 0) - ((g 23 - 0) - 0)) - (((g 27 - 0) - 0) - ((g 31 - 0) - 0))) - 0) + (((((g 21 - 0) - (g 23 - 0)) - 0) - (((g 29 - 0) - (g 31 - 0)) - 0)) - 0) + (((((g 23 - 0) - 0) - 0) - (((g 31 - 0) - 0) - 0)) - 0) + (((((g 25 - 0) - (g 27 - 0)) - ((g 29 - 0) - (g 31 - 0))) - 0) - 0) + (((((g 27 - 0) - 0) - ((g 31 - 0) - 0)) - 0) - 0) + (((((g 29 - 0) - (g 31 - 0)) - 0) - 0) - 0) + (((((g 31 - 0) - 0) - 0) - 0) - 0), (((((g 18 - g 19) - 0) - ((g 22 - g 23) - 0)) - (((g 26 - g 27) - 0) - ((g 30 - g 31) - 0))) - 0) + (((((g 19 - 0) - 0) - ((g 23 - 0) - 0)) - (((g 27 - 0) - 0) - ((g 31 - 0) - 0))) - 0) + (((((g 22 - g 23) - 0) - 0) - (((g 30 - g 31) - 0) - 0)) - 0) + (((((g 23 - 0) - 0) - 0) - (((g 31 - 0) - 0) - 0)) - 0) + (((((g 26 - g 27) - 0) - ((g 30 - g 31) - 0)) - 0) - 0) + (((((g 27 - 0) - 0) - ((g 31 - 0) - 0)) - 0) - 0) + (((((g 30 - g 31) - 0) - 0) - 0) - 0) + (((((g 31 - 0) - 0) - 0) - 0) - 0), (((((g 19 - 0) - 0) - ((g 23 - 0) - 0)) - (((g 27 - 0) - 0) - ((g 31 - 0) - 0))) - 0) + (((((g 23 - 0) - 0) - 0) - (((g 31 - 0) - 0) - 0)) - 0) + (((((g 27 - 0) - 0) - ((g 31 - 0) - 0)) - 0) - 0) + (((((g 31 - 0) - 0) - 0) - 0) - 0), (((((g 20 - g 21) - (g 22 - g 23)) - 0) - (((g 28 - g 29) - (g 30 - g 31)) - 0)) - 0) + (((((g 21 - 0) - (g 23 - 0)) - 0) - (((g 29 - 0) - (g 31 - 0)) - 0)) - 0) + (((((g 22 - g 23) - 0) - 0) - (((g 30 - g 31) - 0) - 0)) - 0) + (((((g 23 - 0) - 0) - 0) - (((g 31 - 0) - 0) - 0)) - 0) + (((((g 28 - g 29) - (g 30 - g 31)) - 0) - 0) - 0) + (((((g 29 - 0) - (g 31 - 0)) - 0) - 0) - 0) + (((((g 30 - g 31) - 0) - 0) - 0) - 0) + (((((g 31 - 0) - 0) - 0) - 0) - 0), (((((g 21 - 0) - (g 23 - 0)) - 0) - (((g 29 - 0) - (g 31 - 0)) - 0)) - 0) + (((((g 23 - 0) - 0) - 0) - (((g 31 - 0) - 0) - 0)) - 0) + (((((g 29 - 0) - (g 31 - 0)) - 0) - 0) - 0) + (((((g 31 - 0) - 0) - 0) - 0) - 0), (((((g 22 - g 23) - 0) - 0) - (((g 30 - g 31) - 0) - 0)) - 0) + (((((g 23 - 0) - 0) - 0) - (((g 31 - 0) - 0) - 0)) - 0) + (((((g 30 - g 31) - 0) - 0) - 0) - 0) + (((((g 31 - 0) - 0) - 0) - 0) - 0), (((((g 23 - 0) - 0) - 0) - (((g 31 - 0) - 0) - 0)) - 0) + (((((g 31 - 0) - 0) - 0) - 0) - 0), (((((g 24 - g 25) - (g 26 - g 27)) - ((g 28 - g 29) - (g 30 - g 31))) - 0) - 0) + (((((g 25 - 0) - (g 27 - 0)) - ((g 29 - 0) - (g 31 - 0))) - 0) - 0) + (((((g 26 - g 27) - 0) - ((g 30 - g 31) - 0)) - 0) - 0) + (((((g 27 - 0) - 0) - ((g 31 - 0) - 0)) - 0) - 0) + (((((g 28 - g 29) - (g 30 - g 31)) - 0) - 0) - 0) + (((((g 29 - 0) - (g 31 - 0)) - 0) - 0) - 0) + (((((g 30 - g 31) - 0) - 0) - 0) - 0) + (((((g 31 - 0) - 0) - 0) - 0) - 0), (((((g 25 - 0) - (g 27 - 0)) - ((g 29 - 0) - (g 31 - 0))) - 0) - 0) + (((((g 27 - 0) - 0) - ((g 31 - 0) - 0)) - 0) - 0) + (((((g 29 - 0) - (g 31 - 0)) - 0) - 0) - 0) + (((((g 31 - 0) - 0) - 0) - 0) - 0), (((((g 26 - g 27) - 0) - ((g 30 - g 31) - 0)) - 0) - 0) + (((((g 27 - 0) - 0) - ((g 31 - 0) - 0)) - 0) - 0) + (((((g 30 - g 31) - 0) - 0) - 0) - 0) + (((((g 31 - 0) - 0) - 0) - 0) - 0), (((((g 27 - 0) - 0) - ((g 31 - 0) - 0)) - 0) - 0) + (((((g 31 - 0) - 0) - 0) - 0) - 0), (((((g 28 - g 29) - (g 30 - g 31)) - 0) - 0) - 0) + (((((g 29 - 0) - (g 31 - 0)) - 0) - 0) - 0) + (((((g 30 - g 31) - 0) - 0) - 0) - 0) + (((((g 31 - 0) - 0) - 0) - 0) - 0), (((((g 29 - 0) - (g 31 - 0)) - 0) - 0) - 0) + (((((g 31 - 0) - 0) - 0) - 0) - 0), (((((g 30 - g 31) - 0) - 0) - 0) - 0) + (((((g 31 - 0) - 0) - 0) - 0) - 0), (((((g 31 - 0) - 0) - 0) - 0) - 0)] := by kernel_rfl
theorem inv5 (g : Nat → Int) : inv 5 (vec g 32) = vec g 32 := by
  rw [w5, z5_0, z5_1, z5_2, z5_3, z5_4, z5_5, z5_6, z5_7, z5_8, z5_9, z5_10, z5_11, z5_12, z5_13, z5_14, z5_15, z5_16, z5_17, z5_18, z5_19, z5_20, z5_21, z5_22, z5_23, z5_24, z5_25, z5_26, z5_27, z5_28, z5_29, z5_30, z5_31]
  rfl
theorem inv_at (m : Nat) (hm : m ≤ 5) (c : List Int) (h : c.length = 2 ^ m) : inv m c = c := by
  rw [vec_of h]
  match m, hm with
  | 0, _ => exact inv0 _
  | 1, _ => exact inv1 _
  | 2, _ => exact inv2 _
  | 3, _ => exact inv3 _
  | 4, _ => exact inv4 _
  | 5, _ => exact inv5 _
  | n + 6, h => omega
theorem cts_made (m : Nat) (hm : m ≤ 5) (c : List Int) (h : c.length = 2 ^ m) (h0 : ∀ x ∈ exF m c, 0 ≤ x) : cts m (made (S m) (exF m c)) = c := by
  refine Eq.trans ?_ (inv_at m hm c h)
  unfold inv cts
  apply List.map_congr_left
  intro s _
  rw [← same_at m hm c h]
  exact cnt_made s _ _ h0
end K53
end
section
set_option Elab.async false
set_option linter.all false
set_option maxRecDepth 100000
set_option maxHeartbeats 2000000
namespace K53
open PySem PySem.Spec Pi
abbrev G7 : Gm := ⟨Pi.run TT 0 7, 0⟩
/-! ### lacks as the law finds them -/
def lkD (ss : List (List Int)) (xs : List Int) : List PyData := ((List.range ss.length).filter fun k => decide (xs.getD k 0 < 0)).map fun k => eI (ss.getD k [])
theorem lkD_cons (s : List Int) (ss : List (List Int)) (x : Int) (xs : List Int) : lkD (s :: ss) (x :: xs) = if x < 0 then eI s :: lkD ss xs else lkD ss xs := by
  unfold lkD
  rw [List.length_cons, List.range_succ_eq_map]
  by_cases h : x < 0
  · rw [if_pos h, List.filter_cons_of_pos (by simpa using h), List.filter_map, List.map_cons, List.map_map]
    rfl
  · rw [if_neg h, List.filter_cons_of_neg (by simpa using h), List.filter_map, List.map_map]
    rfl
theorem lk_head : ∀ (ss : List (List Int)) (xs : List Int), ss.length = xs.length → (lack ss xs = none ∧ lkD ss xs = []) ∨ ∃ s r, lack ss xs = some s ∧ lkD ss xs = eI s :: r
  | [], [], _ => .inl ⟨rfl, rfl⟩
  | s :: ss, x :: xs, h => by
    rw [lkD_cons]
    show ((if x < 0 then some s else lack ss xs) = none ∧ _) ∨ ∃ s' r, (if x < 0 then some s else lack ss xs) = some s' ∧ _
    by_cases hx : x < 0
    · rw [if_pos hx, if_pos hx]; exact .inr ⟨_, _, rfl, rfl⟩
    · rw [if_neg hx, if_neg hx]; exact lk_head ss xs (by simpa using h)
  | [], _ :: _, h => by simp at h
  | _ :: _, [], h => by simp at h
theorem made_take : ∀ (k : Nat) (ss : List (List Int)) (xs : List Int), k < ss.length → k < xs.length → made (ss.take (k + 1)) (xs.take (k + 1)) = made (ss.take k) (xs.take k) ++ List.replicate (xs.getD k 0).toNat (ss.getD k [])
  | 0, s :: ss, x :: xs, _, _ => by
    show List.replicate x.toNat s ++ made (ss.take 0) (xs.take 0) = [] ++ List.replicate x.toNat s
    simp [made]
  | k + 1, s :: ss, x :: xs, h1, h2 => by
    have ih := made_take k ss xs (by simpa using h1) (by simpa using h2)
    show List.replicate x.toNat s ++ made (ss.take (k + 1)) (xs.take (k + 1)) = (List.replicate x.toNat s ++ made (ss.take k) (xs.take k)) ++ List.replicate (xs.getD k 0).toNat (ss.getD k [])
    rw [ih, List.append_assoc]
  | _, [], _, h, _ => by simp at h
  | _, _ :: _, [], _, h => by simp at h
theorem S_ixD (m k : Nat) (h : k < 2 ^ m) : ixD (.list ((S m).map eI)) (k : Int) = some (eI ((S m).getD k [])) := by
  have h' : k < (S m).length := by rw [S_len]; exact h
  rw [S_ix m k h', List.getD_eq_getElem?_getD, List.getElem?_eq_getElem h']
  rfl
theorem eI_ixD (c : List Int) (k : Nat) (h : k < c.length) : ixD (eI c) (k : Int) = some (.int (c.getD k 0)) := by
  refine atI_at ?_
  rw [List.getElem?_map, List.getElem?_eq_getElem h, List.getD_eq_getElem?_getD, List.getElem?_eq_getElem h]
  rfl
theorem mx (x : Int) : (if x > 0 then x else 0).toNat = x.toNat := by split <;> omega
theorem rep_flat (n : Nat) (s : List Int) : (List.replicate n [eI s]).flatten = (List.replicate n s).map eI := by
  induction n with
  | zero => rfl
  | succ n ih => rw [List.replicate_succ, List.flatten_cons, ih, List.replicate_succ]; rfl
theorem bin_rep (s : List Int) (k : Int) (h0 : 0 ≤ k) (h : k ≤ 100000) : binD .Mult (.list [eI s]) (.int k) = some (.new ((List.replicate k.toNat s).map eI)) := by
  have hz := sizeLine_big
  have h1 : (decide (-(2 ^ 63) ≤ k) && decide (k < 2 ^ 63) && decide ([eI s].length * k.toNat ≤ sizeLine)) = true := by
    simp only [Bool.and_eq_true, decide_eq_true_eq, List.length_singleton]
    omega
  show (if _ then _ else _) = _
  rw [if_pos h1, rep_flat]
theorem okD_c (m : Nat) (hm : m ≤ 5) (c : List Int) (h : c.length = 2 ^ m) : okD (eI c) = true := okD_eI c (by
  have h32 : (2 : Nat) ^ m ≤ 2 ^ 5 := Nat.pow_le_pow_right (by omega) hm
  omega)
theorem S_okD (m : Nat) (hm : m ≤ 5) : ∀ s ∈ S m, okD (eI s) = true := fun s hs => okD_eI s (by have := S_small m s hs; omega)
theorem made_mem : ∀ (ss : List (List Int)) (xs : List Int), ∀ t ∈ made ss xs, t ∈ ss
  | [], _, t, h => by simp [made] at h
  | _ :: _, [], t, h => by simp [made] at h
  | s :: ss, x :: xs, t, h => by
    rcases List.mem_append.mp (show t ∈ List.replicate x.toNat s ++ made ss xs from h) with h | h
    · rw [(List.mem_replicate.mp h).2]; exact List.mem_cons_self
    · exact List.mem_cons_of_mem _ (made_mem ss xs t h)
theorem lack_mem : ∀ (ss : List (List Int)) (xs : List Int) (s : List Int), lack ss xs = some s → s ∈ ss
  | [], _, s, h => by simp [lack] at h
  | _ :: _, [], s, h => by simp [lack] at h
  | t :: ss, x :: xs, s, h => by
    have h' : (if x < 0 then some t else lack ss xs) = some s := h
    by_cases hx : x < 0
    · rw [if_pos hx] at h'; cases h'; exact List.mem_cons_self
    · rw [if_neg hx] at h'; exact List.mem_cons_of_mem _ (lack_mem ss xs s h')
theorem oS_ok (m : Nat) (hm : m ≤ 5) (xs : List Int) : okD (oS (lack (S m) xs)) = true ∧ (oS (lack (S m) xs)).depth ≤ 1 := by
  cases h : lack (S m) xs with
  | none => exact ⟨rfl, Nat.zero_le _⟩
  | some s => exact ⟨S_okD m hm s (lack_mem _ _ _ h), by show (eI s).depth ≤ 1; rw [depth_eI]; exact Nat.le_refl _⟩
theorem okD_tbl (m : Nat) (rows : List (List Int)) (hl : rows.length ≤ 100000) (h : ∀ r ∈ rows, okD (eI r) = true) : okD (tbl m rows) = true ∧ (tbl m rows).depth ≤ 3 := by
  have h1 : okD (.tuple (rows.map eI)) = true := by
    show (decide ((rows.map eI).length ≤ 100000) && okDs (rows.map eI)) = true
    rw [okDs_map h, List.length_map, decide_eq_true hl]; rfl
  have h2 : PyData.depthAll (rows.map eI) ≤ 1 := depth_map fun r _ => by rw [depth_eI]; exact Nat.le_refl _
  refine ⟨?_, ?_⟩
  · show (decide (2 ≤ 100000) && (true && (okD (.tuple (rows.map eI)) && true))) = true
    rw [h1]; rfl
  · simp only [tbl, PyData.depth, PyData.depthAll]
    omega
end K53
end
section
set_option Elab.async false
set_option linter.all false
set_option maxRecDepth 100000
set_option maxHeartbeats 2000000
namespace K53
open PySem PySem.Spec Pi
def body16 : List Pi.S := [.set 16 (.bin .Add (.var 16) (.bin .Mult (.lst [.ix (.var 5) (.var 9)]) (.bi .max [.const (.int 0), .ix (.var 14) (.var 9)])))]
def tail18 : List Pi.S := [.frz 3, .frz 12, .set 14 (.call 17 [.var 3, .var 12]), .set 15 (.comp [9] (.ix (.var 5) (.var 9)) [.mk (.name 9) (.range [.bi .len [.var 5]]) [.cmp .Lt (.ix (.var 14) (.var 9)) (.const (.int 0))]]), .frz 3, .frz 12, .frz 14, .ifs (.not (.call 13 [.call 7 [.var 3, .var 12], .var 14])) [.ret (.const (.bool false))] [], .frz 3, .frz 12, .ifs (.not (.call 13 [.call 8 [.var 3, .var 12], .ite (.cmp .Gt (.bi .len [.var 15]) (.const (.int 0))) (.ix (.var 15) (.const (.int 0))) (.const .none)])) [.ret (.const (.bool false))] [], .set 16 (.lst []), .loop (.name 9) (.range [.bi .len [.var 5]]) body16, .frz 3, .frz 12, .set 17 (.call 9 [.var 3, .var 12]), .frz 3, .frz 17, .ifs (.not (.call 13 [.var 17, .ite (.cmp .Eq (.bi .len [.var 15]) (.const (.int 0))) (.tup [.var 3, .bi .tuple [.var 16]]) (.const .none)])) [.ret (.const (.bool false))] [], .frz 12, .frz 17, .ifs (.and (.cmp .IsNot (.var 17) (.const .none)) (.and (.cmp .Lt (.bi .len [.var 16]) (.const (.int 7))) (.not (.call 13 [.call 6 [.var 17], .var 12])))) [.ret (.const (.bool false))] []]
def head18 : List Pi.S := [.frz 7, .set 12 (.var 7), .ifs (.or (.cmp .Eq (.var 11) (.const (.int 1))) (.cmp .Eq (.var 11) (.const (.int 2)))) [.set 9 (.bin .Mod (.bi .int [.ix (.var 4) (.bin .Add (.const (.int 10)) (.var 11))]) (.bi .len [.var 7])), .set 13 (.ite (.cmp .Eq (.var 11) (.const (.int 1))) (.bin .Sub (.bin .Mod (.bi .int [.ix (.var 4) (.bin .Add (.const (.int 13)) (.var 11))]) (.const (.int 3))) (.const (.int 1))) (.const (.int 1))), .set 12 (.bin .Add (.bin .Add (.sl (.var 7) none (some (.var 9))) (.tup [.bin .Add (.ix (.var 7) (.var 9)) (.var 13)])) (.sl (.var 7) (some (.bin .Add (.var 9) (.const (.int 1)))) none))] [], .ifs (.cmp .Eq (.var 11) (.const (.int 3))) [.set 12 (.bi .tuple [.comp [9] (.bin .Sub (.bin .Mod (.bi .int [.ix (.var 4) (.bin .Add (.const (.int 20)) (.var 9))]) (.const (.int 12))) (.ite (.cmp .Gt (.var 9) (.const (.int 0))) (.const (.int 1)) (.const (.int 0)))) [.mk (.name 9) (.range [.bi .len [.var 7]]) []]])] []]
def fore18 : List Pi.S := [.set 3 (.ix (.tup [.const (.int 3), .const (.int 2), .const (.int 4), .const (.int 5), .const (.int 1), .const (.int 0)]) (.bin .Mod (.bi .int [.ix (.var 1) (.var 2)]) (.const (.int 6)))), .set 4 (.call 11 [.call 10 [.var 0, .bin .Add (.const (.int 1)) (.var 2)], .const (.int 60)]), .frz 3, .set 5 (.call 16 [.var 3]), .frz 3, .set 6 (.bi .tuple [.comp [9] (.call 14 [.bin .FloorDiv (.bi .int [.ix (.var 4) (.var 9)]) (.const (.int 3)), .var 3]) [.mk (.name 9) (.range [.bin .Mod (.bi .int [.ix (.var 1) (.bin .Add (.const (.int 3)) (.var 2))]) (.const (.int 7))]) []]]), .set 7 (.bi .tuple [.comp [18] (.bi .len [.comp [20] (.var 20) [.mk (.name 20) (.seq (.var 6)) [.call 15 [.var 18, .var 20]]]]) [.mk (.name 18) (.seq (.var 5)) []]]), .set 8 (.bi .tuple [.comp [18] (.bi .len [.comp [20] (.var 20) [.mk (.name 20) (.seq (.var 6)) [.cmp .Eq (.var 20) (.var 18)]]]) [.mk (.name 18) (.seq (.var 5)) []]]), .frz 3, .frz 6, .frz 7, .frz 8, .ifs (.or (.not (.call 13 [.call 6 [.tup [.var 3, .var 6]], .var 7])) (.not (.call 13 [.call 7 [.var 3, .var 7], .var 8]))) [.ret (.const (.bool false))] [], .set 9 (.bin .Mod (.bi .int [.ix (.var 1) (.bin .Add (.const (.int 6)) (.var 2))]) (.bi .len [.var 5])), .set 10 (.bi .tuple [.comp [19] (.var 19) [.mk (.name 19) (.range [.bi .len [.var 6]]) [.call 15 [.ix (.var 5) (.var 9), .ix (.var 6) (.var 19)]]]]), .frz 3, .frz 6, .frz 10, .ifs (.not (.call 13 [.call 2 [.tup [.var 3, .var 6], .ix (.var 5) (.var 9)], .var 10])) [.ret (.const (.bool false))] []]
theorem lks_e (m : Nat) (hm : m ≤ 5) (xs : List Int) (hx : xs.length = 2 ^ m) (c0 c1 c2 c3 c4 c6 c7 c8 c9 c10 c11 c12 c13 c15 c16 c17 c18 c19 c20 : Cell) : EvE G7 [c0, c1, c2, c3, c4, .ow ((S m).map eI), c6, c7, c8, c9, c10, c11, c12, c13, .fr (eI xs), c15, c16, c17, c18, c19, c20] (.comp [9] (.ix (.var 5) (.var 9)) [.mk (.name 9) (.range [.bi .len [.var 5]]) [.cmp .Lt (.ix (.var 14) (.var 9)) (.const (.int 0))]]) (.new (lkD (S m) xs)) := by
  have hz := sizeLine_big
  have hS := S_len m
  have h32 : (2 : Nat) ^ m ≤ 2 ^ 5 := Nat.pow_le_pow_right (by omega) hm
  refine e_comp (xs := (List.range (S m).length).map fun (k : Nat) => .int k) (i_range1 (n := (S m).length) ?_ (by omega)) (collect_filter (p := fun k => decide (xs.getD k 0 < 0)) (g := fun k => eI ((S m).getD k [])) (fun k hk => ?_) (by rw [List.length_range]; omega))
  · have := b_bi (Γ := G7) (l_cons (b_ow (ρ := [c0, c1, c2, c3, c4, .ow ((S m).map eI), c6, c7, c8, c9, c10, c11, c12, c13, .fr (eI xs), c15, c16, c17, c18, c19, c20]) (i := 5) rfl) l_nil) bi_lenL
    rw [List.length_map] at this
    exact this
  · have hk := List.mem_range.mp hk
    refine c_elemIf rfl (t_of (b_cmp (b_ix (b_fr rfl) (b_fr rfl) (eI_ixD xs k (by omega))) b_const cmp_lt) tru_bool) fun _ => e_ix (b_ow rfl) (b_fr rfl) (S_ixD m k (by omega))
theorem first_e {Γ : Gm} {ρ : List Cell} (ss : List (List Int)) (xs : List Int) (hl : ss.length = xs.length) (h : ρ[15]? = some (.ow (lkD ss xs))) : EvE Γ ρ (.ite (.cmp .Gt (.bi .len [.var 15]) (.const (.int 0))) (.ix (.var 15) (.const (.int 0))) (.const .none)) (.val (oS (lack ss xs))) := by
  rcases lk_head ss xs hl with ⟨h1, h2⟩ | ⟨s, r, h1, h2⟩
  · rw [h2] at h
    rw [h1]
    exact e_iteF (t_of (b_cmp (b_bi (l_cons (b_ow h) l_nil) bi_lenL) b_const cmp_gt) rfl) e_const
  · rw [h2] at h
    rw [h1]
    refine e_iteT (t_of (b_cmp (b_bi (l_cons (b_ow h) l_nil) bi_lenL) b_const cmp_gt) ?_) (e_ix (b_ow h) b_const (show ixD (.list (eI s :: r)) ((0 : Nat) : Int) = _ from atI_at rfl))
    refine congrArg some (decide_eq_true ?_)
    simp only [List.length_cons]
    omega
theorem mloop (m : Nat) (hm : m ≤ 5) (xs : List Int) (hx : xs.length = 2 ^ m) (hb : ∀ x ∈ xs, x ≤ 3000) (c0 c1 c2 c3 c4 c6 c7 c8 c9 c10 c11 c12 c13 c15 c17 c18 c19 c20 : Cell) : ∃ d9, loopS (bodyS G7 body16) (.name 9) ((List.range (S m).length).map fun (k : Nat) => .int k) [c0, c1, c2, c3, c4, .ow ((S m).map eI), c6, c7, c8, c9, c10, c11, c12, c13, .fr (eI xs), c15, .ow [], c17, c18, c19, c20] = some (.nx [c0, c1, c2, c3, c4, .ow ((S m).map eI), c6, c7, c8, d9, c10, c11, c12, c13, .fr (eI xs), c15, .ow ((made (S m) xs).map eI), c17, c18, c19, c20]) := by
  have hz := sizeLine_big
  have hS := S_len m
  have h32 : (2 : Nat) ^ m ≤ 2 ^ 5 := Nat.pow_le_pow_right (by omega) hm
  obtain ⟨ρ, h1, d9, h2⟩ := loop_inv (f := bodyS G7 body16) (tg := .name 9) (fun j ρ => ∃ d9, ρ = [c0, c1, c2, c3, c4, .ow ((S m).map eI), c6, c7, c8, d9, c10, c11, c12, c13, .fr (eI xs), c15, .ow ((made ((S m).take j) (xs.take j)).map eI), c17, c18, c19, c20])
    (ds := (List.range (S m).length).map fun (k : Nat) => .int k) (ρ := [c0, c1, c2, c3, c4, .ow ((S m).map eI), c6, c7, c8, c9, c10, c11, c12, c13, .fr (eI xs), c15, .ow [], c17, c18, c19, c20]) ⟨c9, rfl⟩ (fun j d r hd ⟨d9, e⟩ => by
      subst e
      obtain ⟨rfl, hj⟩ := range_at hd
      have hx3 : xs.getD j 0 ≤ 3000 := by
        rw [List.getD_eq_getElem?_getD, List.getElem?_eq_getElem (by omega : j < xs.length)]
        exact hb _ (List.getElem_mem _)
      have hml := made_len ((S m).take j) (xs.take j) 3000 (by omega) (fun x hx' => hb x (List.mem_of_mem_take hx'))
      rw [List.length_take] at hml
      refine ⟨_, rfl, _, .inl (EvSs.h (s_set (r := .new ((made ((S m).take j) (xs.take j)).map eI ++ (List.replicate (xs.getD j 0).toNat ((S m).getD j [])).map eI)) (e_bin (b_ow rfl) (b_new (ds := (List.replicate (xs.getD j 0).toNat ((S m).getD j [])).map eI) (e_bin (b_lst (a_consV (e_ix (b_ow rfl) (b_fr rfl) (S_ixD m j (by omega))) a_nil) ?_) (b_bi (l_cons b_const (l_cons (b_ix (b_fr rfl) (b_fr rfl) (eI_ixD xs j (by omega))) l_nil)) bi_max) ?_)) ?_) s_nil)), .fr (.int j), ?_⟩
      · show 1 ≤ sizeLine
        omega
      · rw [← mx (xs.getD j 0)]
        exact bin_rep _ _ (by split <;> omega) (by split <;> omega)
      · exact bin_lst (by rw [List.length_map, List.length_map, List.length_replicate]; omega)
      · rw [made_take j (S m) xs hj (by omega), List.map_append]
        rfl)
  rw [List.length_map, List.length_range, List.take_length, show (S m).length = xs.length by omega, List.take_length] at h2
  subst h2
  exact ⟨d9, h1⟩
theorem tail_run (m : Nat) (hm : m ≤ 5) (gc : List Int) (h : gc.length = 2 ^ m) (hb : ∀ x ∈ exF m gc, x ≤ 3000) (c0 c1 c2 c4 c6 c7 c8 c9 c10 c11 c13 c14 c15 c16 c17 c18 c19 c20 : Cell) : ∃ d9 d14 d15 d16 d17, EvSs G7 [c0, c1, c2, .fr (.int m), c4, .ow ((S m).map eI), c6, c7, c8, c9, c10, c11, .fr (eI gc), c13, c14, c15, c16, c17, c18, c19, c20] tail18 (.nx [c0, c1, c2, .fr (.int m), c4, .ow ((S m).map eI), c6, c7, c8, d9, c10, c11, .fr (eI gc), c13, d14, d15, d16, d17, c18, c19, c20]) := by
  have hz := sizeLine_big
  have hS := S_len m
  have h32 : (2 : Nat) ^ m ≤ 2 ^ 5 := Nat.pow_le_pow_right (by omega) hm
  have hx : (exF m gc).length = 2 ^ m := exF_len m gc
  obtain ⟨d9, hloop⟩ := mloop m hm (exF m gc) hx hb c0 c1 c2 (.fr (.int m)) c4 c6 c7 c8 c9 c10 c11 (.fr (eI gc)) c13 (.ow (lkD (S m) (exF m gc))) c17 c18 c19 c20
  have hlen := made_len (S m) (exF m gc) 3000 (by omega) hb
  have hml : (made (S m) (exF m gc)).length ≤ 100000 := by omega
  have hmok : ∀ r ∈ made (S m) (exF m gc), okD (eI r) = true := fun r hr => S_okD m hm r (made_mem _ _ r hr)
  obtain ⟨ht1, ht2⟩ := okD_tbl m (made (S m) (exF m gc)) hml hmok
  refine ⟨d9, .fr (eI (exF m gc)), .ow (lkD (S m) (exF m gc)), .ow ((made (S m) (exF m gc)).map eI), .fr (told m (exF m gc)), ?_⟩
  refine s_frzF rfl (s_frzF rfl (s_set (e_callR (a_consV (e_var rfl) (a_consV (e_var rfl) a_nil)) (law_run 6 m hm gc h)) (s_set (lks_e m hm (exF m gc) hx c0 c1 c2 (.fr (.int m)) c4 c6 c7 c8 c9 c10 c11 (.fr (eI gc)) c13 c15 c16 c17 c18 c19 c20) ?_)))
  refine s_frzF rfl (s_frzF rfl (s_frzF rfl (s_ifF (t_of (b_not (b_callR (a_consV (e_callR (a_consV (e_var rfl) (a_consV (e_var rfl) a_nil)) (ex_run 2 m hm gc h)) (a_consV (e_var rfl) a_nil)) (is_run 1 4 _ (okD_c m hm _ hx) (by rw [depth_eI]; exact Nat.le_refl _))) tru_bool) rfl) ?_)))
  refine s_frzF rfl (s_frzF rfl (s_ifF (t_of (b_not (b_callR (a_consV (e_callR (a_consV (e_var rfl) (a_consV (e_var rfl) a_nil)) (lack_run 1 m hm gc h)) (a_consV (first_e (S m) (exF m gc) (hS.trans hx.symm) rfl) a_nil)) (is_run 1 4 _ (oS_ok m hm _).1 (oS_ok m hm _).2)) tru_bool) rfl) ?_))
  refine s_set (e_lst a_nil (Nat.zero_le _)) (s_loop (i_range1 (n := (S m).length) ?hr (by omega)) hloop ?_)
  case hr =>
    have := b_bi (Γ := G7) (l_cons (b_ow (ρ := [c0, c1, c2, .fr (.int m), c4, .ow ((S m).map eI), c6, c7, c8, c9, c10, c11, .fr (eI gc), c13, .fr (eI (exF m gc)), .ow (lkD (S m) (exF m gc)), .ow [], c17, c18, c19, c20]) (i := 5) rfl) l_nil) bi_lenL
    rw [List.length_map] at this
    exact this
  refine s_frzF rfl (s_frzF rfl (s_set (e_callR (a_consV (e_var rfl) (a_consV (e_var rfl) a_nil)) (table_run 0 m hm gc h hb)) ?_))
  rcases lk_head (S m) (exF m gc) (hS.trans hx.symm) with ⟨h1, h2⟩ | ⟨s, r, h1, h2⟩
  · have htl : told m (exF m gc) = tbl m (made (S m) (exF m gc)) := by unfold told; rw [h1]
    have h0 := lack_none (hS.trans hx.symm) h1
    rw [h2, htl]
    refine s_frzF rfl (s_frzF rfl (s_ifF (t_of (b_not (b_callR (a_consV (e_var rfl) (a_consV (d := tbl m (made (S m) (exF m gc))) (e_iteT (t_of (b_cmp (b_bi (l_cons (b_ow rfl) l_nil) bi_lenL) b_const (cmp_eqI _ _)) rfl) (e_tup (a_consV (e_var rfl) (a_consV (e_bi (l_cons (b_ow rfl) l_nil) bi_tupL) a_nil)) ?_)) a_nil)) (is_run 3 2 _ ht1 ht2)) tru_bool) rfl) ?_))
    · show 2 ≤ sizeLine
      omega
    refine s_frzF rfl (s_frzF rfl (s_ifF (t_of (b_val (e_and (y := false) (b_cmp (b_fr rfl) b_const cmp_isnot) fun _ => ?_)) (by rw [Bool.and_false]; rfl)) s_nil))
    have hlt := b_cmp (Γ := G7) (b_bi (Γ := G7) (l_cons (b_ow (ρ := [c0, c1, c2, .fr (.int m), c4, .ow ((S m).map eI), c6, c7, c8, d9, c10, c11, .fr (eI gc), c13, .fr (eI (exF m gc)), .ow [], .ow ((made (S m) (exF m gc)).map eI), .fr (tbl m (made (S m) (exF m gc))), c18, c19, c20]) (i := 16) rfl) l_nil) bi_lenL) (b_const (d := .int 7)) cmp_lt
    have := e_and (y := false) hlt (b := .not (.call 13 [.call 6 [.var 17], .var 12])) fun _ => ?_
    · rw [Bool.and_false] at this
      exact this
    · refine e_not (b := true) (b_callR (a_consV (e_callR (a_consV (e_var rfl) a_nil) (counts_at 2 m hm _ hml)) (a_consV (e_var rfl) a_nil)) ?_) tru_bool
      have hc : ((S m).map fun s => (cnt s (made (S m) (exF m gc)) : Int)) = gc := cts_made m hm gc h h0
      rw [hc]
      exact is_run 1 4 _ (okD_c m hm _ h) (by rw [depth_eI]; exact Nat.le_refl _)
  · have htl : told m (exF m gc) = .none := by unfold told; rw [h1]
    rw [h2, htl]
    refine s_frzF rfl (s_frzF rfl (s_ifF (t_of (b_not (b_callR (a_consV (e_var rfl) (a_consV (d := .none) (e_iteF (t_of (b_cmp (b_bi (l_cons (b_ow rfl) l_nil) bi_lenL) b_const (cmp_eqI _ _)) ?_) e_const) a_nil)) (is_run 0 5 .none rfl (Nat.zero_le _))) tru_bool) rfl) ?_))
    · refine congrArg some (beq_eq_false_iff_ne.mpr ?_)
      simp only [List.length_cons]
      omega
    exact s_frzF rfl (s_frzF rfl (s_ifF (t_of (b_val (e_andF (b_cmp (b_fr rfl) b_const cmp_isnot))) rfl) s_nil))
end K53
end
section
set_option Elab.async false
set_option linter.all false
set_option maxRecDepth 100000
set_option maxHeartbeats 2000000
namespace K53
open PySem PySem.Spec Pi
theorem cut_to {α : Type} (xs : List α) (k : Nat) (h : k < xs.length) : cutD xs none (some (k : Int)) = xs.take k := by
  unfold cutD
  rw [HT.sIx_none, HT.sIx_nat, List.drop_zero, Nat.sub_zero, Nat.min_eq_left (by omega)]
theorem cut_from {α : Type} (xs : List α) (k : Nat) (h : k < xs.length) : cutD xs (some ((k : Int) + 1)) none = xs.drop (k + 1) := by
  unfold cutD
  rw [show (k : Int) + 1 = ((k + 1 : Nat) : Int) from rfl, HT.sIx_none, HT.sIx_nat, Nat.min_eq_left (by omega)]
  exact List.take_of_length_le (by rw [List.length_drop]; omega)
def stepped (c : List Int) (k : Nat) (s : Int) : List Int := c.take k ++ ([c.getD k 0 + s] ++ c.drop (k + 1))
theorem stepped_len (c : List Int) (k : Nat) (s : Int) (h : k < c.length) : (stepped c k s).length = c.length := by
  unfold stepped
  simp only [List.length_append, List.length_take, List.length_singleton, List.length_drop]
  omega
theorem getD_mem {c : List Int} {k : Nat} (h : k < c.length) : c.getD k 0 ∈ c := by
  rw [List.getD_eq_getElem?_getD, List.getElem?_eq_getElem h]
  exact List.getElem_mem _
theorem stepped_bound (c : List Int) (k : Nat) (s : Int) (h : k < c.length) (hc : ∀ x ∈ c, 0 ≤ x ∧ x ≤ 6) (hs : -1 ≤ s ∧ s ≤ 1) : ∀ x ∈ stepped c k s, -12 ≤ x ∧ x ≤ 12 := by
  intro x hx
  unfold stepped at hx
  rcases List.mem_append.mp hx with hx | hx
  · have := hc x (List.mem_of_mem_take hx); omega
  rcases List.mem_append.mp hx with hx | hx
  · have e : x = c.getD k 0 + s := List.mem_singleton.mp hx
    have := hc _ (getD_mem h); omega
  · have := hc x (List.mem_of_mem_drop hx); omega
theorem ow_ixD (ps : List Int) (k : Nat) (h : k < ps.length) : ixD (.list (ps.map .int)) (k : Int) = some (.int (ps.getD k 0)) := by
  refine atI_at ?_
  rw [List.getElem?_map, List.getElem?_eq_getElem h, List.getD_eq_getElem?_getD, List.getElem?_eq_getElem h]
  rfl
theorem mod_nat (p : Int) (n : Nat) (h : 0 < n) : ∃ k : Nat, k < n ∧ p % (n : Int) = (k : Int) := by
  have h1 := Int.emod_nonneg p (b := (n : Int)) (by omega)
  have h2 := Int.emod_lt_of_pos p (b := (n : Int)) (by omega)
  exact ⟨(p % (n : Int)).toNat, by omega, by omega⟩
/-- counts that a turn gives -/
structure Gv (m : Nat) (gc : List Int) : Prop where
  len : gc.length = 2 ^ m
  bd : ∀ x ∈ gc, -12 ≤ x ∧ x ≤ 12
theorem gv_ex {m : Nat} (hm : m ≤ 5) {gc : List Int} (h : Gv m gc) : ∀ x ∈ exF m gc, x ≤ 3000 := fun x hx => by
  have := ex_bound m hm gc 12 (by omega) h.bd x hx
  omega
theorem sl_e {Γ : Gm} {ρ : List Cell} {c : List Int} {k : Nat} {s : Int} (hk : k < c.length) (hl : c.length ≤ 100000) (h7 : ρ[7]? = some (.fr (eI c))) (h9 : ρ[9]? = some (.fr (.int k))) (h13 : ρ[13]? = some (.fr (.int s))) : EvE Γ ρ (.bin .Add (.bin .Add (.sl (.var 7) none (some (.var 9))) (.tup [.bin .Add (.ix (.var 7) (.var 9)) (.var 13)])) (.sl (.var 7) (some (.bin .Add (.var 9) (.const (.int 1)))) none)) (.val (eI (stepped c k s))) := by
  have hz := sizeLine_big
  have hk' : k < (c.map PyData.int).length := by rw [List.length_map]; exact hk
  have e1 : slD (eI c) none (some (k : Int)) = some (.val (.tuple ((c.map .int).take k))) := by
    show some (Res.val (.tuple (cutD (c.map PyData.int) none (some (k : Int))))) = _
    rw [cut_to _ _ hk']
  have e2 : slD (eI c) (some ((k : Int) + 1)) none = some (.val (.tuple ((c.map .int).drop (k + 1)))) := by
    show some (Res.val (.tuple (cutD (c.map PyData.int) (some ((k : Int) + 1)) none))) = _
    rw [cut_from _ _ hk']
  have := e_bin (Γ := Γ) (b_bin (b_val (e_sl (b_fr h7) o_none (o_some (b_fr h9)) e1)) (b_tup (a_consV (e_bin (b_ix (b_fr h7) (b_fr h9) (eI_ixD c k hk)) (b_fr h13) bin_add) a_nil) (show 1 ≤ sizeLine by omega)) (bin_tup (by rw [List.length_take, List.length_singleton]; omega))) (b_val (e_sl (b_fr h7) (o_some (b_bin (b_fr h9) (b_const (d := .int 1)) bin_add)) o_none e2)) (bin_tup (by rw [List.length_append, List.length_take, List.length_singleton, List.length_drop]; rw [List.length_map]; omega))
  have e3 : (c.map PyData.int).take k ++ [PyData.int (c.getD k 0 + s)] ++ (c.map PyData.int).drop (k + 1) = (stepped c k s).map .int := by
    unfold stepped
    rw [List.map_append, List.map_append, List.map_take, List.map_drop, List.append_assoc]
    rfl
  rw [e3] at this
  exact this
theorem head_run (m : Nat) (hm : m ≤ 5) (c ps : List Int) (h : c.length = 2 ^ m) (hc : ∀ x ∈ c, 0 ≤ x ∧ x ≤ 6) (hp : ps.length = 60) (t : Nat) (ht : t < 4) (c0 c1 c2 c5 c6 c8 c9 c10 c12 c13 c14 c15 c16 c17 c18 c19 c20 : Cell) : ∃ gc d9 d13, Gv m gc ∧ ∀ ss o, EvSs G7 [c0, c1, c2, .fr (.int m), .ow (ps.map .int), c5, c6, .fr (eI c), c8, d9, c10, .fr (.int t), .fr (eI gc), d13, c14, c15, c16, c17, c18, c19, c20] ss o → EvSs G7 [c0, c1, c2, .fr (.int m), .ow (ps.map .int), c5, c6, .fr (eI c), c8, c9, c10, .fr (.int t), c12, c13, c14, c15, c16, c17, c18, c19, c20] (head18 ++ ss) o := by
  have hz := sizeLine_big
  have h32 : (2 : Nat) ^ m ≤ 2 ^ 5 := Nat.pow_le_pow_right (by omega) hm
  have hpos : 0 < (2 : Nat) ^ m := Nat.pow_pos (by omega)
  have hcl : (c.map PyData.int).length = 2 ^ m := by rw [List.length_map, h]
  have g0 : Gv m c := ⟨h, fun x hx => by have := hc x hx; omega⟩
  have lenb : ∀ ρ : List Cell, ρ[7]? = some (.fr (eI c)) → EvB G7 ρ (.bi .len [.var 7]) (.int ((2 ^ m : Nat) : Int)) := fun ρ hρ => by
    have := b_bi (Γ := G7) (l_cons (b_fr hρ) l_nil) bi_lenT
    rw [hcl] at this
    exact this
  match t, ht with
  | 0, _ =>
    refine ⟨c, c9, c13, g0, fun ss o k => ?_⟩
    exact s_frzF rfl (s_set (e_var rfl) (s_ifF (t_of (b_val (e_or (b_cmp (b_fr rfl) b_const (cmp_eqI _ _)) fun _ => e_cmp (b_fr rfl) b_const (cmp_eqI _ _))) rfl) (s_ifF (t_of (b_cmp (b_fr rfl) b_const (cmp_eqI _ _)) rfl) k)))
  | 1, _ =>
    obtain ⟨at', hk, e⟩ := mod_nat (ps.getD 11 0) (2 ^ m) hpos
    have hs1 := Int.emod_nonneg (ps.getD 14 0) (b := 3) (by omega)
    have hs2 := Int.emod_lt_of_pos (ps.getD 14 0) (b := 3) (by omega)
    refine ⟨stepped c at' (ps.getD 14 0 % 3 - 1), .fr (.int at'), .fr (.int (ps.getD 14 0 % 3 - 1)), ⟨by rw [stepped_len _ _ _ (by omega), h], stepped_bound c at' _ (by omega) hc (by omega)⟩, fun ss o k => ?_⟩
    refine s_frzF rfl (s_set (e_var rfl) (s_ifT (t_of (b_val (e_or (b_cmp (b_fr rfl) b_const (cmp_eqI _ _)) fun _ => e_cmp (b_fr rfl) b_const (cmp_eqI _ _))) rfl) (s_set (r := .val (.int at')) (e_bin (b_bi (l_cons (b_ix (b_ow rfl) (b_bin b_const (b_fr rfl) bin_add) (ow_ixD ps 11 (by omega))) l_nil) bi_int) (lenb _ rfl) (by rw [bin_mod (by omega), e])) (s_set (r := .val (.int (ps.getD 14 0 % 3 - 1))) (e_iteT (t_of (b_cmp (b_fr rfl) b_const (cmp_eqI _ _)) rfl) (e_bin (b_bin (b_bi (l_cons (b_ix (b_ow rfl) (b_bin b_const (b_fr rfl) bin_add) (ow_ixD ps 14 (by omega))) l_nil) bi_int) b_const (bin_mod' rfl)) b_const bin_sub)) (s_set (sl_e (by omega) (by omega) rfl rfl rfl) (s_ifF (t_of (b_cmp (b_fr rfl) b_const (cmp_eqI _ _)) rfl) k))))))
  | 2, _ =>
    obtain ⟨at', hk, e⟩ := mod_nat (ps.getD 12 0) (2 ^ m) hpos
    refine ⟨stepped c at' 1, .fr (.int at'), .fr (.int 1), ⟨by rw [stepped_len _ _ _ (by omega), h], stepped_bound c at' _ (by omega) hc (by omega)⟩, fun ss o k => ?_⟩
    refine s_frzF rfl (s_set (e_var rfl) (s_ifT (t_of (b_val (e_or (b_cmp (b_fr rfl) b_const (cmp_eqI _ _)) fun _ => e_cmp (b_fr rfl) b_const (cmp_eqI _ _))) rfl) (s_set (r := .val (.int at')) (e_bin (b_bi (l_cons (b_ix (b_ow rfl) (b_bin b_const (b_fr rfl) bin_add) (ow_ixD ps 12 (by omega))) l_nil) bi_int) (lenb _ rfl) (by rw [bin_mod (by omega), e])) (s_set (r := .val (.int 1)) (e_iteF (t_of (b_cmp (b_fr rfl) b_const (cmp_eqI _ _)) rfl) e_const) (s_set (sl_e (by omega) (by omega) rfl rfl rfl) (s_ifF (t_of (b_cmp (b_fr rfl) b_const (cmp_eqI _ _)) rfl) k))))))
  | 3, _ =>
    refine ⟨(List.range (2 ^ m)).map fun j => ps.getD (20 + j) 0 % 12 - (if j > 0 then 1 else 0), c9, c13, ⟨by simp, fun x hx => ?_⟩, fun ss o k => ?_⟩
    · obtain ⟨j, _, rfl⟩ := List.mem_map.mp hx
      have hs1 := Int.emod_nonneg (ps.getD (20 + j) 0) (b := 12) (by omega)
      have hs2 := Int.emod_lt_of_pos (ps.getD (20 + j) 0) (b := 12) (by omega)
      split <;> omega
    · refine s_frzF rfl (s_set (e_var rfl) (s_ifF (t_of (b_val (e_or (b_cmp (b_fr rfl) b_const (cmp_eqI _ _)) fun _ => e_cmp (b_fr rfl) b_const (cmp_eqI _ _))) rfl) (s_ifT (t_of (b_cmp (b_fr rfl) b_const (cmp_eqI _ _)) rfl) (s_set (r := .val (eI ((List.range (2 ^ m)).map fun j => ps.getD (20 + j) 0 % 12 - (if j > 0 then 1 else 0)))) (e_bi (l_cons (b_new (e_comp (i_range1 (lenb _ rfl) (by omega)) (collect_map (g := fun (j : Nat) => .int (ps.getD (20 + j) 0 % 12 - (if j > 0 then 1 else 0))) (fun j hj => ?_) (by rw [List.length_range]; omega)))) l_nil) ?_) k))))
      · have hj := List.mem_range.mp hj
        have := e_ite (Γ := G7) (c := .cmp .Gt (.var 9) (.const (.int 0))) (t := decide ((0 : Int) < j)) (t_of (b_cmp (b_fr (ρ := [c0, c1, c2, .fr (.int m), .ow (ps.map .int), c5, c6, .fr (eI c), c8, .fr (.int j), c10, .fr (.int 3), .fr (eI c), c13, c14, c15, c16, c17, c18, c19, c20]) rfl) b_const cmp_gt) tru_bool) (a := .const (.int 1)) (b := .const (.int 0)) (fun _ => e_const) (fun _ => e_const)
        have e : (if decide ((0 : Int) < j) then PyData.int 1 else PyData.int 0) = PyData.int (if j > 0 then 1 else 0) := by
          by_cases hj0 : j > 0
          · rw [if_pos hj0, if_pos (decide_eq_true (by omega))]
          · rw [if_neg hj0, if_neg (by simp; omega)]
        rw [e] at this
        exact c_elem (r := .val _) rfl (e_bin (b_bin (b_bi (l_cons (b_ix (b_ow rfl) (b_bin b_const (b_fr rfl) bin_add) (ow_ixD ps (20 + j) (by omega))) l_nil) bi_int) b_const (bin_mod' rfl)) (b_val this) bin_sub)
      · rw [bi_tupL]
        simp only [eI, List.map_map]
        rfl
  | n + 4, ht => omega
end K53
end
section
set_option Elab.async false
set_option linter.all false
set_option maxRecDepth 100000
set_option maxHeartbeats 2000000
namespace K53
open PySem PySem.Spec Pi
def inner18 : Pi.S := .loop (.name 11) (.range [.const (.int 4)]) (head18 ++ tail18)
theorem inner_run (m : Nat) (hm : m ≤ 5) (c ps : List Int) (h : c.length = 2 ^ m) (hc : ∀ x ∈ c, 0 ≤ x ∧ x ≤ 6) (hp : ps.length = 60) (c0 c1 c2 c6 c8 c9 c10 c11 c12 c13 c14 c15 c16 c17 c18 c19 c20 : Cell) : ∃ d9 d11 d12 d13 d14 d15 d16 d17, EvSs G7 [c0, c1, c2, .fr (.int m), .ow (ps.map .int), .ow ((S m).map eI), c6, .fr (eI c), c8, c9, c10, c11, c12, c13, c14, c15, c16, c17, c18, c19, c20] [inner18] (.nx [c0, c1, c2, .fr (.int m), .ow (ps.map .int), .ow ((S m).map eI), c6, .fr (eI c), c8, d9, c10, d11, d12, d13, d14, d15, d16, d17, c18, c19, c20]) := by
  obtain ⟨ρ, h1, d9, d11, d12, d13, d14, d15, d16, d17, h2⟩ := loop_inv (f := bodyS G7 (head18 ++ tail18)) (tg := .name 11) (fun j ρ => ∃ d9 d11 d12 d13 d14 d15 d16 d17, ρ = [c0, c1, c2, .fr (.int m), .ow (ps.map .int), .ow ((S m).map eI), c6, .fr (eI c), c8, d9, c10, d11, d12, d13, d14, d15, d16, d17, c18, c19, c20])
    (ds := (List.range 4).map fun (k : Nat) => .int k) (ρ := [c0, c1, c2, .fr (.int m), .ow (ps.map .int), .ow ((S m).map eI), c6, .fr (eI c), c8, c9, c10, c11, c12, c13, c14, c15, c16, c17, c18, c19, c20]) ⟨c9, c11, c12, c13, c14, c15, c16, c17, rfl⟩ (fun j d r hd ⟨d9, d11, d12, d13, d14, d15, d16, d17, e⟩ => by
      subst e
      obtain ⟨rfl, hj⟩ := range_at hd
      obtain ⟨gc, e9, e13, hg, k⟩ := head_run m hm c ps h hc hp j hj c0 c1 c2 (.ow ((S m).map eI)) c6 c8 d9 c10 d12 d13 d14 d15 d16 d17 c18 c19 c20
      obtain ⟨f9, f14, f15, f16, f17, t⟩ := tail_run m hm gc hg.len (gv_ex hm hg) c0 c1 c2 (.ow (ps.map .int)) c6 (.fr (eI c)) c8 e9 c10 (.fr (.int j)) e13 d14 d15 d16 d17 c18 c19 c20
      exact ⟨_, rfl, _, .inl (EvSs.h (k _ _ t)), f9, .fr (.int j), .fr (eI gc), e13, f14, f15, f16, f17, rfl⟩)
  subst h2
  exact ⟨d9, d11, d12, d13, d14, d15, d16, d17, s_loop (i_range1 (n := 4) b_const (by omega)) h1 s_nil⟩
/-! ### the fore part of a round -/
def mm (q : Nat) : Nat := [3, 2, 4, 5, 1, 0].getD q 0
theorem mm_ix (q : Nat) (h : q < 6) : ixD (.tuple [.int 3, .int 2, .int 4, .int 5, .int 1, .int 0]) (q : Int) = some (.int (mm q)) ∧ mm q ≤ 5 := by
  refine ⟨atI_at ?_, ?_⟩
  · match q, h with
    | 0, _ => rfl
    | 1, _ => rfl
    | 2, _ => rfl
    | 3, _ => rfl
    | 4, _ => rfl
    | 5, _ => rfl
  · match q, h with
    | 0, _ => decide
    | 1, _ => decide
    | 2, _ => decide
    | 3, _ => decide
    | 4, _ => decide
    | 5, _ => decide
theorem brs_range (s : List Int) (rows : List (List Int)) : ((List.range rows.length).filter fun j => sub s (rows.getD j [])).map (fun (j : Nat) => PyData.int j) = (brs s rows).map .int := by
  have e : rows.zipIdx = (List.range rows.length).map fun j => (rows.getD j [], j) := by
    apply List.ext_getElem
    · simp
    · intro i h1 h2
      have h3 : i < rows.length := by simpa using h1
      simp [List.getD_eq_getElem?_getD, h3]
  unfold brs
  rw [e, List.filter_map, List.map_map, List.map_map]
  rfl
theorem cnt_e (rows : List (List Int)) (hr : rows.length ≤ 100) (s : List Int) (hs : s.length ≤ 100) (c0 c1 c2 c3 c4 c5 c7 c8 c9 c10 c11 c12 c13 c14 c15 c16 c17 c19 c20 : Cell) : EvE G7 [c0, c1, c2, c3, c4, c5, .fr (.tuple (rows.map eI)), c7, c8, c9, c10, c11, c12, c13, c14, c15, c16, c17, .fr (eI s), c19, c20] (.bi .len [.comp [20] (.var 20) [.mk (.name 20) (.seq (.var 6)) [.call 15 [.var 18, .var 20]]]]) (.val (.int (cnt s rows))) := by
  have hz := sizeLine_big
  refine e_bi (l_cons (b_new (e_comp (i_bor (b_fr rfl) rfl) (collect_filter (p := sub s) (g := eI) (fun r _ => c_elemIf rfl (t_of (b_callR (a_consV (e_var rfl) (a_consV (e_var rfl) a_nil)) (lin_run 6 s r (by omega))) tru_bool) fun _ => e_var rfl) (by omega)))) l_nil) ?_
  rw [bi_lenL, List.length_map]
  rfl
theorem eqs_e (rows : List (List Int)) (hr : rows.length ≤ 100) (s : List Int) (c0 c1 c2 c3 c4 c5 c7 c8 c9 c10 c11 c12 c13 c14 c15 c16 c17 c19 c20 : Cell) : EvE G7 [c0, c1, c2, c3, c4, c5, .fr (.tuple (rows.map eI)), c7, c8, c9, c10, c11, c12, c13, c14, c15, c16, c17, .fr (eI s), c19, c20] (.bi .len [.comp [20] (.var 20) [.mk (.name 20) (.seq (.var 6)) [.cmp .Eq (.var 20) (.var 18)]]]) (.val (.int ((rows.filter fun r => r == s).length : Nat))) := by
  have hz := sizeLine_big
  refine e_bi (l_cons (b_new (e_comp (i_bor (b_fr rfl) rfl) (collect_filter (p := fun r => r == s) (g := eI) (fun r _ => c_elemIf rfl (t_of (b_cmp (b_fr rfl) (b_fr rfl) (cmp_eq (shaped_eI r) (shaped_eI s))) (by rw [eqv_eI]; exact tru_bool)) fun _ => e_var rfl) (by omega)))) l_nil) ?_
  rw [bi_lenL, List.length_map]
theorem fore_run {sc : PyData} {ns : List Int} (hsc : IsScr sc ns) (dr : List Int) (hd : dr.length = 60) (k : Nat) (hk : k < 3) (c3 c4 c5 c6 c7 c8 c9 c10 c11 c12 c13 c14 c15 c16 c17 c18 c19 c20 : Cell) : ∃ m c ps d6 d8 d9 d10, m ≤ 5 ∧ c.length = 2 ^ m ∧ (∀ x ∈ c, 0 ≤ x ∧ x ≤ 6) ∧ ps.length = 60 ∧ ∀ ss o, EvSs G7 [.fr sc, .ow (dr.map .int), .fr (.int k), .fr (.int (m : Nat)), .ow ((ps : List Int).map .int), .ow ((S m).map eI), d6, .fr (eI (c : List Int)), d8, d9, d10, c11, c12, c13, c14, c15, c16, c17, c18, c19, c20] ss o → EvSs G7 [.fr sc, .ow (dr.map .int), .fr (.int k), c3, c4, c5, c6, c7, c8, c9, c10, c11, c12, c13, c14, c15, c16, c17, c18, c19, c20] (fore18 ++ ss) o := by
  have hz := sizeLine_big
  obtain ⟨q, hq, eq⟩ := mod_nat (dr.getD k 0) 6 (by omega)
  obtain ⟨hmx, hm⟩ := mm_ix q hq
  generalize mm q = m at hmx hm
  obtain ⟨v, hv⟩ := cell_ok (T := TT) (wh := 0) (l := 6) (i := 10) rfl hsc (1 + k)
  obtain ⟨ps, hps, hpl, _⟩ := draws_ok (T := TT) (wh := 0) (l := 6) (i := 11) rfl v 60 (by omega)
  obtain ⟨q2, hq2, eq2⟩ := mod_nat (dr.getD (3 + k) 0) 7 (by omega)
  have hS := S_len m
  have h32 : (2 : Nat) ^ m ≤ 2 ^ 5 := Nat.pow_le_pow_right (by omega) hm
  have hpos : 0 < (2 : Nat) ^ m := Nat.pow_pos (by omega)
  obtain ⟨q3, hq3, eq3⟩ := mod_nat (dr.getD (6 + k) 0) (2 ^ m) hpos
  have hrl : ((List.range q2).map fun j => rowZ (ps.getD j 0 / 3) m).length = q2 := by simp
  have hrm : ∀ r ∈ (List.range q2).map fun j => rowZ (ps.getD j 0 / 3) m, r ∈ S m := fun r hr => by
    obtain ⟨j, _, rfl⟩ := List.mem_map.mp hr
    exact row_mem _ m
  have hrows : ∀ ρ : List Cell, ρ[4]? = some (.ow (ps.map .int)) → True := fun _ _ => trivial
  have hcomp : ∀ j ∈ List.range q2, elemC G7 [.fr sc, .ow (dr.map .int), .fr (.int k), .fr (.int m), .ow (ps.map .int), .ow ((S m).map eI), c6, c7, c8, c9, c10, c11, c12, c13, c14, c15, c16, c17, c18, c19, c20] [9] (.name 9) [] (.call 14 [.bin .FloorDiv (.bi .int [.ix (.var 4) (.var 9)]) (.const (.int 3)), .var 3]) (.int (j : Nat)) = some [eI (rowZ (ps.getD j 0 / 3) m)] := fun j hj => by
    have hj := List.mem_range.mp hj
    exact c_elem (r := .val (eI (rowZ (ps.getD j 0 / 3) m))) rfl (e_callR (a_consV (e_bin (b_bi (l_cons (b_ix (b_ow rfl) (b_fr rfl) (ow_ixD ps j (by omega))) l_nil) bi_int) b_const (bin_div' rfl)) (a_consV (e_var rfl) a_nil)) (set_run 6 m hm _))
  have hcm := collect_map (e := fun (j : Nat) => PyData.int j) (g := fun j => eI (rowZ (ps.getD j 0 / 3) m)) hcomp (by rw [List.length_range]; omega)
  rw [show ((List.range q2).map fun j => eI (rowZ (ps.getD j 0 / 3) m)) = ((List.range q2).map fun j => rowZ (ps.getD j 0 / 3) m).map eI by rw [List.map_map]; rfl] at hcm
  generalize ((List.range q2).map fun j => rowZ (ps.getD j 0 / 3) m) = rows at hrl hrm hcm
  have hxl : (cts m rows).length = 2 ^ m := by unfold cts; rw [List.length_map, hS]
  have hex := ex_counts m hm rows hrm
  have hs : ((S m).getD q3 []) ∈ S m := by
    rw [List.getD_eq_getElem?_getD, List.getElem?_eq_getElem (by omega : q3 < (S m).length)]
    exact List.getElem_mem _
  have hsl := S_small m _ hs
  have hbl : (brs ((S m).getD q3 []) rows).length ≤ 100000 := by
    rw [brs_len]
    unfold cnt
    have := List.length_filter_le (sub ((S m).getD q3 [])) rows
    omega
  refine ⟨m, cts m rows, ps, .fr (.tuple (rows.map eI)), .fr (eI (exF m (cts m rows))), .fr (.int q3), .fr (eI (brs ((S m).getD q3 []) rows)), hm, hxl, ?_, hpl, fun ss o K => ?_⟩
  · intro x hx
    unfold cts at hx
    obtain ⟨s, _, rfl⟩ := List.mem_map.mp hx
    unfold cnt
    have := List.length_filter_le (sub s) rows
    omega
  refine s_set (r := .val (.int m)) (e_ix (k := (q : Int)) (b_tup (a_consV e_const (a_consV e_const (a_consV e_const (a_consV e_const (a_consV e_const (a_consV e_const a_nil)))))) (show 6 ≤ sizeLine by omega)) (b_bin (b_bi (l_cons (b_ix (b_ow rfl) (b_fr rfl) (ow_ixD dr k (by omega))) l_nil) bi_int) b_const (by rw [bin_mod (by omega)]; exact congrArg (fun z => some (Res.val (.int z))) eq)) hmx) ?_
  refine s_set (e_callR (a_consV (e_callR (a_consV (e_var rfl) (a_consV (e_bin b_const (b_fr rfl) bin_add) a_nil)) hv) (a_consV e_const a_nil)) hps) ?_
  refine s_frzF rfl (s_set (e_callR (a_consV (e_var rfl) a_nil) (numbers_at 6 m hm)) (s_frzF rfl ?_))
  refine s_set (r := .val (.tuple (rows.map eI))) (e_bi (l_cons (b_new (e_comp (i_range1 (n := q2) (b_bin (b_bi (l_cons (b_ix (b_ow rfl) (b_bin b_const (b_fr rfl) bin_add) (ow_ixD dr (3 + k) (by omega))) l_nil) bi_int) b_const (by rw [bin_mod (by omega)]; exact congrArg (fun z => some (Res.val (.int z))) eq2)) (by omega)) hcm)) l_nil) bi_tupL) ?_
  refine s_set (r := .val (eI (cts m rows))) (e_bi (l_cons (b_new (e_comp (i_bor (b_ow rfl) rfl) (collect_map (e := eI) (g := fun s => .int (cnt s rows)) (fun s hs => c_elem (r := .val (.int (cnt s rows))) rfl (cnt_e rows (by omega) s (by have := S_small m s hs; omega) _ _ _ _ _ _ _ _ _ _ _ _ _ _ _ _ _ _ _)) (by omega)))) l_nil) ?_) ?_
  · rw [bi_tupL]
    simp only [eI, cts, List.map_map]
    rfl
  refine s_set (r := .val (eI (exF m (cts m rows)))) (e_bi (l_cons (b_new (e_comp (i_bor (b_ow rfl) rfl) (collect_map (e := eI) (g := fun s => .int ((rows.filter fun r => r == s).length : Nat)) (fun s hs => c_elem (r := .val (.int ((rows.filter fun r => r == s).length : Nat))) rfl (eqs_e rows (by omega) s _ _ _ _ _ _ _ _ _ _ _ _ _ _ _ _ _ _ _)) (by omega)))) l_nil) ?_) ?_
  · rw [bi_tupL, hex]
    simp only [eI, List.map_map]
    rfl
  have htb : EvE G7 [.fr sc, .ow (dr.map .int), .fr (.int k), .fr (.int m), .ow (ps.map .int), .ow ((S m).map eI), .fr (.tuple (rows.map eI)), .fr (eI (cts m rows)), .fr (eI (exF m (cts m rows))), c9, c10, c11, c12, c13, c14, c15, c16, c17, c18, c19, c20] (.tup [.var 3, .var 6]) (.val (tbl m rows)) := e_tup (a_consV (e_var rfl) (a_consV (e_var rfl) a_nil)) (show 2 ≤ sizeLine by omega)
  have hct : Pi.run TT 0 7 6 [tbl m rows] = some (.val (eI (cts m rows))) := counts_at 2 m hm rows (by omega)
  refine s_frzF rfl (s_frzF rfl (s_frzF rfl (s_frzF rfl (s_ifF (t_of (b_val (e_or (x := false) (y := false) (b_not (b := true) (b_callR (a_consV (e_callR (a_consV htb a_nil) hct) (a_consV (e_var rfl) a_nil)) (is_run 1 4 _ (okD_c m hm _ hxl) (by rw [depth_eI]; exact Nat.le_refl _))) tru_bool) fun _ => e_not (b := true) (b_callR (a_consV (e_callR (a_consV (e_var rfl) (a_consV (e_var rfl) a_nil)) (ex_run 2 m hm _ hxl)) (a_consV (e_var rfl) a_nil)) (is_run 1 4 _ (okD_c m hm _ (exF_len m _)) (by rw [depth_eI]; exact Nat.le_refl _))) tru_bool)) rfl) ?_))))
  have hlen : ∀ ρ : List Cell, ρ[5]? = some (.ow ((S m).map eI)) → EvB G7 ρ (.bi .len [.var 5]) (.int ((2 ^ m : Nat) : Int)) := fun ρ hρ => by
    have := b_bi (Γ := G7) (l_cons (b_ow hρ) l_nil) bi_lenL
    rw [List.length_map, hS] at this
    exact this
  have hlen6 : ∀ ρ : List Cell, ρ[6]? = some (.fr (.tuple (rows.map eI))) → EvB G7 ρ (.bi .len [.var 6]) (.int ((rows.length : Nat) : Int)) := fun ρ hρ => by
    have := b_bi (Γ := G7) (l_cons (b_fr hρ) l_nil) bi_lenT
    rw [List.length_map] at this
    exact this
  refine s_set (r := .val (.int q3)) (e_bin (b_bi (l_cons (b_ix (b_ow rfl) (b_bin b_const (b_fr rfl) bin_add) (ow_ixD dr (6 + k) (by omega))) l_nil) bi_int) (hlen _ rfl) (by rw [bin_mod (by omega), eq3])) ?_
  refine s_set (r := .val (eI (brs ((S m).getD q3 []) rows))) (e_bi (l_cons (b_new (e_comp (i_range1 (hlen6 _ rfl) (by omega)) (collect_filter (p := fun j => sub ((S m).getD q3 []) (rows.getD j [])) (g := fun (j : Nat) => .int j) (fun j hj => ?_) (by rw [List.length_range]; omega)))) l_nil) ?_) ?_
  · have hj := List.mem_range.mp hj
    have hix : ixD (.tuple (rows.map eI)) (j : Int) = some (eI (rows.getD j [])) := by
      refine atI_at ?_
      rw [List.getElem?_map, List.getElem?_eq_getElem hj, List.getD_eq_getElem?_getD, List.getElem?_eq_getElem hj]
      rfl
    exact c_elemIf rfl (t_of (b_callR (a_consV (e_ix (b_ow rfl) (b_fr rfl) (S_ixD m q3 hq3)) (a_consV (e_ix (b_fr rfl) (b_fr rfl) hix) a_nil)) (lin_run 6 _ _ (by omega))) tru_bool) fun _ => e_var rfl
  · rw [bi_tupL, brs_range]
    rfl
  refine s_frzF rfl (s_frzF rfl (s_frzF rfl (s_ifF (t_of (b_not (b := true) (b_callR (a_consV (e_callR (a_consV (d := tbl m rows) (e_tup (a_consV (e_var rfl) (a_consV (e_var rfl) a_nil)) (show 2 ≤ sizeLine by omega)) (a_consV (e_ix (b_ow rfl) (b_fr rfl) (S_ixD m q3 hq3)) a_nil)) (bearers_at 5 m rows _ (by omega))) (a_consV (e_var rfl) a_nil)) (is_run 1 4 _ (okD_eI _ hbl) (by rw [depth_eI]; exact Nat.le_refl _))) tru_bool) rfl) K)))
theorem hrun : ∀ ns d, IsScr d ns → ns.length ≤ 63 → Pi.run (its.map Itm.df) 0 (7 + 1) 18 [d] = some (.val (.bool true)) := by
  intro ns d hsc _
  obtain ⟨v, hv⟩ := cell_ok (T := TT) (wh := 0) (l := 6) (i := 10) rfl hsc 0
  obtain ⟨dr, hdr, hdl, _⟩ := draws_ok (T := TT) (wh := 0) (l := 6) (i := 11) rfl v 60 (by omega)
  have hcon : (fore18 ++ [inner18]) = fore18 ++ [inner18] := rfl
  obtain ⟨ρ, h1, h2⟩ := loop_inv (f := bodyS G7 (fore18 ++ [inner18])) (tg := .name 2) (fun _ ρ => ∃ c2 c3 c4 c5 c6 c7 c8 c9 c10 c11 c12 c13 c14 c15 c16 c17 c18 c19 c20, ρ = [.fr d, .ow (dr.map .int), c2, c3, c4, c5, c6, c7, c8, c9, c10, c11, c12, c13, c14, c15, c16, c17, c18, c19, c20])
    (ds := (List.range 3).map fun (k : Nat) => .int k) (ρ := [.fr d, .ow (dr.map .int), .un, .un, .un, .un, .un, .un, .un, .un, .un, .un, .un, .un, .un, .un, .un, .un, .un, .un, .un]) ⟨.un, .un, .un, .un, .un, .un, .un, .un, .un, .un, .un, .un, .un, .un, .un, .un, .un, .un, .un, rfl⟩ (fun j x r hd ⟨c2, c3, c4, c5, c6, c7, c8, c9, c10, c11, c12, c13, c14, c15, c16, c17, c18, c19, c20, e⟩ => by
      subst e
      obtain ⟨rfl, hj⟩ := range_at hd
      obtain ⟨m, c, ps, d6, d8, d9, d10, hm, hl, hc, hp, k⟩ := fore_run hsc dr hdl j hj c3 c4 c5 c6 c7 c8 c9 c10 c11 c12 c13 c14 c15 c16 c17 c18 c19 c20
      obtain ⟨f9, f11, f12, f13, f14, f15, f16, f17, t⟩ := inner_run m hm c ps hl hc hp (.fr d) (.ow (dr.map .int)) (.fr (.int j)) d6 d8 d9 d10 c11 c12 c13 c14 c15 c16 c17 c18 c19 c20
      exact ⟨_, rfl, _, .inl (EvSs.h (k _ _ t)), _, _, _, _, _, _, _, _, _, _, _, _, _, _, _, _, _, _, _, rfl⟩)
  exact run_rt (F := F18) rfl rfl (s_set (e_callR (a_consV (e_callR (a_consV (e_var rfl) (a_consV e_const a_nil)) hv) (a_consV e_const a_nil)) hdr) (s_loop (i_range1 (n := 3) b_const (by omega)) h1 (s_ret e_const)))
end K53
end
section
set_option Elab.async false
set_option linter.all false
set_option maxRecDepth 100000
set_option maxHeartbeats 2000000
open PySem PySem.W PyProof.Rows
set_option maxHeartbeats 0 in
theorem PySem.Challenge.cw_kindhall_k53_whole_counts_of_marks_holds : PySem.Challenge.rw_kindhall_k53_whole_counts_of_marks.Holds := by
  w_on; o_law; k_head; (case hw => w_witness2)
  k_fill
  refine Pi.walk_ofTabs (l := PySem.Challenge.rw_kindhall_k53_whole_counts_of_marks) (n := 63) (k := Pi.lev 2 (7 + 1)) (x := "script") (CX := fun _ => L2.CX0) rfl (by decide) rfl ⟨rfl, by decide, by decide⟩ (fun w h Y => PySem.W.kIn_of Y) ?F (fun _ _ _ _ _ h => h)
  case F =>
    intro w mg fa h KX G hmg own
    refine' K53.all_mk (c0 := 20) (p0 := 16) (L := 7) KX G hmg own ?d0 ?d1 ?d2 ?d3 ?d4 ?d5 ?d6 ?d7 ?d8 ?d9 ?d10 ?d11 ?d12 ?d13 ?d14 ?d15 ?d16 ?d17 ?d18 ?t0 ?r0 ?z0 ?z1 ?z2 ?z3 ?z4 ?z5 ?z6 ?z7 ?z8 ?z9 ?z10 ?z11 ?z12 ?z13 ?nl K53.hrun
    case d0 => exact Pi.defK_mk (by k_is) (by k_is) (by k_is) (by k_is)
    case d1 => exact Pi.defK_mk (by k_is) (by k_is) (by k_is) (by k_is)
    case d2 => exact Pi.defK_mk (by k_is) (by k_is) (by k_is) (by k_is)
    case d3 => exact Pi.defK_mk (by k_is) (by k_is) (by k_is) (by k_is)
    case d4 => exact Pi.defK_mk (by k_is) (by k_is) (by k_is) (by k_is)
    case d5 => exact Pi.defK_mk (by k_is) (by k_is) (by k_is) (by k_is)
    case d6 => exact Pi.defK_mk (by k_is) (by k_is) (by k_is) (by k_is)
    case d7 => exact Pi.defK_mk (by k_is) (by k_is) (by k_is) (by k_is)
    case d8 => exact Pi.defK_mk (by k_is) (by k_is) (by k_is) (by k_is)
    case d9 => exact Pi.defK_mk (by k_is) (by k_is) (by k_is) (by k_is)
    case d10 => exact Pi.defK_mk (by k_is) (by k_is) (by k_is) (by k_is)
    case d11 => exact Pi.defK_mk (by k_is) (by k_is) (by k_is) (by k_is)
    case d12 => exact Pi.defK_mk (by k_is) (by k_is) (by k_is) (by k_is)
    case d13 => exact Pi.defK_mk (by k_is) (by k_is) (by k_is) (by k_is)
    case d14 => exact Pi.defK_mk (by k_is) (by k_is) (by k_is) (by k_is)
    case d15 => exact Pi.defK_mk (by k_is) (by k_is) (by k_is) (by k_is)
    case d16 => exact Pi.defK_mk (by k_is) (by k_is) (by k_is) (by k_is)
    case d17 => exact Pi.defK_mk (by k_is) (by k_is) (by k_is) (by k_is)
    case d18 => exact Pi.defK_mk (by k_is) (by k_is) (by k_is) (by k_is)
    case t0 => kernel_rfl
    case r0 => rfl
    case z0 => k_is
    case z1 => k_is
    case z2 => k_is
    case z3 => k_is
    case z4 => k_is
    case z5 => k_is
    case z6 => k_is
    case z7 => k_is
    case z8 => k_is
    case z9 => k_is
    case z10 => k_is
    case z11 => k_is
    case z12 => k_is
    case z13 => k_is
    case nl => kernel_rfl
end
