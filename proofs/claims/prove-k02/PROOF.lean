import PyProof.Rows.All
import Wide.All
import OpenK.AllK
import Wide.FinOn
import HandS.ForMost
import HandS.Wide
import HandS.FStr
import HandS.IsInst
import HandS.Style
import HandS.Flow
import HandS.ExcInit
import HandS.Steps
import HandS.More
import PyProof.ListStr
import HandS.Ends
import PyProof.ReprRoads
import HandS.ExcSuper
import HandS.ExcValue
import KE.KExcSuper
import KE.KSuper
import HandS.MakeKw
import HandS.ExcIs
import HandS.ExcField
import KE.KExcIs
import HandS.Words
import HandS.RaiseMore
import HandS.Dict
import HandS.Text
import HandS.Iter
import HandS.Property
import HandS.DictComp
import HandS.Conv
import HandS.Call
import HandS.OwnEq
import KE.KCallOwn
import HandS.ClsMeth
import HandS.Defaults
import OpenK.KCls
import PyProof.ReprBulk
import PySem.Challenge.RW_fewestroots_k02_formulas_there_and_back
import KE.KExcLine
import KE.RegKIsAll
set_option Elab.async false
set_option linter.all false
set_option maxRecDepth 100000
set_option maxHeartbeats 2000000
/-! The data layer: what a def does to data, above the abstract heap. Frozen data (F) never changes; what is changed in place lies in cells (M). -/
namespace D2
open PySem L2

/-- data -/
inductive D where
  | non | bl (b : Bool) | int (i : Int) | str (x : Str)
  | lst (ds : List D) | tup (ds : List D)
  | obj (c : Addr) (fs : List (Str × D))
  | dct (es : List (Key × D))
  | ptr (a : Addr)
  | ty (n : String)
  | scr (ds : List D)
  | exc (c : Addr) (fs : List (Str × D))
  | exn (c : Addr)

mutual
/-- a value stands for data, by frozen objects alone -/
inductive Is (K : W.Frag) (F : Hp) : V → D → Prop
  | non : Is K F .non .non
  | bl (b : Bool) : Is K F (.bl b) (.bl b)
  | int (i : Int) : Is K F (.int i) (.int i)
  | str (x : Str) : Is K F (.str x) (.str x)
  | lst {a : Addr} {xs : List V} {ds : List D} : F a = some (.lst xs) → IsAll K F xs ds → Is K F (.ref a) (.lst ds)
  | tup {a : Addr} {xs : List V} {ds : List D} : SqT K F a xs → IsAll K F xs ds → Is K F (.ref a) (.tup ds)
  | obj {a C dx : Addr} {fs : List (Str × V)} {gs : List (Str × D)} : F a = some (.ins C dx fs) → IsFs K F fs gs → Is K F (.ref a) (.obj C gs)
  | dct {a : Addr} {kvs : List (Key × V)} {es : List (Key × D)} : F a = some (.dK kvs) → IsKs K F kvs es → Is K F (.ref a) (.dct es)
  | ptr (a : Addr) : Is K F (.ref a) (.ptr a)
  | ty (n : String) : Is K F (.ty n) (.ty n)
  | scr {a : Addr} {xs : List V} {ds : List D} : SqL K F a xs → IsAll K F xs ds → Is K F (.ref a) (.scr ds)
  | exc {a C dx : Addr} {fs : List (Str × V)} {gs : List (Str × D)} : F a = some (exo a C (some dx)) → F dx = some (exd dx fs) → IsFs K F fs gs → Is K F (.ref a) (.exc C gs)
  | exn {a C : Addr} : F a = some (exo a C none) → Is K F (.ref a) (.exn C)
inductive IsAll (K : W.Frag) (F : Hp) : List V → List D → Prop
  | nil : IsAll K F [] []
  | cons {v : V} {d : D} {vs : List V} {ds : List D} : Is K F v d → IsAll K F vs ds → IsAll K F (v :: vs) (d :: ds)
inductive IsFs (K : W.Frag) (F : Hp) : List (Str × V) → List (Str × D) → Prop
  | nil : IsFs K F [] []
  | cons {n : Str} {v : V} {d : D} {vs : List (Str × V)} {ds : List (Str × D)} : Is K F v d → IsFs K F vs ds → IsFs K F ((n, v) :: vs) ((n, d) :: ds)
inductive IsKs (K : W.Frag) (F : Hp) : List (Key × V) → List (Key × D) → Prop
  | nil : IsKs K F [] []
  | cons {n : Key} {v : V} {d : D} {vs : List (Key × V)} {ds : List (Key × D)} : Is K F v d → IsKs K F vs ds → IsKs K F ((n, v) :: vs) ((n, d) :: ds)
end

theorem sql_mono {K : W.Frag} {F F' : Hp} {a : Addr} {xs : List V} (e : Same F F') (h : SqL K F a xs) : SqL K F' a xs := by
  rcases h with (h | ⟨o, h⟩) | h
  · exact .inl (.inl (e _ _ h))
  · exact .inl (.inr ⟨o, e _ _ h⟩)
  · exact .inr h
theorem sqt_mono {K : W.Frag} {F F' : Hp} {a : Addr} {xs : List V} (e : Same F F') (h : SqT K F a xs) : SqT K F' a xs := by
  rcases h with (h | ⟨o, h⟩) | h
  · exact .inl (.inl (e _ _ h))
  · exact .inl (.inr ⟨o, e _ _ h⟩)
  · exact .inr h
mutual
theorem Is.mono {K : W.Frag} {F F' : Hp} (e : Same F F') : ∀ {v : V} {d : D}, Is K F v d → Is K F' v d
  | _, _, .non => .non
  | _, _, .bl b => .bl b
  | _, _, .int i => .int i
  | _, _, .str x => .str x
  | _, _, .lst h r => .lst (e _ _ h) (IsAll.mono e r)
  | _, _, .tup h r => .tup (sqt_mono e h) (IsAll.mono e r)
  | _, _, .obj h r => .obj (e _ _ h) (IsFs.mono e r)
  | _, _, .dct h r => .dct (e _ _ h) (IsKs.mono e r)
  | _, _, .ptr a => .ptr a
  | _, _, .ty n => .ty n
  | _, _, .scr h r => .scr (sql_mono e h) (IsAll.mono e r)
  | _, _, .exc h g r => .exc (e _ _ h) (e _ _ g) (IsFs.mono e r)
  | _, _, .exn h => .exn (e _ _ h)
theorem IsAll.mono {K : W.Frag} {F F' : Hp} (e : Same F F') : ∀ {v : List V} {d : List D}, IsAll K F v d → IsAll K F' v d
  | _, _, .nil => .nil
  | _, _, .cons h r => .cons (Is.mono e h) (IsAll.mono e r)
theorem IsFs.mono {K : W.Frag} {F F' : Hp} (e : Same F F') : ∀ {v : List (Str × V)} {d : List (Str × D)}, IsFs K F v d → IsFs K F' v d
  | _, _, .nil => .nil
  | _, _, .cons h r => .cons (Is.mono e h) (IsFs.mono e r)
theorem IsKs.mono {K : W.Frag} {F F' : Hp} (e : Same F F') : ∀ {v : List (Key × V)} {d : List (Key × D)}, IsKs K F v d → IsKs K F' v d
  | _, _, .nil => .nil
  | _, _, .cons h r => .cons (Is.mono e h) (IsKs.mono e r)
end

section
variable {K : W.Frag} {F F' H H' : Hp}
theorem IsAll.length : ∀ {xs : List V} {ds : List D}, IsAll K F xs ds → xs.length = ds.length
  | _, _, .nil => rfl
  | _, _, .cons _ r => congrArg (· + 1) (IsAll.length r)
theorem IsAll.append : ∀ {xs ys : List V} {ds es : List D}, IsAll K F xs ds → IsAll K F ys es → IsAll K F (xs ++ ys) (ds ++ es)
  | _, _, _, _, .nil, s => s
  | _, _, _, _, .cons h r, s => .cons h (IsAll.append r s)
theorem IsAll.get : ∀ {xs : List V} {ds : List D} {i : Nat} {d : D}, IsAll K F xs ds → ds[i]? = some d → ∃ v, xs[i]? = some v ∧ Is K F v d
  | _, _, _, _, .nil, e => by simp at e
  | _, _, 0, _, .cons h _, e => by simp at e; subst e; exact ⟨_, rfl, h⟩
  | _, _, i + 1, d, .cons _ r, e => by
    obtain ⟨v, h1, h2⟩ := IsAll.get (i := i) (d := d) r (by simpa using e)
    exact ⟨v, by simpa using h1, h2⟩
theorem IsAll.getV : ∀ {xs : List V} {ds : List D} {i : Nat} {v : V}, IsAll K F xs ds → xs[i]? = some v → ∃ d, ds[i]? = some d ∧ Is K F v d
  | _, _, _, _, .nil, e => by simp at e
  | _, _, 0, _, .cons h _, e => by simp at e; subst e; exact ⟨_, rfl, h⟩
  | _, _, i + 1, d, .cons _ r, e => by
    obtain ⟨v, h1, h2⟩ := IsAll.getV (i := i) (v := d) r (by simpa using e)
    exact ⟨v, by simpa using h1, h2⟩
theorem IsAll.take : ∀ {xs : List V} {ds : List D} (n : Nat), IsAll K F xs ds → IsAll K F (xs.take n) (ds.take n)
  | _, _, 0, _ => .nil
  | _, _, _ + 1, .nil => .nil
  | _, _, n + 1, .cons h r => .cons h (IsAll.take n r)
theorem IsAll.drop : ∀ {xs : List V} {ds : List D} (n : Nat), IsAll K F xs ds → IsAll K F (xs.drop n) (ds.drop n)
  | _, _, 0, r => r
  | _, _, _ + 1, .nil => .nil
  | _, _, n + 1, .cons _ r => IsAll.drop n r
theorem IsAll.set : ∀ {xs : List V} {ds : List D} {v : V} {d : D} (i : Nat), IsAll K F xs ds → Is K F v d → IsAll K F (xs.set i v) (ds.set i d)
  | _, _, _, _, _, .nil, _ => .nil
  | _, _, _, _, 0, .cons _ r, h => .cons h r
  | _, _, _, _, i + 1, .cons g r, h => .cons g (IsAll.set i r h)
theorem IsAll.dropLast : ∀ {xs : List V} {ds : List D}, IsAll K F xs ds → IsAll K F xs.dropLast ds.dropLast
  | _, _, .nil => .nil
  | _, _, .cons _ .nil => .nil
  | _, _, .cons h (.cons g r) => .cons h (IsAll.dropLast (.cons g r))
theorem IsAll.eraseIdx : ∀ {xs : List V} {ds : List D} (i : Nat), IsAll K F xs ds → IsAll K F (xs.eraseIdx i) (ds.eraseIdx i)
  | _, _, _, .nil => .nil
  | _, _, 0, .cons _ r => r
  | _, _, i + 1, .cons g r => .cons g (IsAll.eraseIdx i r)

/-! ### cells -/
inductive MO where
  | lst (ds : List D) | dct (es : List (Key × D)) | ins (C : Addr) (gs : List (Str × D)) | ext (J : Hp → Hp → Addr → Prop)
abbrev Mem := Addr → Option MO
def Mem.put (M : Mem) (a : Addr) (m : MO) : Mem := fun b => if b = a then some m else M b
def Mem.del (M : Mem) (a : Addr) : Mem := fun b => if b = a then none else M b
theorem Mem.put_same {M : Mem} {a : Addr} {m : MO} : M.put a m a = some m := by unfold Mem.put; rw [if_pos rfl]
theorem Mem.put_ne {M : Mem} {a b : Addr} {m : MO} (h : b ≠ a) : M.put a m b = M b := by unfold Mem.put; rw [if_neg h]
theorem Mem.put_put {M : Mem} {a : Addr} {m m' : MO} : (M.put a m).put a m' = M.put a m' := by funext b; unfold Mem.put; split <;> rfl
theorem Mem.del_ne {M : Mem} {a b : Addr} (h : b ≠ a) : M.del a b = M b := by unfold Mem.del; rw [if_neg h]
theorem Mem.put_del {M : Mem} {a : Addr} {m : MO} (h : M a = none) : (M.put a m).del a = M := by
  funext b
  show (if b = a then none else if b = a then some m else M b) = M b
  by_cases e : b = a
  · rw [if_pos e, e, h]
  · rw [if_neg e, if_neg e]
def Mem.le (M M' : Mem) : Prop := ∀ a m, M a = some m → M' a = some m
theorem Mem.le_refl (M : Mem) : M.le M := fun _ _ h => h
theorem Mem.le_put {M : Mem} {a : Addr} {m : MO} (h : M a = none) : M.le (M.put a m) := fun b o e => by
  rw [Mem.put_ne (fun q => by rw [q, h] at e; cases e)]
  exact e
theorem Mem.le_trans {M M' M'' : Mem} (a : M.le M') (b : M'.le M'') : M.le M'' := fun x o h => b x o (a x o h)

/-- an extension of the frozen part and any change of the heap that keeps it leaves an ext as it is -/
def CellOk (K : W.Frag) (F H : Hp) (a : Addr) : MO → Prop
  | .lst ds => ∃ xs, H a = some (.lst xs) ∧ IsAll K F xs ds
  | .dct es => ∃ kvs, H a = some (.dK kvs) ∧ IsKs K F kvs es
  | .ins C gs => ∃ dx fs, H a = some (.ins C dx fs) ∧ IsFs K F fs gs
  | .ext J => J F H a ∧ (∃ o, H a = some o) ∧ ∀ F' H', Same F F' → H' a = H a → J F' H' a
theorem CellOk.mono {a : Addr} {m : MO} (e : Same F F') (h : CellOk K F H a m) (q : H' a = H a) : CellOk K F' H' a m := by
  cases m with
  | lst ds => obtain ⟨xs, h1, h2⟩ := h; exact ⟨xs, q.trans h1, h2.mono e⟩
  | dct es => obtain ⟨xs, h1, h2⟩ := h; exact ⟨xs, q.trans h1, h2.mono e⟩
  | ins C gs => obtain ⟨dx, xs, h1, h2⟩ := h; exact ⟨dx, xs, q.trans h1, h2.mono e⟩
  | ext J => obtain ⟨h1, ⟨o, h2⟩, h3⟩ := h; exact ⟨h3 F' H' e q, ⟨o, q.trans h2⟩, fun F'' H'' e' q' => h3 F'' H'' (e.trans e') (q'.trans q)⟩
theorem CellOk.there {a : Addr} {m : MO} (h : CellOk K F H a m) : ∃ o, H a = some o := by
  cases m with
  | lst ds => obtain ⟨xs, h1, h2⟩ := h; exact ⟨_, h1⟩
  | dct es => obtain ⟨xs, h1, h2⟩ := h; exact ⟨_, h1⟩
  | ins C gs => obtain ⟨dx, xs, h1, h2⟩ := h; exact ⟨_, h1⟩
  | ext J => exact h.2.1

/-- the heap holds the frozen part and, apart from it, the cells -/
structure Sat (K : W.Frag) (F : Hp) (M : Mem) (H : Hp) : Prop where
  sub : Same F H
  cell : ∀ a m, M a = some m → F a = none ∧ CellOk K F H a m
variable {M M' : Mem} {p : Addr}
theorem Sat.none_of (s : Sat K F M H) (h : H p = none) : F p = none ∧ M p = none := by
  refine ⟨s.sub.free h, ?_⟩
  cases e : M p with
  | none => rfl
  | some m =>
    obtain ⟨o, q⟩ := (s.cell p m e).2.there
    rw [h] at q
    cases q
theorem same_upd {o : HO} (h : F p = none) : Same F (upd F p o) := fun b u e => by
  rw [upd_ne (ne_of_none e h)]
  exact e
/-- a new frozen object -/
theorem Sat.laid {o : HO} (s : Sat K F M H) (h : H p = none) : Sat K (upd F p o) M (upd H p o) where
  sub := fun b u e => by
    by_cases q : b = p
    · subst q
      rw [upd_same] at e ⊢
      exact e
    · rw [upd_ne q] at e ⊢
      exact s.sub b u e
  cell := fun a m e => by
    obtain ⟨h1, h2⟩ := s.cell a m e
    have ne : a ≠ p := fun q => by
      obtain ⟨u, z⟩ := h2.there
      rw [q, h] at z
      cases z
    exact ⟨by rw [upd_ne ne]; exact h1, h2.mono (same_upd (s.none_of h).1) (upd_ne ne)⟩
/-- a new cell -/
theorem Sat.newCell {o : HO} {m : MO} (s : Sat K F M H) (h : H p = none) (c : CellOk K F (upd H p o) p m) : Sat K F (M.put p m) (upd H p o) where
  sub := fun b u e => by
    rw [upd_ne (ne_of_none (s.sub b u e) h)]
    exact s.sub b u e
  cell := fun a m' e => by
    by_cases q : a = p
    · subst q
      rw [Mem.put_same] at e
      cases e
      exact ⟨(s.none_of h).1, c⟩
    · rw [Mem.put_ne q] at e
      obtain ⟨h1, h2⟩ := s.cell a m' e
      exact ⟨h1, h2.mono (Same.refl F) (upd_ne q)⟩
/-- a cell is written -/
theorem Sat.put {o : HO} {m m' : MO} (s : Sat K F M H) (h : M p = some m) (c : CellOk K F (upd H p o) p m') : Sat K F (M.put p m') (upd H p o) where
  sub := fun b u e => by
    have ne : b ≠ p := fun q => by
      rw [q, (s.cell p m h).1] at e
      cases e
    rw [upd_ne ne]
    exact s.sub b u e
  cell := fun a m'' e => by
    by_cases q : a = p
    · subst q
      rw [Mem.put_same] at e
      cases e
      exact ⟨(s.cell a m h).1, c⟩
    · rw [Mem.put_ne q] at e
      obtain ⟨h1, h2⟩ := s.cell a m'' e
      exact ⟨h1, h2.mono (Same.refl F) (upd_ne q)⟩
/-- fewer cells -/
theorem Sat.less (s : Sat K F M H) (h : M'.le M) : Sat K F M' H := ⟨s.sub, fun a m e => s.cell a m (h a m e)⟩
/-- a cell becomes frozen -/
theorem Sat.freeze {o : HO} (s : Sat K F M H) (ho : H p = some o) (hn : F p = none) : Sat K (upd F p o) (M.del p) H where
  sub := fun b u e => by
    by_cases q : b = p
    · subst q
      rw [upd_same] at e
      cases e
      exact ho
    · rw [upd_ne q] at e
      exact s.sub b u e
  cell := fun a m e => by
    by_cases q : a = p
    · subst q
      unfold Mem.del at e
      rw [if_pos rfl] at e
      cases e
    · rw [Mem.del_ne q] at e
      obtain ⟨h1, h2⟩ := s.cell a m e
      exact ⟨by rw [upd_ne q]; exact h1, h2.mono (same_upd hn) rfl⟩

/-! ### slots -/
abbrev Ga := List (Option D)
inductive Loc (K : W.Frag) (F : Hp) : St → Ga → Prop
  | nl : Loc K F [] []
  | no {v : Option V} {σ : St} {Γ : Ga} : Loc K F σ Γ → Loc K F (v :: σ) (none :: Γ)
  | so {v : V} {d : D} {σ : St} {Γ : Ga} : Is K F v d → Loc K F σ Γ → Loc K F (some v :: σ) (some d :: Γ)
theorem Loc.mono (e : Same F F') : ∀ {σ : St} {Γ : Ga}, Loc K F σ Γ → Loc K F' σ Γ
  | _, _, .nl => .nl
  | _, _, .no r => .no (Loc.mono e r)
  | _, _, .so h r => .so (h.mono e) (Loc.mono e r)
theorem Loc.get : ∀ {σ : St} {Γ : Ga} {i : Nat} {d : D}, Loc K F σ Γ → Γ[i]? = some (some d) → ∃ v, σ[i]? = some (some v) ∧ Is K F v d
  | _, _, _, _, .nl, e => by simp at e
  | _, _, 0, _, .no _, e => by simp at e
  | _, _, 0, _, .so h _, e => by simp at e; subst e; exact ⟨_, rfl, h⟩
  | _, _, i + 1, d, .no r, e => by
    obtain ⟨v, h1, h2⟩ := Loc.get (i := i) (d := d) r (by simpa using e)
    exact ⟨v, by simpa using h1, h2⟩
  | _, _, i + 1, d, .so _ r, e => by
    obtain ⟨v, h1, h2⟩ := Loc.get (i := i) (d := d) r (by simpa using e)
    exact ⟨v, by simpa using h1, h2⟩
theorem Loc.set : ∀ {σ : St} {Γ : Ga} {v : V} {d : D} (i : Nat), Loc K F σ Γ → Is K F v d → Loc K F (σ.set i (some v)) (Γ.set i (some d))
  | _, _, _, _, _, .nl, _ => .nl
  | _, _, _, _, 0, .no r, h => .so h r
  | _, _, _, _, 0, .so _ r, h => .so h r
  | _, _, _, _, i + 1, .no r, h => .no (Loc.set i r h)
  | _, _, _, _, i + 1, .so g r, h => .so g (Loc.set i r h)
theorem Loc.length : ∀ {σ : St} {Γ : Ga}, Loc K F σ Γ → σ.length = Γ.length
  | _, _, .nl => rfl
  | _, _, .no r => congrArg (· + 1) (Loc.length r)
  | _, _, .so _ r => congrArg (· + 1) (Loc.length r)
theorem Loc.start : ∀ {vs : List V} {ds : List D} (n : Nat), IsAll K F vs ds → Loc K F (vs.map some ++ List.replicate n none) (ds.map some ++ List.replicate n none)
  | _, _, 0, .nil => .nl
  | _, _, n + 1, .nil => .no (Loc.start n .nil)
  | _, _, n, .cons h r => .so h (Loc.start n r)
/-- a slot that is forgotten -/
theorem Loc.forget : ∀ {σ : St} {Γ : Ga} (i : Nat), Loc K F σ Γ → Loc K F σ (Γ.set i none)
  | _, _, _, .nl => .nl
  | _, _, 0, .no r => .no r
  | _, _, 0, .so _ r => .no r
  | _, _, i + 1, .no r => .no (Loc.forget i r)
  | _, _, i + 1, .so g r => .so g (Loc.forget i r)
/-- the pointer a gives way to data -/
def thaw (a : Addr) (d : D) (Γ : Ga) : Ga := Γ.map fun
  | some (.ptr b) => if b = a then some d else some (.ptr b)
  | x => x
theorem Loc.thaw {a : Addr} {d : D} (h : Is K F (.ref a) d) : ∀ {σ : St} {Γ : Ga}, Loc K F σ Γ → Loc K F σ (thaw a d Γ)
  | _, _, .nl => .nl
  | _, _, .no r => .no (Loc.thaw h r)
  | _, _, .so (d := e) g r => by
    have t := Loc.thaw h r
    cases e with
    | ptr b =>
      show Loc K F _ ((if b = a then some d else some (.ptr b)) :: D2.thaw a d _)
      by_cases q : b = a
      · rw [if_pos q]
        subst q
        cases g
        exact .so h t
      · rw [if_neg q]
        exact .so g t
    | _ => exact .so g t
end
end D2

set_option maxRecDepth 100000
set_option maxHeartbeats 2000000
namespace D2
open PySem L2

/-! ### what an expression, a test, arguments, a block do to data -/
def DE (K : W.Frag) (t : TE) (Γ : Ga) (M : Mem) (Q : D → Ga → Mem → Prop) : Prop :=
  ∀ (F : Hp) (σ : St) (H : Hp) (R : VK), Sat K F M H → Loc K F σ Γ →
    (∀ F' v H' d Γ' M', Same F F' → Sat K F' M' H' → Loc K F' σ Γ' → Is K F' v d → Q d Γ' M' → R v H') → t σ H R
def DT (K : W.Frag) (t : TT) (Γ : Ga) (M : Mem) (Q : Bool → Ga → Mem → Prop) : Prop :=
  ∀ (F : Hp) (σ : St) (H : Hp) (R : Bool → Hp → Prop), Sat K F M H → Loc K F σ Γ →
    (∀ F' b H' Γ' M', Same F F' → Sat K F' M' H' → Loc K F' σ Γ' → Q b Γ' M' → R b H') → t σ H R
def DA (K : W.Frag) (t : TA) (Γ : Ga) (M : Mem) (Q : List D → Ga → Mem → Prop) : Prop :=
  ∀ (F : Hp) (σ : St) (H : Hp) (R : List V → Hp → Prop), Sat K F M H → Loc K F σ Γ →
    (∀ F' vs H' ds Γ' M', Same F F' → Sat K F' M' H' → Loc K F' σ Γ' → IsAll K F' vs ds → Q ds Γ' M' → R vs H') → t σ H R
def DO (K : W.Frag) (t : TO) (Γ : Ga) (M : Mem) (Q : Option Int → Ga → Mem → Prop) : Prop :=
  ∀ (F : Hp) (σ : St) (H : Hp) (R : Option Int → Hp → Prop), Sat K F M H → Loc K F σ Γ →
    (∀ F' o H' Γ' M', Same F F' → Sat K F' M' H' → Loc K F' σ Γ' → Q o Γ' M' → R o H') → t σ H R
/-- an operation on two values -/
def DR (K : W.Frag) (r : R2) (x y : D) (Γ : Ga) (M : Mem) (Q : D → Ga → Mem → Prop) : Prop :=
  ∀ (F : Hp) (σ : St) (H : Hp) (vx vy : V) (R : VK), Sat K F M H → Loc K F σ Γ → Is K F vx x → Is K F vy y →
    (∀ F' v H' d Γ' M', Same F F' → Sat K F' M' H' → Loc K F' σ Γ' → Is K F' v d → Q d Γ' M' → R v H') → r vx vy H R
/-- an operation on one value -/
def DU (K : W.Frag) (r : V → Hp → VK → Prop) (x : D) (Γ : Ga) (M : Mem) (Q : D → Ga → Mem → Prop) : Prop :=
  ∀ (F : Hp) (σ : St) (H : Hp) (vx : V) (R : VK), Sat K F M H → Loc K F σ Γ → Is K F vx x →
    (∀ F' v H' d Γ' M', Same F F' → Sat K F' M' H' → Loc K F' σ Γ' → Is K F' v d → Q d Γ' M' → R v H') → r vx H R
/-- a call on values -/
def DC (K : W.Frag) (r : List V → Hp → VK → Prop) (xs : List D) (Γ : Ga) (M : Mem) (Q : D → Ga → Mem → Prop) : Prop :=
  ∀ (F : Hp) (σ : St) (H : Hp) (vs : List V) (R : VK), Sat K F M H → Loc K F σ Γ → IsAll K F vs xs →
    (∀ F' v H' d Γ' M', Same F F' → Sat K F' M' H' → Loc K F' σ Γ' → Is K F' v d → Q d Γ' M' → R v H') → r vs H R
structure DEnds where
  nx : Ga → Mem → Prop
  rt : D → Mem → Prop
  bk : Ga → Mem → Prop := fun _ _ => False
  ct : Ga → Mem → Prop := fun _ _ => False
/-- the ends of a block meet what is wanted -/
structure Lnk (K : W.Frag) (F : Hp) (P : DEnds) (D : Ends) : Prop where
  nx : ∀ F' σ' H' Γ' M', Same F F' → Sat K F' M' H' → Loc K F' σ' Γ' → P.nx Γ' M' → D.nx σ' H'
  rt : ∀ F' v H' d M', Same F F' → Sat K F' M' H' → Is K F' v d → P.rt d M' → D.rt v H'
  bk : ∀ F' σ' H' Γ' M', Same F F' → Sat K F' M' H' → Loc K F' σ' Γ' → P.bk Γ' M' → D.bk σ' H'
  ct : ∀ F' σ' H' Γ' M', Same F F' → Sat K F' M' H' → Loc K F' σ' Γ' → P.ct Γ' M' → D.ct σ' H'
theorem Lnk.mono {K : W.Frag} {F F' : Hp} {P : DEnds} {D : Ends} (e : Same F F') (l : Lnk K F P D) : Lnk K F' P D :=
  ⟨fun F1 σ H Γ M s => l.nx F1 σ H Γ M (e.trans s), fun F1 v H d M s => l.rt F1 v H d M (e.trans s), fun F1 σ H Γ M s => l.bk F1 σ H Γ M (e.trans s), fun F1 σ H Γ M s => l.ct F1 σ H Γ M (e.trans s)⟩
def DS (K : W.Frag) (t : TS) (Γ : Ga) (M : Mem) (P : DEnds) : Prop :=
  ∀ (F : Hp) (σ : St) (H : Hp) (D : Ends), Sat K F M H → Loc K F σ Γ → Lnk K F P D → t D σ H

section
variable {K : W.Frag} {Γ : Ga} {M : Mem} {ta tb te tx : TE} {t u : TT} {Q : D → Ga → Mem → Prop} {P : DEnds} {r : R2}

/-! ### expressions -/
theorem DE.imp {Q' : D → Ga → Mem → Prop} (h : DE K ta Γ M Q) (q : ∀ d Γ' M', Q d Γ' M' → Q' d Γ' M') : DE K ta Γ M Q' := fun F σ H R s l k =>
  h F σ H R s l fun F' v H' d Γ' M' a b c e z => k F' v H' d Γ' M' a b c e (q _ _ _ z)
theorem DT.imp {t : TT} {Q Q' : Bool → Ga → Mem → Prop} (h : DT K t Γ M Q) (q : ∀ d Γ' M', Q d Γ' M' → Q' d Γ' M') : DT K t Γ M Q' := fun F σ H R s l k =>
  h F σ H R s l fun F' v H' Γ' M' a b c z => k F' v H' Γ' M' a b c (q _ _ _ z)
theorem de_var {i : Nat} {d : D} (h : Γ[i]? = some (some d)) (q : Q d Γ M) : DE K (tVar i) Γ M Q := fun F σ H R s l k => by
  obtain ⟨v, h1, h2⟩ := l.get h
  exact ⟨v, h1, k F v H d Γ M (Same.refl F) s l h2 q⟩
/-- a pointer to a list that is read for keeps: it becomes frozen -/
theorem de_varF {i : Nat} {a : Addr} {ds : List D} (h : Γ[i]? = some (some (.ptr a))) (hm : M a = some (.lst ds)) (q : Q (.lst ds) (thaw a (.lst ds) Γ) (M.del a)) : DE K (tVar i) Γ M Q := fun F σ H R s l k => by
  obtain ⟨v, h1, h2⟩ := l.get h
  cases h2
  obtain ⟨hn, xs, ho, hx⟩ := s.cell a _ hm
  have sm : Same F (upd F a (.lst xs)) := same_upd hn
  have is : Is K (upd F a (.lst xs)) (.ref a) (.lst ds) := .lst upd_same (hx.mono sm)
  exact ⟨_, h1, k _ (.ref a) H (.lst ds) _ _ sm (s.freeze ho hn) ((l.mono sm).thaw is) is q⟩
theorem de_varFd {i : Nat} {a : Addr} {es : List (Key × D)} (h : Γ[i]? = some (some (.ptr a))) (hm : M a = some (.dct es)) (q : Q (.dct es) (thaw a (.dct es) Γ) (M.del a)) : DE K (tVar i) Γ M Q := fun F σ H R s l k => by
  obtain ⟨v, h1, h2⟩ := l.get h
  cases h2
  obtain ⟨hn, xs, ho, hx⟩ := s.cell a _ hm
  have sm : Same F (upd F a (.dK xs)) := same_upd hn
  have is : Is K (upd F a (.dK xs)) (.ref a) (.dct es) := .dct upd_same (hx.mono sm)
  exact ⟨_, h1, k _ (.ref a) H (.dct es) _ _ sm (s.freeze ho hn) ((l.mono sm).thaw is) is q⟩
/-- freezing an expression's value -/
def Frz (d : D) (Γ : Ga) (M : Mem) (Q : D → Ga → Mem → Prop) : Prop := Q d Γ M ∨ ∃ a ds, d = .ptr a ∧ M a = some (.lst ds) ∧ Q (.lst ds) (thaw a (.lst ds) Γ) (M.del a)
theorem de_frz (h : DE K ta Γ M fun d Γ' M' => Frz d Γ' M' Q) : DE K ta Γ M Q := fun F σ H R s l k => by
  refine h F σ H R s l fun F' v H' d Γ' M' e s' l' is q => ?_
  rcases q with q | ⟨a, ds, rfl, hm, q⟩
  · exact k F' v H' d Γ' M' e s' l' is q
  · cases is
    obtain ⟨hn, xs, ho, hx⟩ := s'.cell a _ hm
    have sm : Same F' (upd F' a (.lst xs)) := same_upd hn
    have is : Is K (upd F' a (.lst xs)) (.ref a) (.lst ds) := .lst upd_same (hx.mono sm)
    exact k _ _ H' (.lst ds) _ _ (e.trans sm) (s'.freeze ho hn) ((l'.mono sm).thaw is) is q
theorem de_int {i : Int} (q : Q (.int i) Γ M) : DE K (tC (.int i)) Γ M Q := fun F σ H R s l k => k F _ H (.int i) Γ M (Same.refl F) s l (.int i) q
theorem de_bl {i : Bool} (q : Q (.bl i) Γ M) : DE K (tC (.bl i)) Γ M Q := fun F σ H R s l k => k F _ H (.bl i) Γ M (Same.refl F) s l (.bl i) q
theorem de_non (q : Q .non Γ M) : DE K (tC .non) Γ M Q := fun F σ H R s l k => k F _ H .non Γ M (Same.refl F) s l .non q
theorem de_str {x : Str} (q : Q (.str x) Γ M) : DE K (tC (.str x)) Γ M Q := fun F σ H R s l k => k F _ H (.str x) Γ M (Same.refl F) s l (.str x) q
/-- a constant of the written part -/
theorem de_c {v : V} {d : D} (h : ∀ F, Is K F v d) (q : Q d Γ M) : DE K (tC v) Γ M Q := fun F σ H R s l k => k F _ H d Γ M (Same.refl F) s l (h F) q
theorem de_op (h : DE K ta Γ M fun x Γ1 M1 => DE K tb Γ1 M1 fun y Γ2 M2 => DR K r x y Γ2 M2 Q) : DE K (tOp r ta tb) Γ M Q := fun F σ H R s l k => by
  refine h F σ H _ s l fun F1 vx H1 x Γ1 M1 e1 s1 l1 ix q1 => ?_
  refine q1 F1 σ H1 _ s1 l1 fun F2 vy H2 y Γ2 M2 e2 s2 l2 iy q2 => ?_
  exact q2 F2 σ H2 vx vy R s2 l2 (ix.mono e2) iy fun F3 v H3 d Γ3 M3 e3 s3 l3 i3 q3 => k F3 v H3 d Γ3 M3 ((e1.trans e2).trans e3) s3 l3 i3 q3
theorem de_un {r : V → Hp → VK → Prop} (h : DE K ta Γ M fun x Γ1 M1 => DU K r x Γ1 M1 Q) : DE K (tUn r ta) Γ M Q := fun F σ H R s l k => by
  refine h F σ H _ s l fun F1 vx H1 x Γ1 M1 e1 s1 l1 ix q1 => ?_
  exact q1 F1 σ H1 vx R s1 l1 ix fun F3 v H3 d Γ3 M3 e3 s3 l3 i3 q3 => k F3 v H3 d Γ3 M3 (e1.trans e3) s3 l3 i3 q3
theorem de_if (h : DT K t Γ M fun b Γ' M' => (b = true → DE K ta Γ' M' Q) ∧ (b = false → DE K tb Γ' M' Q)) : DE K (tIf t ta tb) Γ M Q := fun F σ H R s l k => by
  refine h F σ H _ s l fun F1 b H1 Γ1 M1 e1 s1 l1 q1 => ?_
  cases b with
  | true => exact q1.1 rfl F1 σ H1 R s1 l1 fun F3 v H3 d Γ3 M3 e3 s3 l3 i3 q3 => k F3 v H3 d Γ3 M3 (e1.trans e3) s3 l3 i3 q3
  | false => exact q1.2 rfl F1 σ H1 R s1 l1 fun F3 v H3 d Γ3 M3 e3 s3 l3 i3 q3 => k F3 v H3 d Γ3 M3 (e1.trans e3) s3 l3 i3 q3
/-! arguments -/
theorem da_nil {Q : List D → Ga → Mem → Prop} (q : Q [] Γ M) : DA K tNil Γ M Q := fun F σ H R s l k => k F [] H [] Γ M (Same.refl F) s l .nil q
theorem da_cons {tr : TA} {Q : List D → Ga → Mem → Prop} (h : DE K ta Γ M fun x Γ1 M1 => DA K tr Γ1 M1 fun xs Γ2 M2 => Q (x :: xs) Γ2 M2) : DA K (tCons ta tr) Γ M Q := fun F σ H R s l k => by
  refine h F σ H _ s l fun F1 vx H1 x Γ1 M1 e1 s1 l1 ix q1 => ?_
  exact q1 F1 σ H1 _ s1 l1 fun F2 vs H2 xs Γ2 M2 e2 s2 l2 iy q2 => k F2 (vx :: vs) H2 (x :: xs) Γ2 M2 (e1.trans e2) s2 l2 (.cons (ix.mono e2) iy) q2
/-! displays -/
theorem new_lst {F H : Hp} {σ : St} {p : Addr} {xs : List V} {ds : List D} (s : Sat K F M H) (l : Loc K F σ Γ) (hp : H p = none) (hx : IsAll K F xs ds) :
    Same F (upd F p (.lst xs)) ∧ Sat K (upd F p (.lst xs)) M (upd H p (.lst xs)) ∧ Loc K (upd F p (.lst xs)) σ Γ ∧ Is K (upd F p (.lst xs)) (.ref p) (.lst ds) := by
  have sm : Same F (upd F p (.lst xs)) := same_upd (s.none_of hp).1
  exact ⟨sm, s.laid hp, l.mono sm, .lst upd_same (hx.mono sm)⟩
theorem new_tup {F H : Hp} {σ : St} {p : Addr} {xs : List V} {ds : List D} (s : Sat K F M H) (l : Loc K F σ Γ) (hp : H p = none) (hx : IsAll K F xs ds) :
    Same F (upd F p (.tup xs)) ∧ Sat K (upd F p (.tup xs)) M (upd H p (.tup xs)) ∧ Loc K (upd F p (.tup xs)) σ Γ ∧ Is K (upd F p (.tup xs)) (.ref p) (.tup ds) := by
  have sm : Same F (upd F p (.tup xs)) := same_upd (s.none_of hp).1
  exact ⟨sm, s.laid hp, l.mono sm, .tup (SqT.of upd_same) (hx.mono sm)⟩
theorem new_cell {F H : Hp} {σ : St} {p : Addr} {xs : List V} {ds : List D} (s : Sat K F M H) (l : Loc K F σ Γ) (hp : H p = none) (hx : IsAll K F xs ds) :
    Sat K F (M.put p (.lst ds)) (upd H p (.lst xs)) := s.newCell hp ⟨xs, upd_same, hx⟩
theorem de_tup {t : TA} (h : DA K t Γ M fun ds Γ' M' => ds.length ≤ sizeLine ∧ Q (.tup ds) Γ' M') : DE K (tTup t) Γ M Q := fun F σ H R s l k => by
  refine h F σ H _ s l fun F1 vs H1 ds Γ1 M1 e1 s1 l1 ix q1 => ⟨by rw [ix.length]; exact q1.1, fun p hp => ?_⟩
  obtain ⟨a, b, c, d⟩ := new_tup s1 l1 hp ix
  exact k _ _ _ _ _ _ (e1.trans a) b c d q1.2
theorem de_lst {t : TA} (h : DA K t Γ M fun ds Γ' M' => ds.length ≤ sizeLine ∧ Q (.lst ds) Γ' M') : DE K (tLst t) Γ M Q := fun F σ H R s l k => by
  refine h F σ H _ s l fun F1 vs H1 ds Γ1 M1 e1 s1 l1 ix q1 => ⟨by rw [ix.length]; exact q1.1, fun p hp => ?_⟩
  obtain ⟨a, b, c, d⟩ := new_lst s1 l1 hp ix
  exact k _ _ _ _ _ _ (e1.trans a) b c d q1.2
/-- a list that is to be changed -/
theorem de_lstP {t : TA} (h : DA K t Γ M fun ds Γ' M' => ds.length ≤ sizeLine ∧ ∀ p, M' p = none → Q (.ptr p) Γ' (M'.put p (.lst ds))) : DE K (tLst t) Γ M Q := fun F σ H R s l k => by
  refine h F σ H _ s l fun F1 vs H1 ds Γ1 M1 e1 s1 l1 ix q1 => ⟨by rw [ix.length]; exact q1.1, fun p hp => ?_⟩
  exact k F1 _ _ _ Γ1 _ e1 (new_cell s1 l1 hp ix) l1 (.ptr p) (q1.2 p (s1.none_of hp).2)

/-! ### tests -/
theorem dt_b {R : Bool → Ga → Mem → Prop} (h : DE K ta Γ M fun d Γ' M' => ∃ b, d = .bl b ∧ R b Γ' M') : DT K (tB ta) Γ M R := fun F σ H R' s l k => by
  refine h F σ H _ s l fun F1 vx H1 x Γ1 M1 e1 s1 l1 ix q1 => ?_
  obtain ⟨b, rfl, q⟩ := q1
  cases ix
  exact ⟨b, rfl, k F1 b H1 Γ1 M1 e1 s1 l1 q⟩
theorem dt_test {R : Bool → Ga → Mem → Prop} (h : DE K ta Γ M fun d Γ' M' => ∃ b, d = .bl b ∧ R b Γ' M') : DT K (tTest ta) Γ M R := fun F σ H R' s l k => by
  refine h F σ H _ s l fun F1 vx H1 x Γ1 M1 e1 s1 l1 ix q1 => ?_
  obtain ⟨b, rfl, q⟩ := q1
  cases ix
  exact ⟨b, rfl, k F1 b H1 Γ1 M1 e1 s1 l1 q⟩
theorem dt_and {R : Bool → Ga → Mem → Prop} (h : DT K t Γ M fun b Γ' M' => (b = true → DT K u Γ' M' R) ∧ (b = false → R false Γ' M')) : DT K (tAnd t u) Γ M R := fun F σ H R' s l k => by
  refine h F σ H _ s l fun F1 b H1 Γ1 M1 e1 s1 l1 q1 => ?_
  cases b with
  | true => exact q1.1 rfl F1 σ H1 _ s1 l1 fun F2 b2 H2 Γ2 M2 e2 s2 l2 q2 => k F2 b2 H2 Γ2 M2 (e1.trans e2) s2 l2 q2
  | false => exact k F1 false H1 Γ1 M1 e1 s1 l1 (q1.2 rfl)
theorem dt_or {R : Bool → Ga → Mem → Prop} (h : DT K t Γ M fun b Γ' M' => (b = false → DT K u Γ' M' R) ∧ (b = true → R true Γ' M')) : DT K (tOr t u) Γ M R := fun F σ H R' s l k => by
  refine h F σ H _ s l fun F1 b H1 Γ1 M1 e1 s1 l1 q1 => ?_
  cases b with
  | false => exact q1.1 rfl F1 σ H1 _ s1 l1 fun F2 b2 H2 Γ2 M2 e2 s2 l2 q2 => k F2 b2 H2 Γ2 M2 (e1.trans e2) s2 l2 q2
  | true => exact k F1 true H1 Γ1 M1 e1 s1 l1 (q1.2 rfl)
theorem dt_not {R : Bool → Ga → Mem → Prop} (h : DT K t Γ M fun b Γ' M' => R (!b) Γ' M') : DT K (tNot t) Γ M R := fun F σ H R' s l k =>
  h F σ H _ s l fun F1 b H1 Γ1 M1 e1 s1 l1 q1 => k F1 (!b) H1 Γ1 M1 e1 s1 l1 q1

/-! ### statements -/
theorem ds_next (h : P.nx Γ M) : DS K tNext Γ M P := fun F σ H D s l k => k.nx F σ H Γ M (Same.refl F) s l h
theorem ds_seq {t u : TS} (h : DS K t Γ M { P with nx := fun Γ' M' => DS K u Γ' M' P }) : DS K (tSeq t u) Γ M P := fun F σ H D s l k =>
  h F σ H { D with nx := u D } s l ⟨fun F1 σ1 H1 Γ1 M1 e s1 l1 q => q F1 σ1 H1 D s1 l1 (k.mono e), k.rt, k.bk, k.ct⟩
theorem ds_ret (h : DE K te Γ M fun d _ M' => P.rt d M') : DS K (tRet te) Γ M P := fun F σ H D s l k =>
  h F σ H D.rt s l fun F1 v H1 d Γ1 M1 e s1 l1 is q => k.rt F1 v H1 d M1 e s1 is q
theorem ds_retN (h : P.rt .non M) : DS K tRetN Γ M P := fun F σ H D s l k => k.rt F .non H .non M (Same.refl F) s .non h
theorem ds_set {i : Nat} (h : DE K te Γ M fun d Γ' M' => P.nx (Γ'.set i (some d)) M') : DS K (tAsg te (gName i)) Γ M P := fun F σ H D s l k =>
  h F σ H _ s l fun F1 v H1 d Γ1 M1 e s1 l1 is q => k.nx F1 _ H1 _ M1 e s1 (l1.set i is) q
theorem ds_drop (h : DE K te Γ M fun _ Γ' M' => P.nx Γ' M') : DS K (tDrop te) Γ M P := fun F σ H D s l k =>
  h F σ H _ s l fun F1 v H1 d Γ1 M1 e s1 l1 is q => k.nx F1 σ H1 Γ1 M1 e s1 l1 q
theorem ds_if {t u : TS} {c : TT} (h : DT K c Γ M fun b Γ' M' => (b = true → DS K t Γ' M' P) ∧ (b = false → DS K u Γ' M' P)) : DS K (tIfS c t u) Γ M P := fun F σ H D s l k => by
  refine h F σ H _ s l fun F1 b H1 Γ1 M1 e1 s1 l1 q1 => ?_
  cases b with
  | true => exact q1.1 rfl F1 σ H1 D s1 l1 (k.mono e1)
  | false => exact q1.2 rfl F1 σ H1 D s1 l1 (k.mono e1)
theorem ds_break (h : P.bk Γ M) : DS K tBreak Γ M P := fun F σ H D s l k => k.bk F σ H Γ M (Same.refl F) s l h
theorem ds_cont (h : P.ct Γ M) : DS K tCont Γ M P := fun F σ H D s l k => k.ct F σ H Γ M (Same.refl F) s l h
theorem DS.imp {t : TS} {P' : DEnds} (h : DS K t Γ M P) (hn : ∀ Γ M, P.nx Γ M → P'.nx Γ M) (hr : ∀ d M, P.rt d M → P'.rt d M) (hb : ∀ Γ M, P.bk Γ M → P'.bk Γ M) (hc : ∀ Γ M, P.ct Γ M → P'.ct Γ M) : DS K t Γ M P' := fun F σ H D s l k =>
  h F σ H D s l ⟨fun F1 σ1 H1 Γ1 M1 e s1 l1 q => k.nx F1 σ1 H1 Γ1 M1 e s1 l1 (hn _ _ q), fun F1 v H1 d M1 e s1 i q => k.rt F1 v H1 d M1 e s1 i (hr _ _ q),
    fun F1 σ1 H1 Γ1 M1 e s1 l1 q => k.bk F1 σ1 H1 Γ1 M1 e s1 l1 (hb _ _ q), fun F1 σ1 H1 Γ1 M1 e s1 l1 q => k.ct F1 σ1 H1 Γ1 M1 e s1 l1 (hc _ _ q)⟩
/-- fewer slots, fewer cells are known -/
theorem DS.less {t : TS} {M' : Mem} (h : DS K t Γ M' P) (hm : M'.le M) : DS K t Γ M P := fun F σ H D s l k => h F σ H D (s.less hm) l k

/-! ### what a def promises -/
/-- a def by its data: what it asks, what it gives -/
structure Spec where
  pre : List D → Mem → Prop
  post : List D → Mem → D → Mem → Prop
def spD (K : W.Frag) (S : Spec) : Sp := fun vs H Q _ => ∃ F M ds, Sat K F M H ∧ IsAll K F vs ds ∧ S.pre ds M ∧
  ∀ F' v H' d M', Same F F' → Sat K F' M' H' → Is K F' v d → S.post ds M d M' → Q v H'
theorem de_call {S : Spec} {t : TA} {E : XK} (h : DA K t Γ M fun ds Γ' M' => S.pre ds M' ∧ ∀ d M'', S.post ds M' d M'' → Q d Γ' M'') : DE K (tCall (spD K S) [] E t) Γ M Q := fun F σ H R s l k => by
  refine h F σ H _ s l fun F1 vs H1 ds Γ1 M1 e1 s1 l1 ix q1 => ?_
  show spD K S (vs ++ []) H1 R E
  rw [List.append_nil]
  exact ⟨F1, M1, ds, s1, ix, q1.1, fun F' v H' d M' e s' i' hp => k F' v H' d Γ1 M' (e1.trans e) s' (l1.mono e) i' (q1.2 d M' hp)⟩
/-- the body of a def, by its data -/
theorem fn_body {S : Spec} {t : TS} {vs : List V} {H : Hp} {Q : VK} {E : XK} {N : List Str} {n : Nat} (hn : n = N.length - vs.length) (h : spD K S vs H Q E)
    (hb : ∀ ds M, S.pre ds M → ds.length = vs.length → DS K t (ds.map some ++ List.replicate n none) M { nx := fun _ M' => ∃ M'', M''.le M' ∧ S.post ds M .non M'', rt := fun d M' => ∃ M'', M''.le M' ∧ S.post ds M d M'' }) :
    t { nx := fun _ H' => Q .non H', rt := Q } (start N vs) H := by
  obtain ⟨F, M, ds, s, ix, hp, k⟩ := h
  have e : start N vs = vs.map some ++ List.replicate n none := by rw [hn]; rfl
  rw [e]
  refine hb ds M hp ix.length.symm F _ H _ s (Loc.start n ix) ⟨fun F' σ' H' Γ' M' e s' l' q => ?_, fun F' v H' d M' e s' i q => ?_, fun _ _ _ _ _ _ _ _ q => q.elim, fun _ _ _ _ _ _ _ _ q => q.elim⟩
  · obtain ⟨M'', le, q⟩ := q
    exact k F' .non H' .non M'' e (s'.less le) .non q
  · obtain ⟨M'', le, q⟩ := q
    exact k F' v H' d M'' e (s'.less le) i q
end
end D2

set_option maxRecDepth 100000
set_option maxHeartbeats 2000000
namespace D2
open PySem L2
/-! ### what a loop walks -/
structure Walks (K : W.Frag) (J : It) (F : Hp) (ds : List D) : Prop where
  go : ∀ F' M H i d, Same F F' → Sat K F' M H → ds[i]? = some d → J.go i H ∧ ∀ x H', J.yld i H x H' → ∃ F'', Same F' F'' ∧ Sat K F'' M H' ∧ Is K F'' x d
  stop : ∀ F' M H, Same F F' → Sat K F' M H → J.stop ds.length H
theorem Walks.mono {K : W.Frag} {J : It} {F F' : Hp} {ds : List D} (w : Walks K J F ds) (e : Same F F') : Walks K J F' ds :=
  ⟨fun F1 M H i d s => w.go F1 M H i d (e.trans s), fun F1 M H s => w.stop F1 M H (e.trans s)⟩
def DI (K : W.Frag) (wi : TI) (Γ : Ga) (M : Mem) (Q : List D → Ga → Mem → Prop) : Prop :=
  ∀ (F : Hp) (σ : St) (H : Hp) (R : It → Hp → Prop), Sat K F M H → Loc K F σ Γ →
    (∀ F' J H' ds Γ' M', Same F F' → Sat K F' M' H' → Loc K F' σ Γ' → Walks K J F' ds → Q ds Γ' M' → R J H') → wi σ H R
def DG (K : W.Frag) (g : TG) (d : D) (Γ : Ga) (M : Mem) (Q : Ga → Mem → Prop) : Prop :=
  ∀ (F : Hp) (σ : St) (H : Hp) (v : V) (R : St → Hp → Prop), Sat K F M H → Loc K F σ Γ → Is K F v d →
    (∀ F' σ' H' Γ' M', Same F F' → Sat K F' M' H' → Loc K F' σ' Γ' → Q Γ' M' → R σ' H') → g v σ H R
def DGs (K : W.Frag) (g : TGs) (ds : List D) (Γ : Ga) (M : Mem) (Q : Ga → Mem → Prop) : Prop :=
  ∀ (F : Hp) (σ : St) (H : Hp) (vs : List V) (R : St → Hp → Prop), Sat K F M H → Loc K F σ Γ → IsAll K F vs ds →
    (∀ F' σ' H' Γ' M', Same F F' → Sat K F' M' H' → Loc K F' σ' Γ' → Q Γ' M' → R σ' H') → g vs σ H R
section
variable {K : W.Frag} {Γ : Ga} {M : Mem} {ta tb te tl : TE} {P : DEnds}
theorem dg_name {i : Nat} {d : D} {Q : Ga → Mem → Prop} (q : Q (Γ.set i (some d)) M) : DG K (gName i) d Γ M Q := fun F σ H v R s l is k =>
  k F _ H _ M (Same.refl F) s (l.set i is) q
theorem dgs_nil {Q : Ga → Mem → Prop} (q : Q Γ M) : DGs K gNil [] Γ M Q := fun F σ H v R s l is k => by
  cases is
  exact ⟨rfl, k F σ H Γ M (Same.refl F) s l q⟩
theorem dgs_cons {g : TG} {gs : TGs} {d : D} {ds : List D} {Q : Ga → Mem → Prop} (h : DG K g d Γ M fun Γ' M' => DGs K gs ds Γ' M' Q) : DGs K (gCons g gs) (d :: ds) Γ M Q := fun F σ H v R s l is k => by
  cases is with
  | cons h1 h2 =>
    refine ⟨_, _, rfl, h F σ H _ _ s l h1 fun F1 σ1 H1 Γ1 M1 e s1 l1 q => ?_⟩
    exact q F1 σ1 H1 _ _ s1 l1 (h2.mono e) fun F2 σ2 H2 Γ2 M2 e2 s2 l2 q2 => k F2 σ2 H2 Γ2 M2 (e.trans e2) s2 l2 q2
theorem dg_tup {gs : TGs} {ds : List D} {n : Nat} {Q : Ga → Mem → Prop} (hn : ds.length = n) (h : DGs K gs ds Γ M Q) : DG K (gTup K n gs) (.tup ds) Γ M Q := fun F σ H v R s l is k => by
  cases is with
  | tup h1 h2 => exact ⟨_, _, rfl, sqt_mono s.sub h1, by rw [h2.length]; exact hn, h F σ H _ R s l h2 k⟩
theorem ds_asg {g : TG} (h : DE K te Γ M fun d Γ' M' => DG K g d Γ' M' P.nx) : DS K (tAsg te g) Γ M P := fun F σ H D s l k =>
  h F σ H _ s l fun F1 v H1 d Γ1 M1 e s1 l1 is q => q F1 σ H1 v _ s1 l1 is fun F2 σ2 H2 Γ2 M2 e2 s2 l2 q2 => k.nx F2 σ2 H2 Γ2 M2 (e.trans e2) s2 l2 q2
theorem ds_par {i j : Nat} {ta : TA} (h : DA K ta Γ M fun ds Γ' M' => ∃ d e, ds = [d, e] ∧ P.nx ((Γ'.set i (some d)).set j (some e)) M') : DS K (tPar i j ta) Γ M P := fun F σ H D s l k =>
  h F σ H _ s l fun F1 vs H1 ds Γ1 M1 e s1 l1 is q => by
    obtain ⟨d, d', rfl, q⟩ := q
    cases is with
    | cons h1 h2 =>
      cases h2 with
      | cons h2 h3 =>
        cases h3
        exact ⟨_, _, rfl, k.nx F1 _ H1 _ M1 e s1 ((l1.set i h1).set j h2) q⟩

/-! sources -/
theorem di_list {Q : List D → Ga → Mem → Prop} (h : DE K tl Γ M fun d Γ' M' => ∃ ds, d = .lst ds ∧ Q ds Γ' M') : DI K (iList K tl) Γ M Q := fun F σ H R s l k => by
  refine h F σ H _ s l fun F1 v H1 d Γ1 M1 e s1 l1 is q => ?_
  obtain ⟨ds, rfl, q⟩ := q
  cases is with
  | @lst a xs _ h1 h2 =>
    refine ⟨a, rfl, ⟨xs, SqL.of (s1.sub _ _ h1)⟩, k F1 _ H1 ds Γ1 M1 e s1 l1 ⟨fun F' M' H' i d e' s' hd => ?_, fun F' M' H' e' s' => ?_⟩ q⟩
    · have q : SqL K H' a xs := SqL.of (s'.sub _ _ (e' _ _ h1))
      obtain ⟨x, hx, ix⟩ := h2.get hd
      refine ⟨⟨xs, x, q, hx⟩, fun y H'' z => ?_⟩
      obtain ⟨rfl, z⟩ := z
      have z' := (z xs q).symm.trans hx
      cases z'
      exact ⟨F', Same.refl F', s', ix.mono e'⟩
    · exact ⟨xs, SqL.of (s'.sub _ _ (e' _ _ h1)), by rw [h2.length]; exact Nat.le_refl _⟩
theorem di_tup {Q : List D → Ga → Mem → Prop} (h : DE K tl Γ M fun d Γ' M' => ∃ ds, d = .tup ds ∧ Q ds Γ' M') : DI K (iTup K tl) Γ M Q := fun F σ H R s l k => by
  refine h F σ H _ s l fun F1 v H1 d Γ1 M1 e s1 l1 is q => ?_
  obtain ⟨ds, rfl, q⟩ := q
  cases is with
  | @tup a xs _ h1 h2 =>
    refine ⟨a, rfl, ⟨xs, sqt_mono s1.sub h1⟩, k F1 _ H1 ds Γ1 M1 e s1 l1 ⟨fun F' M' H' i d e' s' hd => ?_, fun F' M' H' e' s' => ?_⟩ q⟩
    · have q : SqT K H' a xs := sqt_mono s'.sub (sqt_mono e' h1)
      obtain ⟨x, hx, ix⟩ := h2.get hd
      refine ⟨⟨xs, x, q, hx⟩, fun y H'' z => ?_⟩
      obtain ⟨rfl, z⟩ := z
      have z' := (z xs q).symm.trans hx
      cases z'
      exact ⟨F', Same.refl F', s', ix.mono e'⟩
    · exact ⟨xs, sqt_mono s'.sub (sqt_mono e' h1), by rw [h2.length]; exact Nat.le_refl _⟩
/-- the signs of a text as data -/
def signs (x : Str) : List D := x.cps.toList.map fun c => .str ⟨#[c]⟩
theorem di_str {Q : List D → Ga → Mem → Prop} (h : DE K tl Γ M fun d Γ' M' => ∃ x, d = .str x ∧ Q (signs x) Γ' M') : DI K (iStr tl) Γ M Q := fun F σ H R s l k => by
  refine h F σ H _ s l fun F1 v H1 d Γ1 M1 e s1 l1 is q => ?_
  obtain ⟨x, rfl, q⟩ := q
  cases is
  have hl : (signs x).length = x.cps.size := by unfold signs; rw [List.length_map, Array.length_toList]
  refine ⟨x, rfl, k F1 _ H1 _ Γ1 M1 e s1 l1 ⟨fun F' M' H' i d e' s' hd => ?_, fun F' M' H' e' s' => by rw [hl]; exact Nat.le_refl _⟩ q⟩
  have hi : i < x.cps.size := by rw [← hl]; exact (List.getElem?_eq_some_iff.mp hd).1
  refine ⟨hi, fun y H'' z => ?_⟩
  obtain ⟨rfl, c, hc, rfl⟩ := z
  have e2 : d = .str ⟨#[c]⟩ := by
    unfold signs at hd
    rw [List.getElem?_map, Array.getElem?_toList, hc] at hd
    exact (Option.some.inj hd).symm
  subst e2
  exact ⟨F', Same.refl F', s', .str _⟩
def nums (lo : Int) (n : Nat) : List D := (List.range n).map fun i : Nat => .int (lo + (i : Int))
theorem ints_length (lo : Int) (n : Nat) : (nums lo n).length = n := by unfold nums; rw [List.length_map, List.length_range]
theorem ints_get {lo : Int} {n i : Nat} {d : D} (h : (nums lo n)[i]? = some d) : i < n ∧ d = .int (lo + i) := by
  have hi : i < n := by
    have q := (List.getElem?_eq_some_iff.mp h).1
    rw [ints_length] at q
    exact q
  unfold nums at h
  rw [List.getElem?_map, List.getElem?_range hi] at h
  exact ⟨hi, (Option.some.inj h).symm⟩
theorem walks_range {F : Hp} {lo : Int} {n : Nat} : Walks K (Itr lo n) F (nums lo n) where
  go := fun F' M' H' i d e' s' hd => by
    obtain ⟨hi, rfl⟩ := ints_get hd
    refine ⟨hi, fun y H'' z => ?_⟩
    obtain ⟨rfl, rfl⟩ := z
    exact ⟨F', Same.refl F', s', .int _⟩
  stop := fun F' M' H' e' s' => by rw [ints_length]; exact Nat.le_refl n
theorem isall_ints1 {F : Hp} {vs : List V} {j : Int} (h : IsAll K F vs [.int j]) : vs = [.int j] := by
  cases h with
  | cons a b => cases a; cases b; rfl
theorem isall_ints2 {F : Hp} {vs : List V} {i j : Int} (h : IsAll K F vs [.int i, .int j]) : vs = [.int i, .int j] := by
  cases h with
  | cons a b =>
    cases a
    rw [isall_ints1 b]
theorem di_range1 {t : TA} {Q : List D → Ga → Mem → Prop} (h : DA K t Γ M fun ds Γ' M' => ∃ j : Int, ds = [.int j] ∧ -(2 ^ 62) ≤ j ∧ j < 2 ^ 62 ∧ Q (nums 0 j.toNat) Γ' M') : DI K (iRng1 t) Γ M Q := fun F σ H R s l k => by
  refine h F σ H _ s l fun F1 vs H1 ds Γ1 M1 e s1 l1 is q => ?_
  obtain ⟨j, rfl, h1, h2, q⟩ := q
  exact ⟨j, isall_ints1 is, h1, h2, k F1 _ H1 _ Γ1 M1 e s1 l1 walks_range q⟩
theorem di_range2 {t : TA} {Q : List D → Ga → Mem → Prop} (h : DA K t Γ M fun ds Γ' M' => ∃ i j : Int, ds = [.int i, .int j] ∧ (-(2 ^ 62) ≤ i ∧ i < 2 ^ 62 ∧ -(2 ^ 62) ≤ j ∧ j < 2 ^ 62) ∧ Q (nums i (j - i).toNat) Γ' M') : DI K (iRng2 t) Γ M Q := fun F σ H R s l k => by
  refine h F σ H _ s l fun F1 vs H1 ds Γ1 M1 e s1 l1 is q => ?_
  obtain ⟨i, j, rfl, h1, q⟩ := q
  exact ⟨i, j, isall_ints2 is, h1, k F1 _ H1 _ Γ1 M1 e s1 l1 walks_range q⟩
def pairsI (n : Nat) : List D → List D
  | [] => []
  | d :: ds => .tup [.int (n : Int), d] :: pairsI (n + 1) ds
theorem pairsI_length : ∀ (n : Nat) (ds : List D), (pairsI n ds).length = ds.length
  | _, [] => rfl
  | n, _ :: ds => congrArg (· + 1) (pairsI_length (n + 1) ds)
theorem pairsI_get : ∀ {n : Nat} {ds : List D} {i : Nat} {d : D}, (pairsI n ds)[i]? = some d → ∃ e, ds[i]? = some e ∧ d = .tup [.int ((n + i : Nat) : Int), e]
  | _, [], _, _, h => by simp [pairsI] at h
  | n, e :: ds, 0, d, h => ⟨e, rfl, by
    have q : D.tup [.int (n : Int), e] = d := by simpa [pairsI] using h
    rw [← q, Nat.add_zero]⟩
  | n, _ :: ds, i + 1, d, h => by
    obtain ⟨e, h1, h2⟩ := pairsI_get (n := n + 1) (ds := ds) (i := i) (d := d) (by simpa [pairsI] using h)
    exact ⟨e, by simpa using h1, by rw [h2, show n + 1 + i = n + (i + 1) by omega]⟩
theorem di_enum {t : TA} {Q : List D → Ga → Mem → Prop} (h : DA K t Γ M fun ds Γ' M' => ∃ es, ds = [.lst es] ∧ Q (pairsI 0 es) Γ' M') : DI K (iEnum K t) Γ M Q := fun F σ H R s l k => by
  refine h F σ H _ s l fun F1 vs H1 ds Γ1 M1 e s1 l1 is q => ?_
  obtain ⟨es, rfl, q⟩ := q
  cases is with
  | cons i1 i2 =>
    cases i2
    cases i1 with
    | @lst a xs _ h1 h2 =>
      refine ⟨a, xs, rfl, SqL.of (s1.sub _ _ h1), k F1 _ H1 _ Γ1 M1 e s1 l1 ⟨fun F' M' H' i d e' s' hd => ?_, fun F' M' H' e' s' => ?_⟩ q⟩
      · have q : SqL K H' a xs := SqL.of (s'.sub _ _ (e' _ _ h1))
        obtain ⟨d', hd', rfl⟩ := pairsI_get hd
        obtain ⟨x, hx, ix⟩ := h2.get hd'
        refine ⟨⟨xs, x, q, hx⟩, fun y H'' z => ?_⟩
        obtain ⟨T, x', rfl, hT, rfl, z⟩ := z
        have z' := (z xs q).symm.trans hx
        cases z'
        refine ⟨_, same_upd (o := .tup [.int ((i : Nat) : Int), x]) (s'.none_of hT).1, s'.laid hT, .tup (SqT.of upd_same) (.cons ?_ (.cons ((ix.mono e').mono (same_upd (s'.none_of hT).1)) .nil))⟩
        rw [Nat.zero_add]
        exact .int _
      · exact ⟨xs, SqL.of (s'.sub _ _ (e' _ _ h1)), by rw [pairsI_length, h2.length]; exact Nat.le_refl _⟩

/-! ### for -/
theorem ds_for {wi : TI} {g : TG} {tb : TS} (Iv : List D → Nat → Ga → Mem → Prop) (h : DI K wi Γ M fun ds Γ1 M1 => Iv ds 0 Γ1 M1 ∧
    (∀ j d Γ M, ds[j]? = some d → Iv ds j Γ M → DG K g d Γ M fun Γ' M' => DS K tb Γ' M' { nx := Iv ds (j + 1), rt := P.rt, bk := P.nx, ct := Iv ds (j + 1) }) ∧
    ∀ Γ M, Iv ds ds.length Γ M → P.nx Γ M) : DS K (tFor wi g tb) Γ M P := fun F σ H D s l k => by
  refine h F σ H _ s l fun F1 J H1 ds Γ1 M1 e s1 l1 w q => ?_
  obtain ⟨q0, qs, qd⟩ := q
  refine ⟨fun i m σ' H' => m = ds.length - i ∧ i ≤ ds.length ∧ ∃ F' Γ' M', Same F1 F' ∧ Sat K F' M' H' ∧ Loc K F' σ' Γ' ∧ Iv ds i Γ' M', ⟨_, rfl, Nat.zero_le _, F1, Γ1, M1, Same.refl F1, s1, l1, q0⟩, ?_⟩
  rintro i m σ' H' ⟨rfl, hi, F', Γ', M', e', s', l', iv⟩
  by_cases hlt : i < ds.length
  · have hd : ds[i]? = some ds[i] := List.getElem?_eq_getElem hlt
    obtain ⟨hg, hy⟩ := w.go F' M' H' i _ e' s' hd
    refine .inr ⟨hg, fun σ2 H2 => ∃ F' Γ' M', Same F1 F' ∧ Sat K F' M' H2 ∧ Loc K F' σ2 Γ' ∧ Iv ds (i + 1) Γ' M', fun σ2 H2 ⟨F2, Γ2, M2, a, b, c, d⟩ => ⟨ds.length - (i + 1), by omega, rfl, hlt, F2, Γ2, M2, a, b, c, d⟩, fun x H2 yl => ?_⟩
    obtain ⟨F2, e2, s2, is2⟩ := hy x H2 yl
    refine qs i _ Γ' M' hd iv F2 σ' H2 x _ s2 (l'.mono e2) is2 fun F3 σ3 H3 Γ3 M3 e3 s3 l3 q3 => ?_
    have e13 : Same F1 F3 := (e'.trans e2).trans e3
    refine q3 F3 σ3 H3 _ s3 l3 ⟨fun F4 σ4 H4 Γ4 M4 e4 s4 l4 q4 => ⟨F4, Γ4, M4, e13.trans e4, s4, l4, q4⟩, fun F4 v4 H4 d4 M4 e4 s4 i4 q4 => k.rt F4 v4 H4 d4 M4 (e.trans (e13.trans e4)) s4 i4 q4,
      fun F4 σ4 H4 Γ4 M4 e4 s4 l4 q4 => k.nx F4 σ4 H4 Γ4 M4 (e.trans (e13.trans e4)) s4 l4 q4, fun F4 σ4 H4 Γ4 M4 e4 s4 l4 q4 => ⟨F4, Γ4, M4, e13.trans e4, s4, l4, q4⟩⟩
  · have ei : i = ds.length := by omega
    subst ei
    exact .inl ⟨w.stop F' M' H' e' s', k.nx F' σ' H' Γ' M' (e.trans e') s' l' (qd Γ' M' iv)⟩

/-! ### while -/
theorem ds_while {c : TT} {tb : TS} (Iv : Nat → Ga → Mem → Prop) (m0 : Nat) (h0 : Iv m0 Γ M)
    (hs : ∀ m Γ M, Iv m Γ M → DT K c Γ M fun b Γ' M' => (b = true → DS K tb Γ' M' { nx := fun Γ2 M2 => ∃ m', m' < m ∧ Iv m' Γ2 M2, rt := P.rt, bk := P.nx, ct := fun Γ2 M2 => ∃ m', m' < m ∧ Iv m' Γ2 M2 }) ∧ (b = false → P.nx Γ' M')) :
    DS K (tWhile c tb) Γ M P := fun F σ H D s l k => by
  refine ⟨fun m σ' H' => ∃ F' Γ' M', Same F F' ∧ Sat K F' M' H' ∧ Loc K F' σ' Γ' ∧ Iv m Γ' M', ⟨m0, F, Γ, M, Same.refl F, s, l, h0⟩, ?_⟩
  rintro m σ1 H1 ⟨F1, Γ1, M1, e1, s1, l1, iv⟩
  refine hs m Γ1 M1 iv F1 σ1 H1 _ s1 l1 fun F2 b H2 Γ2 M2 e2 s2 l2 q => ?_
  have e12 := e1.trans e2
  cases b with
  | true =>
    refine ⟨fun σ3 H3 => ∃ m', m' < m ∧ ∃ F' Γ' M', Same F F' ∧ Sat K F' M' H3 ∧ Loc K F' σ3 Γ' ∧ Iv m' Γ' M', fun σ3 H3 z => z, ?_⟩
    refine q.1 rfl F2 σ1 H2 _ s2 l2 ⟨fun F4 σ4 H4 Γ4 M4 e4 s4 l4 ⟨m', hm, q4⟩ => ⟨m', hm, F4, Γ4, M4, e12.trans e4, s4, l4, q4⟩, fun F4 v4 H4 d4 M4 e4 s4 i4 q4 => k.rt F4 v4 H4 d4 M4 (e12.trans e4) s4 i4 q4,
      fun F4 σ4 H4 Γ4 M4 e4 s4 l4 q4 => k.nx F4 σ4 H4 Γ4 M4 (e12.trans e4) s4 l4 q4, fun F4 σ4 H4 Γ4 M4 e4 s4 l4 ⟨m', hm, q4⟩ => ⟨m', hm, F4, Γ4, M4, e12.trans e4, s4, l4, q4⟩⟩
  | false => exact k.nx F2 σ1 H2 Γ2 M2 e12 s2 l2 (q.2 rfl)

/-! ### comprehensions -/
/-- how a target of a comprehension stores, the block's own names being vs -/
def DGc (K : W.Frag) (g : TG) (vs : List Nat) (d : D) (Γ : Ga) (M : Mem) (Q : Ga → Mem → Prop) : Prop :=
  ∀ (F : Hp) (σ : St) (H : Hp) (v : V) (R : St → Hp → Prop), Sat K F M H → Loc K F σ Γ → Is K F v d →
    (∀ F' σ' H' Γ' M', Same F F' → Sat K F' M' H' → Loc K F' σ' Γ' → wipe σ' vs = wipe σ vs → Q Γ' M' → R σ' H') → g v (wipe σ vs) H R
theorem wipe1 {σ : St} {i : Nat} {v : Option V} : wipe ((wipe σ [i]).set i v) [i] = wipe σ [i] := by
  show ((σ.set i none).set i v).set i none = σ.set i none
  rw [List.set_set, List.set_set]
theorem wipe2 {σ : St} {i j : Nat} {v w : Option V} (h : i ≠ j) : wipe (((wipe σ [i, j]).set i v).set j w) [i, j] = wipe σ [i, j] := by
  show (((((σ.set j none).set i none).set i v).set j w).set j none).set i none = (σ.set j none).set i none
  rw [List.set_set, List.set_set, List.set_comm _ _ h, List.set_set, List.set_set]
theorem dgc_1 {i : Nat} {d : D} {Q : Ga → Mem → Prop} (q : Q (Γ.set i (some d)) M) : DGc K (gName i) [i] d Γ M Q := fun F σ H v R s l is k => by
  refine k F _ H _ M (Same.refl F) s ?_ wipe1 q
  show Loc K F ((σ.set i none).set i (some v)) _
  rw [List.set_set]
  exact l.set i is
theorem dgc_2 {i j : Nat} {d e : D} (hij : i ≠ j) {Q : Ga → Mem → Prop} (q : Q ((Γ.set i (some d)).set j (some e)) M) : DGc K (gTup K 2 (gCons (gName i) (gCons (gName j) gNil))) [i, j] (.tup [d, e]) Γ M Q := fun F σ H v R s l is k => by
  cases is with
  | tup h1 h2 =>
    cases h2 with
    | cons a b =>
      cases b with
      | cons b c =>
        cases c
        refine ⟨_, _, rfl, sqt_mono s.sub h1, rfl, _, _, rfl, _, _, rfl, rfl, ?_⟩
        refine k F _ H _ M (Same.refl F) s ?_ (wipe2 hij) q
        show Loc K F ((((σ.set j none).set i none).set i (some _)).set j (some _)) _
        rw [List.set_set, List.set_comm _ _ (Ne.symm hij), List.set_set]
        exact (l.set i a).set j b
/-- [e for target in source if test]: nothing is changed by test and element -/
theorem lc_raw {wi : TI} {g : TG} {tt : TT} {vs : List Nat} {Q : D → Ga → Mem → Prop} (Iv : List D → Nat → List D → Prop) (h : DI K wi Γ M fun ds Γ1 M1 => ds.length ≤ sizeLine ∧ Iv ds 0 [] ∧
    (∀ j d acc p, ds[j]? = some d → Iv ds j acc → M1 p = none → DGc K g vs d Γ1 (M1.put p (.lst acc)) fun Γ2 M2 => M2 = M1.put p (.lst acc) ∧ DT K tt Γ2 (M1.put p (.lst acc)) fun b Γ3 M3 => M3 = M1.put p (.lst acc) ∧
      (b = true → DE K te Γ3 (M1.put p (.lst acc)) fun y _ M4 => M4 = M1.put p (.lst acc) ∧ Iv ds (j + 1) (acc ++ [y])) ∧ (b = false → Iv ds (j + 1) acc)) ∧
    ∀ acc p, Iv ds ds.length acc → M1 p = none → Q (.ptr p) Γ1 (M1.put p (.lst acc))) : DE K (tLc wi g tt te vs) Γ M Q := fun F σ H R s l k => by
  refine h F σ H _ s l fun F1 J H1 ds Γ1 M1 e1 s1 l1 w q p hp => ?_
  obtain ⟨hz, q0, qs, qd⟩ := q
  have hM := (s1.none_of hp).2
  have start : Sat K F1 (M1.put p (.lst [])) (upd H1 p (.lst [])) := s1.newCell hp ⟨[], upd_same, .nil⟩
  refine ⟨fun i m H' => m = ds.length - i ∧ i ≤ ds.length ∧ ∃ F' acc, Same F1 F' ∧ Sat K F' (M1.put p (.lst acc)) H' ∧ acc.length ≤ i ∧ Iv ds i acc, ⟨_, rfl, Nat.zero_le _, F1, [], Same.refl F1, start, Nat.le_refl _, q0⟩, ?_⟩
  rintro i m H' ⟨rfl, hi, F', acc, e', s', ha, iv⟩
  by_cases hlt : i < ds.length
  · have hd : ds[i]? = some ds[i] := List.getElem?_eq_getElem hlt
    obtain ⟨hg, hy⟩ := w.go F' _ H' i _ e' s' hd
    refine .inr ⟨hg, fun H2 => ∃ F' acc, Same F1 F' ∧ Sat K F' (M1.put p (.lst acc)) H2 ∧ acc.length ≤ i + 1 ∧ Iv ds (i + 1) acc, fun H2 ⟨F2, acc2, a, b, c, d⟩ => ⟨ds.length - (i + 1), by omega, rfl, hlt, F2, acc2, a, b, c, d⟩, fun x H2 yl => ?_⟩
    obtain ⟨F2, e2, s2, is2⟩ := hy x H2 yl
    refine qs i _ acc p hd iv hM F2 σ H2 x _ s2 (l1.mono (e'.trans e2)) is2 fun F3 σ3 H3 Γ3 M3 e3 s3 l3 hw q3 => ⟨hw, ?_⟩
    obtain ⟨rfl, q3⟩ := q3
    refine q3 F3 σ3 H3 _ s3 l3 fun F4 b H4 Γ4 M4 e4 s4 l4 q4 => ?_
    obtain ⟨rfl, qt, qf⟩ := q4
    have e14 : Same F1 F4 := ((e'.trans e2).trans e3).trans e4
    cases b with
    | true =>
      refine qt rfl F4 σ3 H4 _ s4 l4 fun F5 y H5 dy Γ5 M5 e5 s5 l5 iy q5 => ?_
      obtain ⟨rfl, q5⟩ := q5
      obtain ⟨hF, xs, hx, ix⟩ := s5.cell p _ Mem.put_same
      have hlen : xs.length = acc.length := ix.length
      refine ⟨xs, hx, by rw [hlen]; omega, F5, acc ++ [dy], e14.trans e5, ?_, by rw [List.length_append]; show acc.length + 1 ≤ i + 1; omega, q5⟩
      have z := s5.put (o := .lst (xs ++ [y])) (m' := .lst (acc ++ [dy])) Mem.put_same ⟨_, upd_same, ix.append (.cons iy .nil)⟩
      rw [Mem.put_put] at z
      exact z
    | false => exact ⟨F4, acc, e14, s4, by omega, qf rfl⟩
  · have ei : i = ds.length := by omega
    subst ei
    exact .inl ⟨w.stop F' _ H' e' s', k F' (.ref p) H' (.ptr p) Γ1 _ (e1.trans e') s' (l1.mono e') (.ptr p) (qd acc p iv hM)⟩
/-- its list taken as it is -/
theorem de_lc {wi : TI} {g : TG} {tt : TT} {vs : List Nat} {Q : D → Ga → Mem → Prop} (Iv : List D → Nat → List D → Prop) (h : DI K wi Γ M fun ds Γ1 M1 => ds.length ≤ sizeLine ∧ Iv ds 0 [] ∧
    (∀ j d acc p, ds[j]? = some d → Iv ds j acc → M1 p = none → DGc K g vs d Γ1 (M1.put p (.lst acc)) fun Γ2 M2 => M2 = M1.put p (.lst acc) ∧ DT K tt Γ2 (M1.put p (.lst acc)) fun b Γ3 M3 => M3 = M1.put p (.lst acc) ∧
      (b = true → DE K te Γ3 (M1.put p (.lst acc)) fun y _ M4 => M4 = M1.put p (.lst acc) ∧ Iv ds (j + 1) (acc ++ [y])) ∧ (b = false → Iv ds (j + 1) acc)) ∧
    ∀ acc, Iv ds ds.length acc → Q (.lst acc) Γ1 M1) : DE K (tLc wi g tt te vs) Γ M Q := fun F σ H R s l k => by
  refine lc_raw (Q := fun d Γ1 M' => ∃ p M1 acc, d = .ptr p ∧ M1 p = none ∧ M' = M1.put p (.lst acc) ∧ Q (.lst acc) Γ1 M1) Iv ?_ F σ H R s l fun F1 v H1 d Γ1 M' e1 s1 l1 is q => ?_
  · intro F σ H R s l k'
    refine h F σ H R s l fun F1 J H1 ds Γ1 M1 e1 s1 l1 w q => k' F1 J H1 ds Γ1 M1 e1 s1 l1 w ?_
    exact ⟨q.1, q.2.1, q.2.2.1, fun acc p iv hM => ⟨p, M1, acc, rfl, hM, rfl, q.2.2.2 acc iv⟩⟩
  · obtain ⟨p, M1, acc, rfl, hM, rfl, q⟩ := q
    cases is
    obtain ⟨hn, xs, ho, hx⟩ := s1.cell p _ Mem.put_same
    have sm : Same F1 (upd F1 p (.lst xs)) := same_upd hn
    have z := s1.freeze ho hn
    rw [Mem.put_del hM] at z
    exact k _ _ H1 (.lst acc) Γ1 M1 (e1.trans sm) z (l1.mono sm) (.lst upd_same (hx.mono sm)) q
theorem dt_yes {R : Bool → Ga → Mem → Prop} (h : R true Γ M) : DT K tYes Γ M R := fun F σ H R' s l k => k F true H Γ M (Same.refl F) s l h
end
end D2

set_option maxRecDepth 100000
set_option maxHeartbeats 400000
/-! generic readings of operators, and what they do to data -/
namespace D2
open PySem L2

/-! ### readings -/
def gAdd : R2 := fun x y H Q => rI0 (fun i j => .int (i + j)) x y H Q ∨ rAddS x y H Q ∨ rCat x y H Q
def gSubt : R2 := rI0 fun i j => .int (i - j)
def gMul : R2 := fun x y H Q => rI CMul (fun i j => .int (i * j)) x y H Q ∨ rI CMulW (fun i j => .int (i * j)) x y H Q
def gFdiv : R2 := rI CDivW fun i j => .int (i / j)
def gMod : R2 := rI (fun _ j => 0 < j) fun i j => .int (i % j)
def gPow : R2 := rI CPow fun i j => .int (i ^ j.toNat)
def gNeg : V → Hp → VK → Prop := rU fun i => .int (-i)
def gLt : R2 := rI0 fun i j => .bl (decide (i < j))
def gLe : R2 := rI0 fun i j => .bl (decide (i ≤ j))
def gGt : R2 := rI0 fun i j => .bl (decide (j < i))
def gGe : R2 := rI0 fun i j => .bl (decide (j ≤ i))
def gEq (K : W.Frag) : R2 := fun x y H Q => rEq x y H Q ∨ rEqD K x y H Q
def gNe (K : W.Frag) : R2 := fun x y H Q => rNe x y H Q ∨ rNeD K x y H Q
def gIn (K : W.Frag) : R2 := fun x y H Q => rInS x y H Q ∨ rIn K false x y H Q
def gNin (K : W.Frag) : R2 := fun x y H Q => rNotInS x y H Q ∨ rIn K true x y H Q
def gIs : R2 := fun x y H Q => rIsN x y H Q ∨ rIsB x y H Q
def gIsn : R2 := fun x y H Q => rNotN x y H Q ∨ rNotB x y H Q
def gSl (K : W.Frag) : V → Option Int → Option Int → Hp → VK → Prop := fun x lo hi H Q => rSlL K x lo hi H Q ∨ rSlS x lo hi H Q ∨ rSlT K x lo hi H Q
section
variable {X : Cx}
theorem og_add : OpR X (binaryOp .Add) gAdd := OpR.or op_add (OpR.or op_add_str op_cat)
theorem og_sub : OpR X (binaryOp .Sub) gSubt := op_sub
theorem og_mul : OpR X (binaryOp .Mult) gMul := OpR.or op_mul op_mulW
theorem og_fdiv : OpR X (binaryOp .FloorDiv) gFdiv := op_fdivW
theorem og_mod : OpR X (binaryOp .Mod) gMod := op_mod
theorem og_pow : OpR X (binaryOp .Pow) gPow := op_pow
theorem ug_neg : UnR X (unaryOp .USub) gNeg := un_neg
theorem og_lt : OpR X (compareOp .Lt) gLt := op_lt
theorem og_le : OpR X (compareOp .LtE) gLe := op_le
theorem og_gt : OpR X (compareOp .Gt) gGt := op_gt
theorem og_ge : OpR X (compareOp .GtE) gGe := op_ge
theorem og_eq (hu : X.A.units + 64 < cLine) : OpR X (compareOp .Eq) (gEq X.K) := OpR.or op_eq (op_eqD hu)
theorem og_ne (hu : X.A.units + 64 < cLine) : OpR X (compareOp .NotEq) (gNe X.K) := OpR.or op_ne (op_neD hu)
theorem og_in : OpR X (compareOp .In) (gIn X.K) := OpR.or op_inS op_in_seq
theorem og_nin : OpR X (compareOp .NotIn) (gNin X.K) := OpR.or op_notInS op_notIn_seq
theorem og_is : OpR X (compareOp .Is) gIs := OpR.or op_isN1 op_isBl
theorem og_isn : OpR X (compareOp .IsNot) gIsn := OpR.or op_notN1 op_notBl
theorem sg_sl : SlR X (gSl X.K) := SlR.or sl_list (SlR.or sl_str sl_tup)
/-- list(text) -/
def rListT : List V → Hp → VK → Prop := fun xs H Q => ∃ x : Str, xs = [.str x] ∧ x.cps.size ≤ sizeLine ∧ ∀ p, H p = none → Q (.ref p) (upd H p (.lst (x.cps.toList.map fun c => V.str ⟨#[c]⟩)))
theorem cg_listT (hc : X.calm = true) : CallR X (.type "list") rListT := by
  intro pins s σ H xs us Q I r h
  obtain ⟨x, rfl, hz, q⟩ := h
  obtain ⟨u, rfl, t, rfl⟩ := vals1 r
  refine call_list_str (hn := hz) (I.ok.hd hc) x t fun h' tk acc c' hk e hi => ?_
  have hlen : (x.cps.toList.map fun c => V.str ⟨#[c]⟩).length = acc.toList.length := by rw [List.length_map, Array.length_toList, Array.length_toList, hi.1]
  refine ⟨.ref s.heap.objs.size, _, I.laid hk (Nat.le_refl _) (show ObjOk X.prog X.w _ h' _ (.lst (x.cps.toList.map fun c => V.str ⟨#[c]⟩)) from
    ⟨by rw [List.length_map, Array.length_toList]; exact hz, acc.toList, c', vals_of_idx _ _ hlen.symm fun j u hj => ?_, by rw [Array.toArray_toList]; exact e⟩), rfl, q _ (I.hok.fresh (Nat.le_refl _))⟩
  obtain ⟨c, t', hcx, rfl⟩ := hi.2 j u (by rw [← Array.getElem?_toList]; exact hj)
  exact ⟨.str ⟨#[c]⟩, by rw [List.getElem?_map, Array.getElem?_toList, hcx]; rfl, ⟨_, rfl⟩⟩
def rListQ (K : W.Frag) : List V → Hp → VK → Prop := fun xs H Q => ∃ p ys, xs = [.ref p] ∧ (SqL K H p ys ∨ SqT K H p ys) ∧ ∀ l, H l = none → Q (.ref l) (upd H l (.lst ys))
def rListG (K : W.Frag) : List V → Hp → VK → Prop := fun xs H Q => rListQ K xs H Q ∨ rListT xs H Q
theorem cg_list (hc : X.calm = true) : CallR X (.type "list") (rListG X.K) := CallR.or call_list_of (cg_listT hc)
def rLenG (K : W.Frag) : List V → Hp → VK → Prop := fun xs H Q => ∃ x n, xs = [x] ∧ LenV K x H n ∧ Q (.int n) H
theorem cg_len : CallR X (.builtin "len") (rLenG X.K) := call_len
def rIntG : List V → Hp → VK → Prop := fun xs H Q => ((∃ i, xs = [.int i] ∧ Q (.int i) H) ∨ ∃ k, xs = [.bl k] ∧ Q (.int (if k then 1 else 0)) H) ∨ ∃ a n, xs = [.str a] ∧ PySem.intText? a = some n ∧ a.length ≤ 640 ∧ Q (.int n) H
theorem cg_int : CallR X (.type "int") rIntG := CallR.or call_int1 call_int_str
def rStrG : List V → Hp → VK → Prop := fun xs H Q => (∃ i, xs = [.int i] ∧ i.natAbs.log2 < 1920 ∧ Q (.str (toString i)) H) ∨ ∃ a, xs = [.str a] ∧ Q (.str a) H
def rIsG (K : W.Frag) : List V → Hp → VK → Prop := fun xs H Q => rIsi K xs H Q ∨ rIsiT K xs H Q
theorem cg_is : CallR X (.builtin "isinstance") (rIsG X.K) := CallR.or call_isi call_isiT
end

/-! ### data -/
section
variable {K : W.Frag} {Γ : Ga} {M : Mem} {Q : D → Ga → Mem → Prop}
theorem dr_addI {i j : Int} (q : Q (.int (i + j)) Γ M) : DR K gAdd (.int i) (.int j) Γ M Q := fun F σ H vx vy R s l ix iy k => by
  cases ix; cases iy
  exact .inl ⟨i, j, rfl, rfl, k F _ H _ Γ M (Same.refl F) s l (.int _) q⟩
theorem dr_addS {a b : Str} (hz : a.length + b.length ≤ sizeLine) (q : Q (.str (a ++ b)) Γ M) : DR K gAdd (.str a) (.str b) Γ M Q := fun F σ H vx vy R s l ix iy k => by
  cases ix; cases iy
  exact .inr (.inl ⟨a, b, rfl, rfl, hz, k F _ H _ Γ M (Same.refl F) s l (.str _) q⟩)
theorem dr_addL {as bs : List D} (hz : as.length + bs.length ≤ sizeLine) (q : Q (.lst (as ++ bs)) Γ M) : DR K gAdd (.lst as) (.lst bs) Γ M Q := fun F σ H vx vy R s l ix iy k => by
  cases ix with
  | lst h1 h2 =>
    cases iy with
    | lst g1 g2 =>
      refine .inr (.inr ⟨_, _, _, _, rfl, rfl, s.sub _ _ h1, s.sub _ _ g1, by rw [h2.length, g2.length]; exact hz, fun p hp => ?_⟩)
      obtain ⟨a, b, c, d⟩ := new_lst s l hp (h2.append g2)
      exact k _ _ _ _ _ _ a b c d q
theorem dr_sub {i j : Int} (q : Q (.int (i - j)) Γ M) : DR K gSubt (.int i) (.int j) Γ M Q := fun F σ H vx vy R s l ix iy k => by
  cases ix; cases iy
  exact ⟨i, j, rfl, rfl, k F _ H _ Γ M (Same.refl F) s l (.int _) q⟩
theorem dr_mul {i j : Int} (hc : CMul i j) (q : Q (.int (i * j)) Γ M) : DR K gMul (.int i) (.int j) Γ M Q := fun F σ H vx vy R s l ix iy k => by
  cases ix; cases iy
  exact .inl ⟨i, j, rfl, rfl, hc, k F _ H _ Γ M (Same.refl F) s l (.int _) q⟩
theorem dr_mulW {i j : Int} (hc : CMulW i j) (q : Q (.int (i * j)) Γ M) : DR K gMul (.int i) (.int j) Γ M Q := fun F σ H vx vy R s l ix iy k => by
  cases ix; cases iy
  exact .inr ⟨i, j, rfl, rfl, hc, k F _ H _ Γ M (Same.refl F) s l (.int _) q⟩
theorem dr_fdiv {i j : Int} (hc : CDivW i j) (q : Q (.int (i / j)) Γ M) : DR K gFdiv (.int i) (.int j) Γ M Q := fun F σ H vx vy R s l ix iy k => by
  cases ix; cases iy
  exact ⟨i, j, rfl, rfl, hc, k F _ H _ Γ M (Same.refl F) s l (.int _) q⟩
theorem dr_mod {i j : Int} (hc : 0 < j) (q : Q (.int (i % j)) Γ M) : DR K gMod (.int i) (.int j) Γ M Q := fun F σ H vx vy R s l ix iy k => by
  cases ix; cases iy
  exact ⟨i, j, rfl, rfl, hc, k F _ H _ Γ M (Same.refl F) s l (.int _) q⟩
theorem dr_pow {i j : Int} (hc : CPow i j) (q : Q (.int (i ^ j.toNat)) Γ M) : DR K gPow (.int i) (.int j) Γ M Q := fun F σ H vx vy R s l ix iy k => by
  cases ix; cases iy
  exact ⟨i, j, rfl, rfl, hc, k F _ H _ Γ M (Same.refl F) s l (.int _) q⟩
theorem du_neg {i : Int} (q : Q (.int (-i)) Γ M) : DU K gNeg (.int i) Γ M Q := fun F σ H vx R s l ix k => by
  cases ix
  exact ⟨i, rfl, k F _ H _ Γ M (Same.refl F) s l (.int _) q⟩
theorem dr_I0 {f : Int → Int → V} {g : Int → Int → D} (hf : ∀ F i j, Is K F (f i j) (g i j)) {i j : Int} (q : Q (g i j) Γ M) : DR K (rI0 f) (.int i) (.int j) Γ M Q := fun F σ H vx vy R s l ix iy k => by
  cases ix; cases iy
  exact ⟨i, j, rfl, rfl, k F _ H _ Γ M (Same.refl F) s l (hf F i j) q⟩
theorem dr_lt {i j : Int} (q : Q (.bl (decide (i < j))) Γ M) : DR K gLt (.int i) (.int j) Γ M Q := dr_I0 (g := fun i j => .bl (decide (i < j))) (fun _ _ _ => .bl _) q
theorem dr_le {i j : Int} (q : Q (.bl (decide (i ≤ j))) Γ M) : DR K gLe (.int i) (.int j) Γ M Q := dr_I0 (g := fun i j => .bl (decide (i ≤ j))) (fun _ _ _ => .bl _) q
theorem dr_gt {i j : Int} (q : Q (.bl (decide (j < i))) Γ M) : DR K gGt (.int i) (.int j) Γ M Q := dr_I0 (g := fun i j => .bl (decide (j < i))) (fun _ _ _ => .bl _) q
theorem dr_ge {i j : Int} (q : Q (.bl (decide (j ≤ i))) Γ M) : DR K gGe (.int i) (.int j) Γ M Q := dr_I0 (g := fun i j => .bl (decide (j ≤ i))) (fun _ _ _ => .bl _) q

/-! equality -/
mutual
inductive Pd : D → PyData → Prop
  | non : Pd .non .none
  | bl (b : Bool) : Pd (.bl b) (.bool b)
  | int (i : Int) : Pd (.int i) (.int i)
  | str (x : Str) : Pd (.str x) (.str x)
  | lst {ds : List D} {ps : List PyData} : Pds ds ps → Pd (.lst ds) (.list ps)
  | tup {ds : List D} {ps : List PyData} : Pds ds ps → Pd (.tup ds) (.tuple ps)
inductive Pds : List D → List PyData → Prop
  | nil : Pds [] []
  | cons {d : D} {p : PyData} {ds : List D} {ps : List PyData} : Pd d p → Pds ds ps → Pds (d :: ds) (p :: ps)
end
mutual
theorem dp_of {F H : Hp} (e : Same F H) : ∀ {p : PyData} {v : V} {d : D}, Pd d p → Is K F v d → Dp K H v p
  | _, _, _, .non, h => by cases h; exact .non
  | _, _, _, .bl b, h => by cases h; exact .bl b
  | _, _, _, .int b, h => by cases h; exact .int b
  | _, _, _, .str b, h => by cases h; exact .str b
  | _, _, _, .lst q, h => by cases h with | lst h r => exact .lst (SqL.of (e _ _ h)) (dps_of e q r)
  | _, _, _, .tup q, h => by cases h with | tup h r => exact .tup (sqt_mono e h) (dps_of e q r)
theorem dps_of {F H : Hp} (e : Same F H) : ∀ {p : List PyData} {v : List V} {d : List D}, Pds d p → IsAll K F v d → DpAll K H v p
  | _, _, _, .nil, h => by cases h; exact .nil
  | _, _, _, .cons p q, h => by cases h with | cons h r => exact .cons (dp_of e p h) (dps_of e q r)
end
theorem dr_eqD {x y : D} {p q : PyData} (hx : Pd x p) (hy : Pd y q) (sp : SeqAt.shaped p = true) (sq : SeqAt.shaped q = true) (qq : Q (.bl (PyData.eqv p q)) Γ M) : DR K (gEq K) x y Γ M Q := fun F σ H vx vy R s l ix iy k =>
  .inr ⟨p, q, dp_of s.sub hx ix, dp_of s.sub hy iy, sp, sq, k F _ H _ Γ M (Same.refl F) s l (.bl _) qq⟩
theorem dr_neD {x y : D} {p q : PyData} (hx : Pd x p) (hy : Pd y q) (sp : SeqAt.shaped p = true) (sq : SeqAt.shaped q = true) (qq : Q (.bl (!PyData.eqv p q)) Γ M) : DR K (gNe K) x y Γ M Q := fun F σ H vx vy R s l ix iy k =>
  .inr ⟨p, q, dp_of s.sub hx ix, dp_of s.sub hy iy, sp, sq, k F _ H _ Γ M (Same.refl F) s l (.bl _) qq⟩
theorem dr_eqI {i j : Int} (q : Q (.bl (decide (i = j))) Γ M) : DR K (gEq K) (.int i) (.int j) Γ M Q := fun F σ H vx vy R s l ix iy k => by
  cases ix; cases iy
  refine .inl ⟨rfl, ?_⟩
  have e : decide (V.int i = V.int j) = decide (i = j) := by simp
  rw [e]
  exact k F _ H _ Γ M (Same.refl F) s l (.bl _) q
theorem dr_neI {i j : Int} (q : Q (.bl (!decide (i = j))) Γ M) : DR K (gNe K) (.int i) (.int j) Γ M Q := fun F σ H vx vy R s l ix iy k => by
  cases ix; cases iy
  refine .inl ⟨rfl, ?_⟩
  have e : decide (V.int i = V.int j) = decide (i = j) := by simp
  rw [e]
  exact k F _ H _ Γ M (Same.refl F) s l (.bl _) q
theorem dr_eqS {i j : Str} (q : Q (.bl (decide (i = j))) Γ M) : DR K (gEq K) (.str i) (.str j) Γ M Q := fun F σ H vx vy R s l ix iy k => by
  cases ix; cases iy
  refine .inl ⟨rfl, ?_⟩
  have e : decide (V.str i = V.str j) = decide (i = j) := by simp
  rw [e]
  exact k F _ H _ Γ M (Same.refl F) s l (.bl _) q
theorem dr_neS {i j : Str} (q : Q (.bl (!decide (i = j))) Γ M) : DR K (gNe K) (.str i) (.str j) Γ M Q := fun F σ H vx vy R s l ix iy k => by
  cases ix; cases iy
  refine .inl ⟨rfl, ?_⟩
  have e : decide (V.str i = V.str j) = decide (i = j) := by simp
  rw [e]
  exact k F _ H _ Γ M (Same.refl F) s l (.bl _) q
theorem dr_eqB {i j : Bool} (q : Q (.bl (decide (i = j))) Γ M) : DR K (gEq K) (.bl i) (.bl j) Γ M Q := fun F σ H vx vy R s l ix iy k => by
  cases ix; cases iy
  refine .inl ⟨rfl, ?_⟩
  have e : decide (V.bl i = V.bl j) = decide (i = j) := by simp
  rw [e]
  exact k F _ H _ Γ M (Same.refl F) s l (.bl _) q
theorem dr_neB {i j : Bool} (q : Q (.bl (!decide (i = j))) Γ M) : DR K (gNe K) (.bl i) (.bl j) Γ M Q := fun F σ H vx vy R s l ix iy k => by
  cases ix; cases iy
  refine .inl ⟨rfl, ?_⟩
  have e : decide (V.bl i = V.bl j) = decide (i = j) := by simp
  rw [e]
  exact k F _ H _ Γ M (Same.refl F) s l (.bl _) q

/-! in -/
def flatD : D → Bool
  | .non => true
  | .bl _ => true
  | .int _ => true
  | .str _ => true
  | _ => false
def eqF : D → D → Bool
  | .non, .non => true
  | .bl a, .bl b => a == b
  | .bl a, .int b => (if a then 1 else 0) == b
  | .int a, .bl b => a == (if b then 1 else 0)
  | .int a, .int b => a == b
  | .str a, .str b => a == b
  | _, _ => false
def inD (x : D) (ds : List D) : Bool := ds.any fun y => eqF y x
theorem flat_is {F : Hp} {v : V} {d : D} (h : Is K F v d) (f : flatD d = true) : flatV v = true := by
  cases h <;> first | rfl | exact Bool.noConfusion f
theorem eqF_is {F : Hp} {v w : V} {d e : D} (h : Is K F v d) (g : Is K F w e) (f : flatD d = true) (f' : flatD e = true) : eqV v w = eqF d e := by
  cases h <;> first | exact Bool.noConfusion f | (cases g <;> first | exact Bool.noConfusion f' | rfl)
theorem all_flat {F : Hp} : ∀ {vs : List V} {ds : List D}, IsAll K F vs ds → ds.all flatD = true → vs.all flatV = true
  | _, _, .nil, _ => rfl
  | _, _, .cons h r, f => by
    rw [List.all_cons, Bool.and_eq_true] at f
    rw [List.all_cons, flat_is h f.1, all_flat r f.2]
    rfl
theorem in_is {F : Hp} {v : V} {d : D} (h : Is K F v d) (f : flatD d = true) : ∀ {vs : List V} {ds : List D}, IsAll K F vs ds → ds.all flatD = true → inV v vs = inD d ds
  | _, _, .nil, _ => rfl
  | _, _, .cons g r, ff => by
    rw [List.all_cons, Bool.and_eq_true] at ff
    show ((eqV _ _) || inV v _) = ((eqF _ _) || inD d _)
    rw [eqF_is g h ff.1 f, in_is h f r ff.2]
/-- a list or a tuple that is read -/
inductive Sq : D → List D → Prop
  | lst (ds : List D) : Sq (.lst ds) ds
  | tup (ds : List D) : Sq (.tup ds) ds
  | scr (ds : List D) : Sq (.scr ds) ds
theorem sq_is {F H : Hp} {v : V} {d : D} {ds : List D} (e : Same F H) (h : Is K F v d) (q : Sq d ds) : ∃ p xs, v = .ref p ∧ (SqL K H p xs ∨ SqT K H p xs) ∧ IsAll K F xs ds := by
  cases q with
  | lst =>
    cases h with
    | lst h1 h2 => exact ⟨_, _, rfl, .inl (SqL.of (e _ _ h1)), h2⟩
  | tup =>
    cases h with
    | tup h1 h2 => exact ⟨_, _, rfl, .inr (sqt_mono e h1), h2⟩
  | scr =>
    cases h with
    | scr h1 h2 => exact ⟨_, _, rfl, .inl (sql_mono e h1), h2⟩
theorem dr_inL {x y : D} {ds : List D} (hy : Sq y ds) (fx : flatD x = true) (fs : ds.all flatD = true) (q : Q (.bl (inD x ds)) Γ M) : DR K (gIn K) x y Γ M Q := fun F σ H vx vy R s l ix iy k => by
  obtain ⟨p, xs, rfl, hq, ia⟩ := sq_is s.sub iy hy
  refine .inr ⟨p, xs, rfl, hq, flat_is ix fx, all_flat ia fs, ?_⟩
  rw [in_is ix fx ia fs]
  exact k F _ H _ Γ M (Same.refl F) s l (.bl _) q
theorem dr_ninL {x y : D} {ds : List D} (hy : Sq y ds) (fx : flatD x = true) (fs : ds.all flatD = true) (q : Q (.bl (!inD x ds)) Γ M) : DR K (gNin K) x y Γ M Q := fun F σ H vx vy R s l ix iy k => by
  obtain ⟨p, xs, rfl, hq, ia⟩ := sq_is s.sub iy hy
  refine .inr ⟨p, xs, rfl, hq, flat_is ix fx, all_flat ia fs, ?_⟩
  rw [in_is ix fx ia fs]
  exact k F _ H _ Γ M (Same.refl F) s l (.bl _) q
theorem dr_inS {c : Nat} {z : Str} (q : Q (.bl (decide (c ∈ z.cps.toList))) Γ M) : DR K (gIn K) (.str ⟨#[c]⟩) (.str z) Γ M Q := fun F σ H vx vy R s l ix iy k => by
  cases ix; cases iy
  exact .inl ⟨c, z, rfl, rfl, k F _ H _ Γ M (Same.refl F) s l (.bl _) q⟩
theorem dr_ninS {c : Nat} {z : Str} (q : Q (.bl (!decide (c ∈ z.cps.toList))) Γ M) : DR K (gNin K) (.str ⟨#[c]⟩) (.str z) Γ M Q := fun F σ H vx vy R s l ix iy k => by
  cases ix; cases iy
  exact .inl ⟨c, z, rfl, rfl, k F _ H _ Γ M (Same.refl F) s l (.bl _) q⟩
/-! is -/
def isNon : D → Bool
  | .non => true
  | _ => false
theorem non_is {F : Hp} {v : V} {d : D} (h : Is K F v d) : decide (v = .non) = isNon d := by cases h <;> first | rfl | exact decide_eq_false (fun z => by cases z)
theorem dr_isN {x : D} (q : Q (.bl (isNon x)) Γ M) : DR K gIs x .non Γ M Q := fun F σ H vx vy R s l ix iy k => by
  cases iy
  refine .inl ⟨rfl, ?_⟩
  rw [non_is ix]
  exact k F _ H _ Γ M (Same.refl F) s l (.bl _) q
theorem dr_isnN {x : D} (q : Q (.bl (!isNon x)) Γ M) : DR K gIsn x .non Γ M Q := fun F σ H vx vy R s l ix iy k => by
  cases iy
  refine .inl ⟨rfl, ?_⟩
  rw [non_is ix]
  exact k F _ H _ Γ M (Same.refl F) s l (.bl _) q
theorem dr_isB {a b : Bool} (q : Q (.bl (decide (a = b))) Γ M) : DR K gIs (.bl a) (.bl b) Γ M Q := fun F σ H vx vy R s l ix iy k => by
  cases ix; cases iy
  exact .inr ⟨a, b, rfl, rfl, k F _ H _ Γ M (Same.refl F) s l (.bl _) q⟩
theorem dr_isnB {a b : Bool} (q : Q (.bl (!decide (a = b))) Γ M) : DR K gIsn (.bl a) (.bl b) Γ M Q := fun F σ H vx vy R s l ix iy k => by
  cases ix; cases iy
  exact .inr ⟨a, b, rfl, rfl, k F _ H _ Γ M (Same.refl F) s l (.bl _) q⟩

/-! index -/
theorem atI_is {F : Hp} {xs : List V} {ds : List D} {i : Int} {d : D} (h : IsAll K F xs ds) (e : atI ds i = some d) : ∃ v, atI xs i = some v ∧ Is K F v d := by
  unfold atI at e ⊢
  rw [h.length]
  cases hx : ixN ds.length i with
  | none => rw [hx] at e; cases e
  | some j =>
    rw [hx] at e
    exact h.get e
theorem dr_ix {x : D} {ds : List D} {i : Int} {d : D} (hx : Sq x ds) (e : atI ds i = some d) (q : Q d Γ M) : DR K (rIx K) x (.int i) Γ M Q := fun F σ H vx vy R s l ix iy k => by
  cases iy
  obtain ⟨p, xs, rfl, hq, ia⟩ := sq_is s.sub ix hx
  obtain ⟨v, hv, iv⟩ := atI_is ia e
  rcases hq with hq | hq
  · exact .inl ⟨p, xs, i, v, rfl, rfl, hq, hv, k F _ H _ Γ M (Same.refl F) s l iv q⟩
  · exact .inr (.inl ⟨p, xs, i, v, rfl, rfl, hq, hv, k F _ H _ Γ M (Same.refl F) s l iv q⟩)
theorem dr_ixP {a : Addr} {ds : List D} {i : Int} {d : D} (hm : M a = some (.lst ds)) (e : atI ds i = some d) (q : Q d Γ M) : DR K (rIx K) (.ptr a) (.int i) Γ M Q := fun F σ H vx vy R s l ix iy k => by
  cases iy
  cases ix
  obtain ⟨hn, xs, ho, ia⟩ := s.cell a _ hm
  obtain ⟨v, hv, iv⟩ := atI_is ia e
  exact .inl ⟨a, xs, i, v, rfl, rfl, SqL.of ho, hv, k F _ H _ Γ M (Same.refl F) s l iv q⟩
theorem dr_ixS {z : Str} {i : Int} {c : Nat} (hz : z.length ≤ sizeLine) (e : atI z.cps.toList i = some c) (q : Q (.str ⟨#[c]⟩) Γ M) : DR K (rIx K) (.str z) (.int i) Γ M Q := fun F σ H vx vy R s l ix iy k => by
  cases ix; cases iy
  exact .inr (.inr ⟨z, i, c, rfl, rfl, hz, e, k F _ H _ Γ M (Same.refl F) s l (.str _) q⟩)
/-! slices -/
def cutD (ds : List D) (lo hi : Option Int) : List D := (ds.drop (HT.sIx ds.length 0 lo)).take (HT.sIx ds.length ds.length hi - HT.sIx ds.length 0 lo)
theorem cut_is {F : Hp} {xs : List V} {ds : List D} (lo hi : Option Int) (h : IsAll K F xs ds) : IsAll K F (cutV xs lo hi) (cutD ds lo hi) := by
  unfold cutV cutD
  rw [h.length]
  exact (h.drop _).take _
def DSl (K : W.Frag) (r : V → Option Int → Option Int → Hp → VK → Prop) (x : D) (lo hi : Option Int) (Γ : Ga) (M : Mem) (Q : D → Ga → Mem → Prop) : Prop :=
  ∀ (F : Hp) (σ : St) (H : Hp) (vx : V) (R : VK), Sat K F M H → Loc K F σ Γ → Is K F vx x →
    (∀ F' v H' d Γ' M', Same F F' → Sat K F' M' H' → Loc K F' σ Γ' → Is K F' v d → Q d Γ' M' → R v H') → r vx lo hi H R
theorem dl_lst {x : D} {ds : List D} {lo hi : Option Int} (hx : Sq x ds) (ht : ∀ es, x ≠ .tup es) (q : Q (.lst (cutD ds lo hi)) Γ M) : DSl K (gSl K) x lo hi Γ M Q := fun F σ H vx R s l ix k => by
  have go : ∀ {a : Addr} {xs : List V}, SqL K H a xs → IsAll K F xs ds → gSl K (.ref a) lo hi H R := fun {a xs} hq ia => .inl ⟨a, xs, rfl, hq, fun p hp => by
    obtain ⟨e, b, c, d⟩ := new_lst s l hp (cut_is lo hi ia)
    exact k _ _ _ _ _ _ e b c d q⟩
  cases hx with
  | lst =>
    cases ix with
    | lst h1 h2 => exact go (SqL.of (s.sub _ _ h1)) h2
  | tup => exact absurd rfl (ht _)
  | scr =>
    cases ix with
    | scr h1 h2 => exact go (sql_mono s.sub h1) h2
theorem dl_str {z : Str} {lo hi : Option Int} (hz : z.length ≤ sizeLine) (q : Q (.str (cutS z lo hi)) Γ M) : DSl K (gSl K) (.str z) lo hi Γ M Q := fun F σ H vx R s l ix k => by
  cases ix
  exact .inr (.inl ⟨z, rfl, hz, k F _ H _ Γ M (Same.refl F) s l (.str _) q⟩)
theorem dl_tup {ds : List D} {lo hi : Option Int} (hw : ¬ (HT.sIx ds.length 0 lo = 0 ∧ HT.sIx ds.length ds.length hi = ds.length)) (q : Q (.tup (cutD ds lo hi)) Γ M) : DSl K (gSl K) (.tup ds) lo hi Γ M Q := fun F σ H vx R s l ix k => by
  cases ix with
  | tup h1 h2 =>
    refine .inr (.inr ⟨_, _, rfl, sqt_mono s.sub h1, by rw [h2.length]; exact hw, fun p hp => ?_⟩)
    obtain ⟨e, b, c, d⟩ := new_tup s l hp (cut_is lo hi h2)
    exact k _ _ _ _ _ _ e b c d q
theorem do_none {Q : Option Int → Ga → Mem → Prop} (q : Q none Γ M) : DO K tNoPart Γ M Q := fun F σ H R s l k => k F none H Γ M (Same.refl F) s l q
theorem do_some {te : TE} {Q : Option Int → Ga → Mem → Prop} (h : DE K te Γ M fun d Γ' M' => ∃ i, d = .int i ∧ Q (some i) Γ' M') : DO K (tPart te) Γ M Q := fun F σ H R s l k => by
  refine h F σ H _ s l fun F' v H' d Γ' M' e s' l' is q => ?_
  obtain ⟨i, rfl, q⟩ := q
  cases is
  exact ⟨i, rfl, k F' (some i) H' Γ' M' e s' l' q⟩
theorem de_sl {te : TE} {tl th : TO} {r : V → Option Int → Option Int → Hp → VK → Prop} (h : DE K te Γ M fun x Γ1 M1 => DO K tl Γ1 M1 fun lo Γ2 M2 => DO K th Γ2 M2 fun hi Γ3 M3 => DSl K r x lo hi Γ3 M3 Q) : DE K (tSl r te tl th) Γ M Q := fun F σ H R s l k => by
  refine h F σ H _ s l fun F1 v H1 x Γ1 M1 e1 s1 l1 i1 q1 => ?_
  refine q1 F1 σ H1 _ s1 l1 fun F2 lo H2 Γ2 M2 e2 s2 l2 q2 => ?_
  refine q2 F2 σ H2 _ s2 l2 fun F3 hi H3 Γ3 M3 e3 s3 l3 q3 => ?_
  exact q3 F3 σ H3 v R s3 l3 ((i1.mono e2).mono e3) fun F4 v4 H4 d4 Γ4 M4 e4 s4 l4 i4 q4 => k F4 v4 H4 d4 Γ4 M4 (((e1.trans e2).trans e3).trans e4) s4 l4 i4 q4
/-! stores into a list's cell -/
def DSt (K : W.Frag) (t : TSet) (x i v : D) (Γ : Ga) (M : Mem) (Q : Ga → Mem → Prop) : Prop :=
  ∀ (F : Hp) (σ : St) (H : Hp) (vx vi vv : V) (R : Hp → Prop), Sat K F M H → Loc K F σ Γ → Is K F vx x → Is K F vi i → Is K F vv v →
    (∀ F' H' Γ' M', Same F F' → Sat K F' M' H' → Loc K F' σ Γ' → Q Γ' M' → R H') → t vx vi vv H R
theorem dg_sub {to ti : TE} {t : TSet} {v : D} {Q : Ga → Mem → Prop} (h : DE K to Γ M fun x Γ1 M1 => DE K ti Γ1 M1 fun i Γ2 M2 => DSt K t x i v Γ2 M2 Q) : DG K (gSub to ti t) v Γ M Q := fun F σ H vv R s l iv k => by
  refine h F σ H _ s l fun F1 vx H1 x Γ1 M1 e1 s1 l1 i1 q1 => ?_
  refine q1 F1 σ H1 _ s1 l1 fun F2 vi H2 i Γ2 M2 e2 s2 l2 i2 q2 => ?_
  exact q2 F2 σ H2 vx vi vv _ s2 l2 (i1.mono e2) i2 ((iv.mono e1).mono e2) fun F3 H3 Γ3 M3 e3 s3 l3 q3 => k F3 σ H3 Γ3 M3 ((e1.trans e2).trans e3) s3 l3 q3
theorem dst_lst {a : Addr} {ds : List D} {i : Int} {j : Nat} {v : D} {Q : Ga → Mem → Prop} (hm : M a = some (.lst ds)) (hj : ixN ds.length i = some j) (q : Q Γ (M.put a (.lst (ds.set j v)))) : DSt K rSetL (.ptr a) (.int i) v Γ M Q := fun F σ H vx vi vv R s l i1 i2 i3 k => by
  cases i1; cases i2
  obtain ⟨hn, xs, ho, ia⟩ := s.cell a _ hm
  refine ⟨a, xs, i, j, rfl, rfl, ho, by rw [ia.length]; exact hj, ?_⟩
  exact k F _ Γ _ (Same.refl F) (s.put (m' := .lst (ds.set j v)) hm ⟨_, upd_same, ia.set j i3⟩) l q
/-! built-in calls -/
theorem de_cb {t : TA} {r : List V → Hp → VK → Prop} (h : DA K t Γ M fun xs Γ' M' => DC K r xs Γ' M' Q) : DE K (tCB r t) Γ M Q := fun F σ H R s l k => by
  refine h F σ H _ s l fun F1 vs H1 xs Γ1 M1 e1 s1 l1 i1 q1 => ?_
  exact q1 F1 σ H1 vs R s1 l1 i1 fun F2 v H2 d Γ2 M2 e2 s2 l2 i2 q2 => k F2 v H2 d Γ2 M2 (e1.trans e2) s2 l2 i2 q2
theorem one_is {F : Hp} {vs : List V} {d : D} (h : IsAll K F vs [d]) : ∃ v, vs = [v] ∧ Is K F v d := by
  cases h with
  | cons a b => cases b; exact ⟨_, rfl, a⟩
theorem two_is {F : Hp} {vs : List V} {d e : D} (h : IsAll K F vs [d, e]) : ∃ v w, vs = [v, w] ∧ Is K F v d ∧ Is K F w e := by
  cases h with
  | cons a b => obtain ⟨w, rfl, q⟩ := one_is b; exact ⟨_, w, rfl, a, q⟩
theorem dc_len {x : D} {ds : List D} (hx : Sq x ds) (q : Q (.int (ds.length : Int)) Γ M) : DC K (rLenG K) [x] Γ M Q := fun F σ H vs R s l ix k => by
  obtain ⟨v, rfl, i1⟩ := one_is ix
  obtain ⟨p, xs, rfl, hq, ia⟩ := sq_is s.sub i1 hx
  refine ⟨.ref p, xs.length, rfl, ?_, ?_⟩
  · rcases hq with hq | hq
    · exact .inl ⟨xs, hq, rfl⟩
    · exact .inr ⟨xs, hq, rfl⟩
  · rw [ia.length]
    exact k F _ H _ Γ M (Same.refl F) s l (.int _) q
theorem dc_lenS {x : Str} (hz : x.length ≤ sizeLine) (q : Q (.int (x.length : Int)) Γ M) : DC K (rLenG K) [.str x] Γ M Q := fun F σ H vs R s l ix k => by
  obtain ⟨v, rfl, i1⟩ := one_is ix
  cases i1
  exact ⟨.str x, x.length, rfl, ⟨hz, rfl⟩, k F _ H _ Γ M (Same.refl F) s l (.int _) q⟩
theorem dc_int {i : Int} (q : Q (.int i) Γ M) : DC K rIntG [.int i] Γ M Q := fun F σ H vs R s l ix k => by
  obtain ⟨v, rfl, i1⟩ := one_is ix
  cases i1
  exact .inl (.inl ⟨i, rfl, k F _ H _ Γ M (Same.refl F) s l (.int _) q⟩)
theorem dc_intS {a : Str} {n : Int} (h : PySem.intText? a = some n) (hz : a.length ≤ 640) (q : Q (.int n) Γ M) : DC K rIntG [.str a] Γ M Q := fun F σ H vs R s l ix k => by
  obtain ⟨v, rfl, i1⟩ := one_is ix
  cases i1
  exact .inr ⟨a, n, rfl, h, hz, k F _ H _ Γ M (Same.refl F) s l (.int _) q⟩
theorem dc_list {x : D} {ds : List D} (hx : Sq x ds) (q : Q (.lst ds) Γ M) : DC K (rListG K) [x] Γ M Q := fun F σ H vs R s l ix k => by
  obtain ⟨v, rfl, i1⟩ := one_is ix
  obtain ⟨p, xs, rfl, hq, ia⟩ := sq_is s.sub i1 hx
  refine .inl ⟨p, xs, rfl, hq, fun r hr => ?_⟩
  obtain ⟨a, b, c, d⟩ := new_lst s l hr ia
  exact k _ _ _ _ _ _ a b c d q
theorem dc_listS {x : Str} (hz : x.length ≤ sizeLine) (q : Q (.lst (signs x)) Γ M) : DC K (rListG K) [.str x] Γ M Q := fun F σ H vs R s l ix k => by
  obtain ⟨v, rfl, i1⟩ := one_is ix
  cases i1
  refine .inr ⟨x, rfl, hz, fun r hr => ?_⟩
  have ia : ∀ {cs : List Nat} {F : Hp}, IsAll K F (cs.map fun c => V.str ⟨#[c]⟩) (cs.map fun c => D.str ⟨#[c]⟩) := fun {cs F} => by
    induction cs with
    | nil => exact .nil
    | cons c cs ih => exact .cons (.str _) ih
  obtain ⟨a, b, c, d⟩ := new_lst s l hr (ia (cs := x.cps.toList))
  exact k _ _ _ _ _ _ a b c d q
theorem dc_all {bs : List Bool} (q : Q (.bl (bs.all id)) Γ M) : DC K (rAll K) [.lst (bs.map .bl)] Γ M Q := fun F σ H vs R s l ix k => by
  obtain ⟨v, rfl, i1⟩ := one_is ix
  cases i1 with
  | lst h1 h2 =>
    have e : ∀ {bs : List Bool} {xs : List V}, IsAll K F xs (bs.map .bl) → xs = bs.map V.bl := by
      intro bs
      induction bs with
      | nil => intro xs h; cases h; rfl
      | cons b bs ih =>
        intro xs h
        cases h with
        | cons a r => cases a; rw [ih r]; rfl
    have e' := e h2
    subst e'
    exact ⟨_, bs, rfl, SqL.of (s.sub _ _ h1), k F _ H _ Γ M (Same.refl F) s l (.bl _) q⟩
theorem dc_any {bs : List Bool} (q : Q (.bl (bs.any id)) Γ M) : DC K (rAny K) [.lst (bs.map .bl)] Γ M Q := fun F σ H vs R s l ix k => by
  obtain ⟨v, rfl, i1⟩ := one_is ix
  cases i1 with
  | lst h1 h2 =>
    have e : ∀ {bs : List Bool} {xs : List V}, IsAll K F xs (bs.map .bl) → xs = bs.map V.bl := by
      intro bs
      induction bs with
      | nil => intro xs h; cases h; rfl
      | cons b bs ih =>
        intro xs h
        cases h with
        | cons a r => cases a; rw [ih r]; rfl
    have e' := e h2
    subst e'
    exact ⟨_, bs, rfl, SqL.of (s.sub _ _ h1), k F _ H _ Γ M (Same.refl F) s l (.bl _) q⟩
end
end D2

set_option maxRecDepth 100000
set_option maxHeartbeats 400000
/-! repr in the law's own def: the law is walked where the runner calls it -/
namespace D2
open PySem PySem.Spec PyProof.Rows L2

/-! ### repr -/
def rReprD (K : W.Frag) : List V → Hp → VK → Prop := fun xs H Q => ∃ (a : Addr) (p : PyData), xs = [.ref a] ∧ Dp K H (.ref a) p ∧ p.showable = true ∧ p.hasDict = false ∧ p.depth ≤ 60 ∧ p.shown.length ≤ sizeLine ∧ Q (.str p.shown) H
theorem cg_repr {X : Cx} (hg : X.A.guards = some []) (hu : X.A.units + 64 < cLine) : CallR X (.builtin "repr") (rReprD X.K) := by
  intro pins s σ H xs us Q I r h
  obtain ⟨a, p, rfl, hd, hs, hn, hp, hz, q⟩ := h
  obtain ⟨u, rfl, ru⟩ := vals1 r
  cases ru
  obtain ⟨as, rd⟩ := Dp.reads I p _ _ hd rfl
  exact repr_of_reads' rd hs (PyData.noDict_hsm hn) hg (by omega) (fun _ _ e => e) (fun h' u tk hk => ⟨.str p.shown, H, I.kept hk, ⟨u, rfl⟩, q⟩) hz
theorem dc_repr {K : W.Frag} {Γ : Ga} {M : Mem} {Q : D → Ga → Mem → Prop} {ds : List D} {ps : List PyData} (h : Pds ds ps) (hs : PyData.showable (.list ps) = true) (hn : PyData.hasDict (.list ps) = false) (hp : PyData.depth (.list ps) ≤ 60)
    (hz : (PyData.shown (.list ps)).length ≤ sizeLine) (q : Q (.str (PyData.shown (.list ps))) Γ M) : DC K (rReprD K) [.lst ds] Γ M Q := fun F σ H vs R s l ix k => by
  obtain ⟨v, rfl, i1⟩ := one_is ix
  have d1 := dp_of s.sub (.lst h) i1
  cases i1 with
  | lst h1 h2 => exact ⟨_, .list ps, rfl, d1, hs, hn, hp, hz, k F _ H _ Γ M (Same.refl F) s l (.str _) q⟩

/-! ### the law's def, called by the runner -/
abbrev yes : VK := fun v _ => v = .bl true
abbrev no3 : XK := fun _ _ _ => False
def Runs (P : Program) (w : World) (K : W.Frag) (mg : Str → Option Value) (CX : CXT) (f : Addr) (sp : Sp) : Prop :=
  ∀ (base : Heap) (s : Shared) (H : Hp) (a : Addr), Env0 P w K mg base callerA [] s H → sp [.ref a] H yes no3 →
    codeAny (model P w) callerA (.call (.ref f) ⟨[.ref a], []⟩) (CR CX [] P w H s yes no3) s
/-- from the body -/
theorem runs_of {P : Program} {w : World} {K : W.Frag} {mg : Str → Option Value} {CX : CXT} {f : Addr} {name qual : Str} {params : Arguments} {body : List Stmt} {scope : Scope} {dV kV doc pm cdv ct oc : Value} {an od : Option Addr} {osl : Array (Option Value)}
    {N : List Str} {x : Str} {sp : Sp} (lk : K.lookup f = some ⟨oc, od, .func (W.fnOf name qual params body scope dV kV doc pm an cdv ct), osl⟩) (hcd : W.codeIn K cdv qual = true) (S : FnScope N [x] scope)
    (hbind : ∀ (s : Shared) (u : Value), BindsTo s (W.fnOf name qual params body scope dV kV doc pm an cdv ct) ⟨[u], []⟩ [(x, u)])
    (hbody : ∀ (base : Heap) (s : Shared) (H : Hp) (a : Addr), sp [.ref a] H yes no3 →
      ∃ t, PSs (cxOf CX P w K mg base N qual scope f cdv callerA [] s H no3) body t ∧ t { nx := fun _ _ => False, rt := yes } (start N [.ref a]) H) : Runs P w K mg CX f sp := by
  intro base s H a e0 hs
  have kin : K.In s.heap := e0.mod.kin.keeps fun b o q => (e0.bs b o q).1
  have nl : s.heap.NoLimit := e0.mod.nolimit.keeps fun b o q => (e0.bs b o q).1
  have own : ∀ y ∈ [(x, Value.ref a)], scope.names.lookup y.1 = some .local ∨ (scope.names.lookup y.1 = some .cell ∧ ((cellsFrom (s.heap.objs.size + 1) scope.names []).lookup y.1).isSome = true) := fun y hy => by
    rw [List.mem_singleton.mp hy]
    rcases S.par x (List.mem_singleton.mpr rfl) with q | q
    · exact .inl q
    · exact .inr ⟨q, W.cellsFrom_some _ _ _ (.inl q)⟩
  have dep : (callerA).depth < recursionLimit := by decide +kernel
  refine codeAny_call_function dep (kin f _ lk) rfl S.co S.gen rfl (W.codeRec_of kin hcd) (hbind s (.ref a) _ _ _ _ ?_)
  refine wpAny_newFunctionEnv_cells S.kind own fun env he s1 hx => ?_
  cases he
  refine ⟨nl.keeps hx.toInCall.keep, codeAny_func ?_⟩
  obtain ⟨t, ht, run⟩ := hbody base s H a hs
  have I : Inv (cxOf CX P w K mg base N qual scope f cdv callerA [] s H no3) [] (start N [.ref a]) H s1 := inv_start S rfl e0 rfl (.cons rfl .nil) hx
  refine wpAny_mono (ht.run [] s1 _ H _ I run) (fun fl s' z => ?_) fun e s' z => z
  cases fl with
  | ret u =>
    obtain ⟨v, _, H', J, rv, q⟩ := z
    exact ⟨v, H', J.os, J.bare, J.base, J.hok, rv, q⟩
  | next => obtain ⟨_, _, _, q⟩ := z; exact q.elim
  | brk => obtain ⟨_, _, _, q⟩ := z; exact False.elim q
  | cont => obtain ⟨_, _, _, q⟩ := z; exact False.elim q

/-- the abstract heap at the call: the script alone, if it is no object of the module -/
def scrH (a : Addr) (vs : List Value) (ns : List Int) (own : Bool) : Hp := fun b => if b = a ∧ own = false then some (.frz { cls := .type "list", data := .seq vs.toArray } (.lst (ns.map V.int))) else none
theorem scrH_at {a b : Addr} {vs : List Value} {ns : List Int} {own : Bool} {u : HO} (h : scrH a vs ns own b = some u) : b = a ∧ own = false ∧ u = .frz { cls := .type "list", data := .seq vs.toArray } (.lst (ns.map V.int)) := by
  unfold scrH at h
  by_cases q : b = a ∧ own = false
  · rw [if_pos q] at h
    exact ⟨q.1, q.2, (Option.some.inj h).symm⟩
  · rw [if_neg q] at h
    cases h
theorem law_ends {P : Program} {w : World} {K : W.Frag} {mg mb : Str → Option Value} {CX : CXT} {fa a : Addr} {sp : Sp} {s : Shared} {vs : List Value} {ns : List Int}
    (kin : K.In s.heap) (gl : s.heap.Ns mainGlobals mg) (bl : s.heap.Ns builtinsNs mb) (bo : ∀ x : Str, x ≠ "__name__" → mb x = bootBuiltins x) (lim : s.heap.NoLimit) (hg : s.gens = #[])
    (at_ : s.heap.get? a = some { cls := .type "list", data := .seq vs.toArray }) (hiv : IntsAre vs ns) (hl : ns.length ≤ sizeLine)
    (R : Runs P w K mg CX fa sp) (hsp : ∀ H : Hp, Only H → SqL K H a (ns.map V.int) → sp [.ref a] H yes no3) (hCX : ∀ H e s', CX [] H s no3 e s' → False) :
    codeAny (model P w) callerA (.call (.ref fa) ⟨[.ref a], []⟩) (fun r s' => r = .ok (.ret (.bool true)) ∧ OldK s.heap s'.heap ∧ s'.os = s.os ∧ AllBare s'.gens) s := by
  have len := hiv.length
  have val := vals_ints hiv
  obtain ⟨own, ho⟩ : ∃ own : Bool, (own = true ↔ (K.lookup a).isSome = true) := ⟨(K.lookup a).isSome, Iff.rfl⟩
  have free : ∀ {b : Addr} {o : Obj}, s.heap.get? b = some o → (o.data ≠ .seq vs.toArray ∨ (K.lookup b).isSome = true) → scrH a vs ns own b = none := fun {b o} e q => by
    cases z : scrH a vs ns own b with
    | none => rfl
    | some u =>
      obtain ⟨rfl, h1, _⟩ := scrH_at z
      rcases q with q | q
      · rw [at_] at e
        cases e
        exact absurd rfl q
      · rw [ho.mpr q] at h1
        cases h1
  have stays : ∀ {b : Addr} {o : Obj}, s.heap.get? b = some o → scrH a vs ns own b = none → (hidT s.heap (scrH a vs ns own)).get? b = some o := fun e n => hidT_get e n
  have ns_ : ∀ {b : Addr} {m : Str → Option Value}, s.heap.Ns b m → (hidT s.heap (scrH a vs ns own)).Ns b m := fun {b m} ⟨o, es, ep, e, d, r⟩ =>
    ⟨o, es, ep, stays e (free e (.inl (by rw [d]; exact fun z => by cases z))), d, r⟩
  have kb : K.In (hidT s.heap (scrH a vs ns own)) := fun b o e => stays (kin b o e) (free (kin b o e) (.inr (by rw [e]; rfl)))
  have lm : (hidT s.heap (scrH a vs ns own)).NoLimit := by
    obtain ⟨mc, h1, h2⟩ := lim
    exact ⟨mc, ns_ h1, h2⟩
  have only : Only (scrH a vs ns own) := fun b => by
    cases z : scrH a vs ns own b with
    | none => exact .inl rfl
    | some u => exact .inr ⟨_, _, by rw [(scrH_at z).2.2]⟩
  have hok : HOk P w (scrH a vs ns own) s.heap := fun b u z => by
    obtain ⟨rfl, _, rfl⟩ := scrH_at z
    exact ⟨at_, by rw [List.length_map]; exact hl, vs, _, val, at_⟩
  have sq : SqL K (scrH a vs ns own) a (ns.map V.int) := by
    cases hw : own with
    | false => exact .inl (.inr ⟨_, if_pos ⟨rfl, rfl⟩⟩)
    | true =>
      obtain ⟨o, e⟩ := Option.isSome_iff_exists.mp (ho.mp hw)
      have e' := kin a o e
      rw [at_] at e'
      cases e'
      exact .inr ⟨_, vs.toArray, _, e, rfl, rfl, rfl, by rw [List.size_toArray, len]; exact hl, by simpa using val⟩
  have E0 : Env0 P w K mg (hidT s.heap (scrH a vs ns own)) callerA [] s (scrH a vs ns own) :=
    ⟨rfl, ⟨kb, ns_ gl, ⟨mb, ns_ bl, bo⟩, lm⟩, fun b o e => of_hidT e, Nat.le_of_eq (hidT_size _ _), trivial, fun b z => (nomatch z), hok, .of_eq hg⟩
  refine codeAny_mono (R _ s _ a E0 (hsp _ only sq)) fun r s' h => ?_
  match r, h with
  | .error e, h => exact (hCX _ e s' h).elim
  | .ok .next, h => exact False.elim h
  | .ok .brk, h => exact False.elim h
  | .ok .cont, h => exact False.elim h
  | .ok (.ret u), h =>
    obtain ⟨v, H', os, bare, un, hok', rv, q⟩ := h
    have q' : v = .bl true := q
    subst q'
    cases rv
    refine ⟨rfl, OldK.of_keep fun b o e => ?_, os, bare⟩
    cases z : scrH a vs ns own b with
    | none => exact un.keep b o e z (fun m => nomatch m) (fun m => nomatch m)
    | some u =>
      obtain ⟨_, _, rfl⟩ := scrH_at z
      have k1 := (hok b _ z).1
      have k2 := (hok' b _ (un.frzs b _ _ z)).1
      rw [e] at k1
      cases k1
      exact k2
end D2

set_option maxRecDepth 100000
set_option maxHeartbeats 400000
/-! own exception classes whose __init__ says super().__init__(text); self.f = x -/
namespace D2
open PySem PySem.Calls PySem.Spec PyProof.Rows L2 Builtin Builtin.ObjectAttr

structure XC (K : W.Frag) (C : Addr) (B i newId : String) (bmB : List Value) : Prop where
  fb : ExcBaseFacts B newId i bmB
  kf : W.KxsFacts B i
  sf : StoreFacts B bmB "object.__setattr__" "object"
  ini : W.excInitIn K C bmB newId = true
  over : W.excOver K C bmB = true
  hd : W.hasDictIn K C = true
  sa : W.findIn K (.ref C) "__setattr__" = some (some (.builtin "object.__setattr__"))
  sup : W.ks_superIn K C C "__init__" = some (some (.builtin i))
  subB : W.subIn K (.ref C) (.type B) = some true
  subC : W.mroIn K C (.ref C) = some true
  stat : W.nsIn K cStatics "thirdparty.any" = some none

section
variable {prog : Program} {w : World} {A : Around} {E : Value → Shared → Prop} {h : Heap} {g : Array GenState} {d : Drawn} {t : Nat} {os : OsState} {K : W.Frag} {C : Addr} {B i newId : String} {bmB : List Value}
theorem bw_call (T : XC K C B i newId bmB) (X : K.In h) {u e t0 : Addr} {rest : List Value} {Q : Value → Shared → Prop} (hu : h.get? u = some (W.kxs_mw i e)) (he : h.get? e = some (HandSPX.excO C t0)) (hz : rest.length ≤ sizeLine)
    (hq : ∀ h' t1, (∀ b o, b ≠ e → h.get? b = some o → h'.get? b = some o) → h'.get? e = some (HandSPX.excO C t1) → Q .none ⟨h', g, d, t, os⟩) : wpAny (model prog w) A (call (.ref u) rest) Q E ⟨h, g, d, t, os⟩ := by
  obtain ⟨_, _, _, _, _, _, _, _, _, _, _, _, _, _, _, _, hC, _⟩ := W.excInit_of X T.ini
  refine wpAny_call (codeAny_of_tree ?_)
  show wpAny _ A.in1 (callAny (.ref u) ⟨rest, []⟩) _ _ _
  simp only [callAny]
  refine wpAny_bind (wpAny_load hu ?_)
  simp only [W.kxs_mw, show (Value.type "method-wrapper" == Value.type "method" || Value.type "method-wrapper" == Value.type "builtin_function_or_method" || Value.type "method-wrapper" == Value.type "method-wrapper") = true by decide, if_true]
  refine W.KFB.if_so (by decide) ?_
  refine wpAny_bind (W.check_bound_init T.fb.toExcCallFacts hC he rfl ?_)
  refine wpAny_bind (wpAny_pure (wpAny_pure ?_))
  refine ⟨plainId_quiet T.fb.init.plain _, codeAny_builtin T.fb.initEntry ?_⟩
  refine W.exc_init_tree (cls := .ref C) (t0 := t0) (dv := none) (c2 := .none) (c3 := .none) (b4 := .bool false) he hz fun h' k e' _ => ?_
  exact hq h' _ k e'

/-- the first store to a field -/
theorem set_first {e t0 : Addr} {f : Str} {v : Value} {Q : Unit → Shared → Prop} (T : XC K C B i newId bmB) (X : K.In h) (he : h.get? e = some (HandSPX.excO C t0)) (hno : W.findIn K (.ref C) f = some none)
    (hq : ∀ h' tk dx, (∀ b o, b ≠ e → h.get? b = some o → h'.get? b = some o) → h.objs.size ≤ dx → dx ≠ e → h'.get? e = some { cls := .ref C, dict := some dx, data := .fields #[.ref t0, .none, .none, .none, .bool false, .none] } →
      h'.Ns1 dx (fun y => if y = f then some v else none) → Q () ⟨h', g, d, tk, os⟩) : wpAny (model prog w) A (setAttr (.ref e) f v) Q E ⟨h, g, d, t, os⟩ := by
  refine W.set_plain X (ox := HandSPX.excO C t0) (od := none) ⟨he, rfl, rfl, trivial⟩ T.sa ?_
  have tk : W.takerIn K C f = some none := by unfold W.takerIn; rw [hno]; rfl
  refine W.osa_openX (ox := HandSPX.excO C t0) (od := none) T.sf X ⟨he, rfl, rfl, trivial⟩ T.over tk fun b => ?_
  show wpAny _ _ (storeInOwnDict (.ref e) (.ref C) (.str f _) f v b) _ _ _
  have hxs : e ≠ h.objs.size := Nat.ne_of_lt (Heap.lt_size he)
  obtain ⟨cd, hc, hd'⟩ := W.any_some T.hd
  have up : (h.push (W.dictOf [] 0)).get? e = some (HandSPX.excO C t0) := Heap.get?_push_of_some _ he
  refine wpAny_bind (wpAny_pure (wpAny_bind (W.instanceDict_exc (C := C) (t := t0) (c2 := .none) he (W.looks_clsIn X hc) hd' ?_)))
  show wpAny _ _ (storeInDict h.objs.size (.str f _) f v) _ _ _
  refine HandSPX.store_in_new ⟨_, #[], _, (Heap.get?_update_ne _ _ _ _ hxs.symm).trans (Heap.get?_push_at rfl rfl), rfl, fun x hx => absurd hx (by simp), fun _ => rfl⟩ fun h' tk' hn hs => ?_
  refine hq h' tk' h.objs.size (fun b o hb ho => ?_) (Nat.le_refl _) hxs.symm ?_ hn
  · exact (hs.2 b (Nat.ne_of_lt (Heap.lt_size ho))).trans ((Heap.get?_update_ne _ _ _ _ hb).trans (Heap.get?_push_of_some _ ho))
  · exact (hs.2 e hxs).trans (Heap.get?_update_self _ up rfl)
end
end D2

set_option maxRecDepth 100000
set_option maxHeartbeats 400000
namespace D2
open PySem PySem.Calls PySem.Spec PyProof.Rows L2

/-- what the written part tells of such an __init__ -/
structure XF (P : Program) (K : W.Frag) (C f : Addr) (qual : Str) (scope : Scope) (params : Arguments) (cdv : Value) (cc : Addr) : Prop where
  cdq : W.codeIn K cdv qual = true
  code : ∃ cda ccl cdd vs ccs file tf, cdv = .ref cda ∧ K.lookup cda = some ⟨ccl, cdd, .fields vs, ccs⟩ ∧ vs[2]? = some (.str file tf) ∧ ((P.main.file : Str) == file) = true
  cell : ∃ cl cld csl, K.lookup cc = some ⟨cl, cld, .cell (some (.ref C)), csl⟩
  sup : W.nsIn K mainGlobals "super" = some none
  top : (P.main.scope.names.lookup ("super" : Str)).isSome = false
  kind : scope.kind = .function
  co : scope.isCoroutine = false
  gen : scope.isGenerator = false
  ks : scope.names.lookup ("super" : Str) = some .globalImplicit
  kc : scope.names.lookup ("__class__" : Str) = some .free
  kl : scope.names.lookup ("self" : Str) = some .local
  nocell : ∀ x ∈ scope.names, x.2 ≠ .cell
  hd : ∃ ar, (params.posonlyargs ++ params.args).head? = some ar ∧ ar.arg = ("self" : Str)

abbrev xCall (m : Str) (j : Nat) (p0 p1 p2 p3 p4 p5 : Pos) : Stmt := .Expr (.Call (.Attribute (.Call (.Name "super" p0) [] [] p1) "__init__" p2) [.Constant (.str m) j p3] [] p4) p5
abbrev xPut (f arg : Str) (q0 q1 q2 q3 : Pos) : Stmt := .Assign [.Attribute (.Name "self" q0) f q1] (.Name arg q2) q3

theorem call_line {o : Expr} {name : Str} {c : Const} {j : Nat} {env : Env} {p2 p3 p4 : Pos} (hl : (p2.endLine == p4.line) = true) : eval (.Call (.Attribute o name p2) [.Constant c j p3] [] p4) env = (do
    let ov ← attributeBase o name env (eval o env)
    standAt p2.atName
    let (f, first) ← holding [ov] (getMethod ov name (do return (← importBound o env).getD true))
    callWith p4 f first (backTo p4 (starEach [.Constant c j p3] env)) []) := by
  have hp : methodCallPos true o env p2 p4 = pure p4 := by unfold methodCallPos; simp [hl]
  have hm : ∀ ov, methodCall o name p2 p4 env ov 1 (backTo p4 (starEach [.Constant c j p3] env)) (backToKw p4 (keywordEach [] env)) = (do
      let (f, first) ← holding [ov] (getMethod ov name (do return (← importBound o env).getD true))
      callWith p4 f first (backTo p4 (starEach [.Constant c j p3] env)) []) := fun ov => by
    show (do
      let (f, first) ← holding [ov] (getMethod ov name (do return (← importBound o env).getD true))
      let q ← methodCallPos true o env p2 p4
      callWith q f first (backTo p4 (starEach [.Constant c j p3] env)) []) = _
    rw [hp]
    rfl
  rw [arm_eval_Call]
  show (do
    let ov ← attributeBase o name env (eval o env)
    standAt p2.atName
    methodCall o name p2 p4 env ov 1 (backTo p4 (starEach [.Constant c j p3] env)) (backToKw p4 (keywordEach [] env))) = _
  simp only [hm]

section
variable {prog : Program} {w : World} {A : Around} {E : Value → Shared → Prop} {h : Heap} {g : Array GenState} {d : Drawn} {t : Nat} {os : OsState} {K : W.Frag} {C : Addr} {B i newId : String} {bmB : List Value}
variable {name qual : Str} {params : Arguments} {body : List Stmt} {scope : Scope} {dV kV doc pm cdv ct oc : Value} {an od : Option Addr} {osl : Array (Option Value)} {f cc L e : Addr} {m mg mb : Str → Option Value}
/-- super().__init__(text) -/
theorem x_call {t0 : Addr} {tx : Str} {j : Nat} {p0 p1 p2 p3 p4 p5 : Pos} {Q : Flow → Shared → Prop} {base : Heap} (hl : (p2.endLine == p4.line) = true) (T : XC K C B i newId bmB) (Y : XF prog K C f qual scope params cdv cc)
    (lk : K.lookup f = some ⟨oc, od, .func (W.ksFn name qual params body scope dV kV doc pm an cdv ct cc), osl⟩) (X : K.In h) (mo : Mod K mg base) (hb : ∀ b o, base.get? b = some o → h.get? b = some o)
    (hns : h.Ns L m) (hv : m "self" = some (.ref e)) (he : h.get? e = some (HandSPX.excO C t0))
    (hq : ∀ h' tk t1, (∀ b o, b ≠ e → h.get? b = some o → h'.get? b = some o) → h'.get? e = some (HandSPX.excO C t1) → Q .next ⟨h', g, d, tk, os⟩) :
    _root_.PySem.wpAt (model prog w) A (.func body (W.ksEnv qual scope L f cdv cc)) (exec (xCall tx j p0 p1 p2 p3 p4 p5) (W.ksEnv qual scope L f cdv cc)) Q E ⟨h, g, d, t, os⟩ := by
  obtain ⟨cda, ccl, cdd, vs, ccs, file, tf, rfl, hcode, hvs, hfile⟩ := Y.code
  obtain ⟨cl, cld, csl, hcell⟩ := Y.cell
  obtain ⟨ar, har, hself⟩ := Y.hd
  obtain ⟨cd, hcd, hov⟩ := W.any_some T.over
  obtain ⟨oD, hD1, hD2⟩ : ∃ oD, h.get? C = some oD ∧ oD.data = .cls cd := by
    unfold W.clsIn at hcd
    split at hcd
    · rename_i ho
      cases hcd
      exact ⟨_, X _ _ ho, rfl⟩
    · cases hcd
  have hka : scope.names.lookup ar.arg = some .local := by rw [hself]; exact Y.kl
  have hvs' : m ar.arg = some (.ref e) := by rw [hself]; exact hv
  obtain ⟨mbb, hbns, hbb⟩ := mo.blt
  have up : ∀ {a : Addr} {mm : Str → Option Value}, base.Ns a mm → h.Ns a mm := fun {a mm} ⟨o, es, ep, ho, r⟩ => ⟨o, es, ep, hb _ _ ho, r⟩
  refine' ks_wpAt_Expr_any ?go ?hi ?hs
  case hi => unfold interactive; rw [show (W.ksEnv qual scope L f (.ref cda) cc).scope.kind = .function from Y.kind]; rfl
  case hs => rfl
  refine' ks_wpAt_MethodCall ?gg (call_line hl)
  refine ks_wpAt_super_base (env := W.ksEnv qual scope L f (.ref cda) cc) Y.ks Y.kc (show (("__init__" : Str) == ("__class__" : Str)) = false by decide) rfl (X _ _ lk) rfl har rfl (X _ _ hcode) rfl hvs hfile Y.top ?_
  refine W.ks_loadName_global Y.kind Y.ks (loadGlobal_builtin (env := W.ksEnv qual scope L f (.ref cda) cc) (up mo.glob) (W.mg_none_of mo.kin mo.glob Y.sup) (up hbns) ((hbb "super" (by decide +kernel)).trans (by first | decide +kernel | rfl)) ⟨rfl, ?_⟩)
  refine wpAny_loadName_free Y.kind Y.kc rfl ⟨_, X _ _ hcell, rfl⟩ ?_
  refine wpAny_loadName_local Y.kind hka hns hvs' ?_
  refine ks_wpAny_isType_cls hD1 hD2 ⟨rfl, ?_⟩
  refine ks_wpAny_call_super hD1 hD2 he rfl (fun c z => by cases z) (W.looks_mroIn X T.subC) (fun h1 hso k1 => ?_)
  have X1 : K.In h1 := fun b o z => k1 b o (X b o z)
  have sup := T.sup
  unfold W.ks_superIn at sup
  rw [hcd] at sup
  have exC : e ≠ C := fun z => by
    rw [z] at he
    rw [he] at hD1
    cases hD1
    cases hD2
  refine W.kxs_getMethod T.kf hso (W.looks_opaque X1 T.stat) (l₀ := cd.mro) ((W.looks_clsIn X1 hcd).andThen .now) rfl X1 sup (W.Looks.andThen (W.InstAt.type (od := none) ⟨k1 _ _ he, rfl, rfl, trivial⟩) (W.looks_subIn X1 T.subB)) exC (by decide) ?_
  have k2 : ∀ b o, h1.get? b = some o → (h1.push (W.kxs_mw i e)).get? b = some o := fun b o z => Heap.get?_push_of_some _ z
  have hu : (h1.push (W.kxs_mw i e)).get? h1.objs.size = some (W.kxs_mw i e) := Heap.get?_push_at rfl rfl
  refine W.kxs_callWith (i := i) (x := e) rfl ?_
  refine evalArgs_plain (x := eval (.Constant (.str tx) j p3) (W.ksEnv qual scope L f (.ref cda) cc)) (rest := []) ?_
  refine spliced_cons (Calls.Constant_str (spliced_nil ?_))
  refine ⟨hu, bw_call T (fun b o z => k2 b o (X1 b o z)) hu (k2 _ _ (k1 _ _ he)) (by rw [sizeLine_eq]; exact (show (1 : Nat) ≤ 16777216 by decide)) fun h3 t1 k3 e3 => ?_⟩
  exact hq h3 _ t1 (fun b o hbe z => k3 b o hbe (k2 _ _ (k1 _ _ z))) e3
end
end D2

set_option maxRecDepth 100000
set_option maxHeartbeats 400000
namespace D2
open PySem PySem.Calls PySem.Spec PyProof.Rows L2

section
variable {prog : Program} {w : World} {A : Around} {E : Value → Shared → Prop} {h : Heap} {g : Array GenState} {d : Drawn} {t : Nat} {os : OsState} {K : W.Frag} {C : Addr} {B i newId : String} {bmB : List Value}
variable {name qual : Str} {params : Arguments} {body : List Stmt} {scope : Scope} {dV kV doc pm cdv ct oc : Value} {an od : Option Addr} {osl : Array (Option Value)} {f cc L e : Addr} {m mg mb : Str → Option Value}
/-- self.f = x -/
theorem x_put {t0 : Addr} {fld arg : Str} {q0 q1 q2 q3 : Pos} {v : Value} {Q : Flow → Shared → Prop} (T : XC K C B i newId bmB) (Y : XF prog K C f qual scope params cdv cc) (ka : scope.names.lookup arg = some .local) (hdb : (arg == ("__debug__" : Str)) = false)
    (X : K.In h) (hns : h.Ns L m) (hv : m "self" = some (.ref e)) (hv2 : m arg = some v) (he : h.get? e = some (HandSPX.excO C t0)) (hno : W.findIn K (.ref C) fld = some none)
    (hq : ∀ h' tk dx, (∀ b o, b ≠ e → h.get? b = some o → h'.get? b = some o) → h.objs.size ≤ dx → dx ≠ e → h'.get? e = some { cls := .ref C, dict := some dx, data := .fields #[.ref t0, .none, .none, .none, .bool false, .none] } →
      h'.Ns1 dx (fun y => if y = fld then some v else none) → Q .next ⟨h', g, d, tk, os⟩) :
    _root_.PySem.wpAt (model prog w) A (.func body (W.ksEnv qual scope L f cdv cc)) (exec (xPut fld arg q0 q1 q2 q3) (W.ksEnv qual scope L f cdv cc)) Q E ⟨h, g, d, t, os⟩ := by
  refine' ks_wpAt_Assign_Attr ?go ?hs
  case hs => rfl
  refine wpAt_of_wpAny (ESX.ldL hns hv2 ?_ (hk := Y.kind) (hl := ka) (hd := hdb))
  refine ESX.ldL hns hv ?_ (hk := Y.kind) (hl := Y.kl) (hd := by decide)
  exact set_first T X he hno hq
end

/-- the exception with its dict -/
theorem un_exc {P : Program} {w : World} {H : Hp} {h h' : Heap} {fs : List Addr} {e C dx t0 : Addr} {f : Str} {y : V} {u : Value} (hok : HOk P w H h) (ea : H e = some (exo e C none)) (k : ∀ b o, b ≠ e → h.get? b = some o → h'.get? b = some o) (dn : h.objs.size ≤ dx) (dne : dx ≠ e)
    (hx : h'.get? e = some { cls := .ref C, dict := some dx, data := .fields #[.ref t0, .none, .none, .none, .bool false, .none] }) (hn : h'.Ns1 dx (fun z => if z = f then some u else none)) (ry : RelV y u) :
    H dx = none ∧ Un fs [] H (upd (upd H dx (exd dx [(f, y)])) e (exo e C (some dx))) h h' ∧ HOk P w (upd (upd H dx (exd dx [(f, y)])) e (exo e C (some dx))) h' := by
  have hnd : H dx = none := hok.fresh dn
  have nd : ∀ {b : Addr} {o : Obj}, h.get? b = some o → b ≠ dx := fun q => Nat.ne_of_lt (Nat.lt_of_lt_of_le (Heap.lt_size q) dn)
  have na : ∀ {b : Addr}, H b = none → b ≠ e := fun n z => by
    rw [z, ea] at n
    cases n
  refine ⟨hnd, ⟨fun b o q n _ _ => k b o (na n) q, fun b o q n _ _ => ⟨o.slots, k b o (na n) q⟩, fun b o q n _ => by rw [upd_ne (na n), upd_ne (nd q)]; exact n, fun b o q _ => ?_,
    fun b xs q => by rw [upd_ne (at_ne ea q exo_tup), upd_ne (ne_of_none q hnd)]; exact q, fun b o v q => by rw [upd_ne (at_ne ea q exo_frz), upd_ne (ne_of_none q hnd)]; exact q,
    fun b ps q => ⟨#[], by rw [upd_ne (at_ne ea q exo_tbl), upd_ne (ne_of_none q hnd), q]; simp⟩⟩, fun b o q => ?_⟩
  · by_cases hb : b = e
    · exact ⟨_, by rw [hb]; exact hx⟩
    · exact ⟨o, k b o hb q⟩
  · by_cases hb : b = e
    · subst hb
      rw [upd_same] at q
      cases q
      exact exo_ok hx
    · rw [upd_ne hb] at q
      by_cases hd : b = dx
      · subst hd
        rw [upd_same] at q
        cases q
        exact exd_ok hn (relO_put (fs := []) ry fun g => True.intro)
      · rw [upd_ne hd] at q
        refine (hok b o q).stay (fun c v hc z => k c v ?_ z) (fun c hc => by rw [upd_ne (at_ne ea hc exo_own), upd_ne (ne_of_none hc hnd)]; exact hc) (fun c xs hc => by rw [upd_ne (at_ne ea hc exo_tup), upd_ne (ne_of_none hc hnd)]; exact hc)
        rcases hc with hc | hc
        · rw [hc]
          exact hb
        · exact at_ne ea hc exo_own
theorem un_exc0 {P : Program} {w : World} {H : Hp} {h h' : Heap} {fs : List Addr} {e C t0 : Addr} (hok : HOk P w H h) (ea : H e = some (exo e C none)) (k : ∀ b o, b ≠ e → h.get? b = some o → h'.get? b = some o) (hx : h'.get? e = some (HandSPX.excO C t0)) :
    Un fs [] H H h h' ∧ HOk P w H h' := by
  have na : ∀ {b : Addr}, H b = none → b ≠ e := fun n z => by
    rw [z, ea] at n
    cases n
  refine ⟨⟨fun b o q n _ _ => k b o (na n) q, fun b o q n _ _ => ⟨o.slots, k b o (na n) q⟩, fun b o q n _ => n, fun b o q _ => ?_, fun b xs q => q, fun b o v q => q, fun b ps q => ⟨#[], by rw [q]; simp⟩⟩, fun b o q => ?_⟩
  · by_cases hb : b = e
    · exact ⟨_, by rw [hb]; exact hx⟩
    · exact ⟨o, k b o hb q⟩
  · by_cases hb : b = e
    · subst hb
      rw [ea] at q
      cases q
      exact exo_ok hx
    · refine (hok b o q).stay (fun c v hc z => k c v ?_ z) (fun c hc => hc) (fun c xs hc => hc)
      rcases hc with hc | hc
      · rw [hc]
        exact hb
      · exact at_ne ea hc exo_own

/-- what such an __init__ promises -/
def spXi (C : Addr) (fld : Str) : Sp := fun vs H Q _ => ∃ (e : Addr) (y : V), vs = [.ref e, y] ∧ H e = some (exo e C none) ∧ ∀ dx, H dx = none → dx ≠ e → Q .non (upd (upd H dx (exd dx [(fld, y)])) e (exo e C (some dx)))
def spXi0 (C : Addr) : Sp := fun vs H Q _ => ∃ e : Addr, vs = [.ref e] ∧ H e = some (exo e C none) ∧ Q .non H

section
variable {P : Program} {w : World} {K : W.Frag} {mg : Str → Option Value} {base : Heap} {CX : CXT} {k : Nat} {C : Addr} {B i newId : String} {bmB : List Value}
variable {name qual : Str} {params : Arguments} {scope : Scope} {dV kV doc pm cdv ct oc : Value} {an od : Option Addr} {osl : Array (Option Value)} {f cc : Addr}
theorem xinit_ok {tx fld arg : Str} {j : Nat} {p0 p1 p2 p3 p4 p5 q0 q1 q2 q3 : Pos} (T : XC K C B i newId bmB) (Y : XF P K C f qual scope params cdv cc)
    (lk : K.lookup f = some ⟨oc, od, .func (W.ksFn name qual params [xCall tx j p0 p1 p2 p3 p4 p5, xPut fld arg q0 q1 q2 q3] scope dV kV doc pm an cdv ct cc), osl⟩) (hl : (p2.endLine == p4.line) = true)
    (ka : scope.names.lookup arg = some .local) (hdb : (arg == ("__debug__" : Str)) = false) (hne : arg ≠ ("self" : Str)) (hno : W.findIn K (.ref C) fld = some none) :
    FnOk P w K mg base CX k f (W.ksFn name qual params [xCall tx j p0 p1 p2 p3 p4 p5, xPut fld arg q0 q1 q2 q3] scope dV kV doc pm an cdv ct cc) ["self", arg] (spXi C fld) := by
  refine ⟨fun vs H Q E ⟨e, y, h, _⟩ => by rw [h]; rfl, fun A outer s H args us vs Q E hr e0 hb rv hs => ?_⟩
  obtain ⟨e, y, rfl, ea, q⟩ := hs
  obtain ⟨u0, u1, rfl, r0, r1⟩ : ∃ u0 u1, us = [u0, u1] ∧ RelV (.ref e) u0 ∧ RelV y u1 := by
    cases rv with
    | cons a b =>
      cases b with
      | cons b c =>
        cases c
        exact ⟨_, _, rfl, a, b⟩
  cases r0
  have X : K.In s.heap := e0.mod.kin.keeps fun b o z => (e0.bs b o z).1
  have nl : s.heap.NoLimit := e0.mod.nolimit.keeps fun b o z => (e0.bs b o z).1
  obtain ⟨t0, hoe⟩ := exo_at e0.hok ea
  have hb' : BindsTo s (W.ksFn name qual params [xCall tx j p0 p1 p2 p3 p4 p5, xPut fld arg q0 q1 q2 q3] scope dV kV doc pm an cdv ct cc) args [(("self" : Str), Value.ref e), (arg, u1)] := hb
  refine ks_codeAny_call_defAt (binds := [(("self" : Str), Value.ref e), (arg, u1)]) (body := [xCall tx j p0 p1 p2 p3 p4 p5, xPut fld arg q0 q1 q2 q3]) hr.depth (X _ _ lk) rfl nl (W.codeRec_of X Y.cdq) rfl hb' Y.nocell (fun z hz => ?_) (fun h0 hns hk => ?_) Y.co Y.gen Y.kind
  · rcases List.mem_cons.mp hz with rfl | hz
    · exact Y.kl
    · rw [List.mem_singleton.mp hz]
      exact ka
  have X0 : K.In h0 := fun b o z => hk b o (X b o z)
  have m1 : [(("self" : Str), Value.ref e), (arg, u1)].reverse.lookup ("self" : Str) = some (.ref e) := by
    have hbe : (("self" : Str) == arg) = false := by simpa using Ne.symm hne
    simp [List.lookup, hbe]
  have m2 : [(("self" : Str), Value.ref e), (arg, u1)].reverse.lookup arg = some u1 := by simp [List.lookup]
  have apart : ∀ {b : Addr} {o : Obj}, K.lookup b = some o → b ≠ e := fun {b o} z y => by
    have n := (e0.bs b o (e0.mod.kin b o z)).2
    rw [y, ea] at n
    cases n
  have Le : s.heap.objs.size ≠ e := Nat.ne_of_gt (Heap.lt_size hoe)
  show _root_.PySem.wpAt (model P w) (A.deeper (W.ksEnv qual scope s.heap.objs.size f cdv cc)) (.func _ (W.ksEnv qual scope s.heap.objs.size f cdv cc)) (execs _ (W.ksEnv qual scope s.heap.objs.size f cdv cc)) _ _ _
  refine ks_wpAt_execs_cons (x_call hl T Y lk X0 e0.mod (fun b o z => hk b o (e0.bs b o z).1) hns m1 (hk _ _ hoe) fun h1 tk t1 k1 e1 => ?_)
  have k01 : ∀ b o, b ≠ e → s.heap.get? b = some o → h1.get? b = some o := fun b o n z => k1 b o n (hk b o z)
  have X1 : K.In h1 := fun b o z => k01 b o (apart z) (X b o z)
  have hns1 : h1.Ns s.heap.objs.size fun x => [(("self" : Str), Value.ref e), (arg, u1)].reverse.lookup x := by
    obtain ⟨o, es, ep, ho, r⟩ := hns
    exact ⟨o, es, ep, k1 _ _ Le ho, r⟩
  refine ks_wpAt_execs_cons (x_put T Y ka hdb X1 hns1 m1 m2 e1 hno fun h2 tk2 dx k2 dn dne e2 hn2 => ?_)
  refine wpAt_of_wpAny (wpAny_execs_nil ?_)
  have sz : s.heap.objs.size ≤ dx := by
    obtain ⟨o, _, _, ho, _⟩ := hns1
    exact Nat.le_trans (Nat.le_of_lt (Heap.lt_size ho)) dn
  obtain ⟨n1, un, ok⟩ := un_exc (fs := frs outer) e0.hok ea (fun b o n z => k2 b o n (k01 b o n z)) sz dne e2 hn2 r1
  exact ⟨.non, _, rfl, e0.bare, un, ok, rfl, q dx n1 dne⟩
theorem xinit0_ok {tx : Str} {j : Nat} {p0 p1 p2 p3 p4 p5 : Pos} (T : XC K C B i newId bmB) (Y : XF P K C f qual scope params cdv cc)
    (lk : K.lookup f = some ⟨oc, od, .func (W.ksFn name qual params [xCall tx j p0 p1 p2 p3 p4 p5] scope dV kV doc pm an cdv ct cc), osl⟩) (hl : (p2.endLine == p4.line) = true) :
    FnOk P w K mg base CX k f (W.ksFn name qual params [xCall tx j p0 p1 p2 p3 p4 p5] scope dV kV doc pm an cdv ct cc) ["self"] (spXi0 C) := by
  refine ⟨fun vs H Q E ⟨e, h, _⟩ => by rw [h]; rfl, fun A outer s H args us vs Q E hr e0 hb rv hs => ?_⟩
  obtain ⟨e, rfl, ea, q⟩ := hs
  obtain ⟨u0, rfl, r0⟩ := vals1 rv
  cases r0
  have X : K.In s.heap := e0.mod.kin.keeps fun b o z => (e0.bs b o z).1
  have nl : s.heap.NoLimit := e0.mod.nolimit.keeps fun b o z => (e0.bs b o z).1
  obtain ⟨t0, hoe⟩ := exo_at e0.hok ea
  have hb' : BindsTo s (W.ksFn name qual params [xCall tx j p0 p1 p2 p3 p4 p5] scope dV kV doc pm an cdv ct cc) args [(("self" : Str), Value.ref e)] := hb
  refine ks_codeAny_call_defAt (binds := [(("self" : Str), Value.ref e)]) (body := [xCall tx j p0 p1 p2 p3 p4 p5]) hr.depth (X _ _ lk) rfl nl (W.codeRec_of X Y.cdq) rfl hb' Y.nocell (fun z hz => ?_) (fun h0 hns hk => ?_) Y.co Y.gen Y.kind
  · rw [List.mem_singleton.mp hz]
    exact Y.kl
  have X0 : K.In h0 := fun b o z => hk b o (X b o z)
  show _root_.PySem.wpAt (model P w) (A.deeper (W.ksEnv qual scope s.heap.objs.size f cdv cc)) (.func _ (W.ksEnv qual scope s.heap.objs.size f cdv cc)) (execs _ (W.ksEnv qual scope s.heap.objs.size f cdv cc)) _ _ _
  refine ks_wpAt_execs_cons (x_call hl T Y lk X0 e0.mod (fun b o z => hk b o (e0.bs b o z).1) hns rfl (hk _ _ hoe) fun h1 tk t1 k1 e1 => ?_)
  refine wpAt_of_wpAny (wpAny_execs_nil ?_)
  obtain ⟨un, ok⟩ := un_exc0 (fs := frs outer) e0.hok ea (fun b o n z => k1 b o n (hk b o z)) e1
  exact ⟨.non, _, rfl, e0.bare, un, ok, rfl, q⟩
end
end D2

set_option maxRecDepth 100000
set_option maxHeartbeats 800000
namespace D2
open PySem PySem.Calls PySem.Spec PyProof.Rows L2

/-! ### C(x=v): the exception class called by a keyword -/
section
variable {M : Model} {A : Around} {E : Value → Shared → Prop} {h : Heap} {g : Array GenState} {d : Drawn} {t : Nat} {os : OsState}
variable {nm q : Str} {C N : Addr} {bs bm bmB : List Value} {hdct : Bool} {sn : List Str} {sub : List Value} {ab : Bool} {col : Option Bool} {dd : Option Addr} {k0 k1 k2 k3 k5 : Option Value} {B newId initId : String} {kn : Str} {kv : Value}
theorem kw_check (F : ExcBaseFacts B newId initId bmB) (hT : ∀ X : String, bm.contains (.type X) = bmB.contains (.type X)) {Q : Unit → Shared → Prop}
    (hC : h.get? C = some (excClassObj nm q C N bs bm hdct sn sub ab col dd k0 k1 k2 k3 k5 newId)) (hq : Q () ⟨h, g, d, t, os⟩) : wpAny M A (checkBuiltinCall newId ⟨[.ref C], [(kn, kv)]⟩) Q E ⟨h, g, d, t, os⟩ := by
  have c1 : (Value.ref C :: bm).contains (.type B) = true := by rw [List.contains_cons, hT, F.hasB, Bool.or_true]
  have st := F.noStar
  simp only [checkBuiltinCall, F.newKind, F.newSplit, F.newRow]
  repeat (first | refine wpAny_loadPart_at hC ?_ | (refine wpAny_isSubtype_exc hC ?_; rw [c1]) | refine wpAny_staticBase_exc hC ?_ | refine wpAny_madeBy_exc hC ?_ | simp only [bne_self_eq_false, Bool.false_eq_true, if_false] | wp_step)
  exact hq
end
section
variable {prog : Program} {w : World} {A : Around} {E : Value → Shared → Prop} {R : Result → Shared → Prop} {h : Heap} {g : Array GenState} {d : Drawn} {t : Nat} {os : OsState}
variable {nm q : Str} {C N : Addr} {bs bm bmB : List Value} {hdct : Bool} {sn : List Str} {sub : List Value} {ab : Bool} {col : Option Bool} {dd : Option Addr} {k0 k1 k2 k3 k5 : Option Value} {B newId initId : String} {kn : Str} {kv : Value}
theorem kw_new (F : ExcBaseFacts B newId initId bmB) (hT : ∀ X : String, bm.contains (.type X) = bmB.contains (.type X))
    (hC : h.get? C = some (excClassObj nm q C N bs bm hdct sn sub ab col dd k0 k1 k2 k3 k5 newId))
    (hq : R (.ok (.ret (.ref (h.objs.size + 1)))) ⟨(h.push { cls := .type "tuple", data := .seq #[] }).push (HandSPX.excO C h.objs.size), g, d, t, os⟩) :
    codeAny (model prog w) A (.builtin newId ⟨[.ref C], [(kn, kv)]⟩) R ⟨h, g, d, t, os⟩ := by
  have ends := F.ends
  have c1 : (Value.ref C :: bm).contains (.type B) = true := by rw [List.contains_cons, hT, F.hasB, Bool.or_true]
  have c2 : (Value.ref C :: bm).contains (.type "AttributeError") = false := by rw [List.contains_cons, hT, F.noAttr]; rfl
  have c3 : (Value.ref C :: bm).contains (.type "NameError") = false := by rw [List.contains_cons, hT, F.noName]; rfl
  refine codeAny_builtinAt F.entry ?_
  unfold Builtin.«BaseException.__new__»
  refine _root_.PySem.wpAt_bind ?_
  show _root_.PySem.wpAt _ _ _ (stack >>= _) _ _ _
  refine _root_.PySem.wpAt_bind (_root_.PySem.wpAt_stack fun p below => _root_.PySem.wpAt_of_wpAny ?_)
  wp_walk
  refine _root_.PySem.wpAt_of_wpAny ?_
  rw [F.owner]
  repeat (first | with_reducible refine wpAny_madeHere_exc F.canon hC ?_ | with_reducible refine wpAny_loadPart_at hC ?_ | (with_reducible refine wpAny_isSubtype_exc hC ?_; first | rw [c1] | rw [c2] | rw [c3]) | wp_step)
  show R _ _
  rw [Heap.size_push]
  exact hq
theorem kw_type (F : ExcBaseFacts B newId initId bmB) (hT : ∀ X : String, bm.contains (.type X) = bmB.contains (.type X)) {fI : Addr} {Q : Fin → Shared → Prop}
    (hC : h.get? C = some (excClassObj nm q C N bs bm hdct sn sub ab col dd k0 k1 k2 k3 k5 newId))
    (hi : W.Looks (model prog w) h (typeLookup (.ref C) "__init__") (some (.ref fI))) (hb : ∀ self, W.Looks (model prog w) h (bindSpecial (.ref fI) self) (.ref fI, [self]))
    (hq : codeAny (model prog w) A (.call (.ref fI) ⟨[.ref (h.objs.size + 1)], [(kn, kv)]⟩)
      (fun r s' => match r with | .ok (.ret v) => v = .none ∧ Q (.done (.ret (.ref (h.objs.size + 1)))) s' | .ok _ => False | .error e => E e s')
      ⟨(h.push (W.kdv_tup [])).push (HandSPX.excO C h.objs.size), g, d, t, os⟩) :
    wpAny (model prog w) A (Builtin.«type.__call__» ⟨[.ref C], [(kn, kv)]⟩) Q E ⟨h, g, d, t, os⟩ := by
  repeat (first | with_reducible refine wpAny_loadPart_at hC ?_ | with_reducible refine wpAny_madeBy_exc hC ?_ | wp_step)
  refine codeAny_call_builtin_code (Code.quiet_builtin _ F.quiet) (kw_check F hT hC ?_)
  refine kw_new F hT hC ?_
  show wpAny _ _ _ _ _ _
  have k : ∀ b o, h.get? b = some o → ((h.push (W.kdv_tup [])).push (HandSPX.excO C h.objs.size)).get? b = some o := fun b o e => Heap.get?_push_of_some _ (Heap.get?_push_of_some _ e)
  have hC₁ := k _ _ hC
  have hget : ((h.push (W.kdv_tup [])).push (HandSPX.excO C h.objs.size)).get? (h.objs.size + 1) = some (HandSPX.excO C h.objs.size) := by heap_get
  have c4 : (Value.ref C :: bm).contains (.ref C) = true := by simp
  have i1 := hi.keeps k
  have b1 := (hb (.ref (h.objs.size + 1))).keeps k
  unfold isInstance
  repeat (first | with_reducible refine wpAny_loadPart_at hget ?_ | (with_reducible refine wpAny_isSubtype_exc hC₁ ?_; rw [c4]) | wp_step)
  show wpAny _ _ (typeLookup (.ref C) _) _ _ _
  refine i1.at ?_
  refine wpAny_holding (wpAny_bind (b1.at ?_))
  refine wpAny_bind (wpAny_call (codeAny_mono hq fun r s' z => ?_))
  rcases r with e | (v | _ | _ | _) <;> first | exact z | exact z.elim | skip
  obtain ⟨rfl, z⟩ := z
  first
    | exact wpAny_pure (wpAny_pure z)
    | (wp_walk; exact z)
theorem kw_call (F : ExcBaseFacts B newId initId bmB) (hT : ∀ X : String, bm.contains (.type X) = bmB.contains (.type X)) {fI : Addr}
    (hC : h.get? C = some (excClassObj nm q C N bs bm hdct sn sub ab col dd k0 k1 k2 k3 k5 newId))
    (hi : W.Looks (model prog w) h (typeLookup (.ref C) "__init__") (some (.ref fI))) (hb : ∀ self, W.Looks (model prog w) h (bindSpecial (.ref fI) self) (.ref fI, [self]))
    (hq : codeAny (model prog w) (A.under (.builtin "type.__call__" ⟨[.ref C], [(kn, kv)]⟩)) (.call (.ref fI) ⟨[.ref (h.objs.size + 1)], [(kn, kv)]⟩) (W.InitBack (h.objs.size + 1) R)
      ⟨(h.push (W.kdv_tup [])).push (HandSPX.excO C h.objs.size), g, d, t, os⟩) :
    codeAny (model prog w) A (.call (.ref C) ⟨[], [(kn, kv)]⟩) R ⟨h, g, d, t, os⟩ := by
  have f1 := tc_lookup
  have f2 := tc_bind (.ref C)
  have hTy : (⟨h, g, d, t, os⟩ : Shared).TypeIs (.ref C) "type" := ⟨_, hC, rfl⟩
  refine codeAny_of_tree ?_
  show wpAny _ _ (callAny (.ref C) _) _ _ _
  repeat (any_goals (first | assumption | with_reducible refine wpAny_loadPart_at hC ?_ | wp_step))
  refine ⟨rfl, ?_⟩
  refine codeAny_call_builtin_at (Code.quiet_builtin _ (by decide +kernel)) entry_typeCall (wpAny_check_type_call_sub hC (kw_type F hT hC hi hb ?_))
  refine codeAny_mono hq fun r s' z => ?_
  rcases r with e | (v | _ | _ | _) <;> exact z
end
end D2

set_option maxRecDepth 100000
set_option maxHeartbeats 400000
namespace D2
open PySem PySem.Spec PyProof.Rows L2

/-- C(y), an exception as a value -/
def tMkX (C : Addr) (fld : Str) (t : TA) : TE := fun σ H Q => t σ H fun vs H1 => ∃ y, vs = [y] ∧ ∀ e dx, H1 e = none → H1 dx = none → dx ≠ e → Q (.ref e) (upd (upd H1 dx (exd dx [(fld, y)])) e (exo e C (some dx)))
def tMkX0 (C : Addr) : TE := fun _ H Q => ∀ e, H e = none → Q (.ref e) (upd H e (exo e C none))
theorem upd3 {H : Hp} {e dx : Addr} {a b c : HO} : upd (upd (upd H e a) dx b) e c = upd (upd H dx b) e c := by
  funext z
  unfold upd
  by_cases h1 : z = e
  · rw [if_pos h1, if_pos h1]
  · rw [if_neg h1, if_neg h1]
    by_cases h2 : z = dx
    · subst h2
      simp [h1]
    · simp [h1, h2]

section
variable {X : Cx} {CX : CXT} {k : Nat} {C fI : Addr} {B i newId : String} {bmB : List Value} {fd : FuncData} {fld arg x : Str} {pins : List (Addr × Obj)} {σ : L2.St} {H : Hp} {s : Shared} {Q : VK} {y : V} {u : Value}
theorem x_laid {hp : Heap} {g : Array GenState} {d : Drawn} {t : Nat} {os : OsState} {us : List Value} (I : Inv X pins σ H ⟨hp, g, d, t, os⟩) :
    Inv X pins σ (upd H (hp.objs.size + 1) (exo (hp.objs.size + 1) C none)) ⟨(hp.push (W.kdv_tup us)).push (HandSPX.excO C hp.objs.size), g, d, t, os⟩ :=
  I.laid (t' := t) (a := hp.objs.size + 1) (o := exo (hp.objs.size + 1) C none) (h' := (hp.push (W.kdv_tup us)).push (HandSPX.excO C hp.objs.size)) (fun b o e => Heap.get?_push_of_some _ (Heap.get?_push_of_some _ e)) (Nat.le_succ _) (exo_ok (t1 := hp.objs.size) (by heap_get))
theorem x_back {R : Result → Shared → Prop} {e : Addr} {s1 s' : Shared} {H1 : Hp} {r : Result} (hx : Passes CX X fun _ _ _ => False) (I2 : Inv X pins σ H1 s1) (h : CR CX X.stack X.prog X.w H1 s1 (fun v H2 => v = .non ∧ Q (.ref e) H2) (fun _ _ _ => False) r s')
    (hR : ∀ u s', EP X pins σ Q u s' → R (.ok (.ret u)) s') (hE : ∀ u s', X.xe u s' → R (.error u) s') : W.InitBack e R r s' := by
  match r, h with
  | .error er, h => exact hE er s' (hx pins σ _ _ er s' I2 h)
  | .ok .next, h => exact False.elim h
  | .ok .brk, h => exact False.elim h
  | .ok .cont, h => exact False.elim h
  | .ok (.ret u), h =>
    obtain ⟨v, H', I3, rv, ev, q⟩ := I2.after h
    subst ev
    exact ⟨rv, hR _ _ ⟨.ref e, H', I3, rfl, q⟩⟩

structure XI (X : Cx) (C fI : Addr) (fd : FuncData) : Prop where
  ini : W.findIn X.K (.ref C) "__init__" = some (some (.ref fI))
  fn : W.typeIn X.K (.ref fI) = some (.type "function")
  kp : W.keepIn X.K (.ref C) = true
theorem run_mkx (T : XC X.K C B i newId bmB) (J : XI X C fI fd) (F1 : FnOk X.prog X.w X.K X.mg X.base CX k fI fd ["self", arg] (spXi C fld)) (hr : Room (k + 1) X.A) (hb : ∀ (s : Shared) (u0 u1 : Value), BindsTo s fd ⟨[u0, u1], []⟩ [("self", u0), (arg, u1)])
    (hx : Passes CX X fun _ _ _ => False) (I : Inv X pins σ H s) (ry : RelV y u) (q : ∀ e dx, H e = none → H dx = none → dx ≠ e → Q (.ref e) (upd (upd H dx (exd dx [(fld, y)])) e (exo e C (some dx)))) :
    wpAny (model X.prog X.w) X.A (call (.ref C) [u]) (EP X pins σ Q) X.xe s := by
  obtain ⟨hp, g, d, t, os⟩ := s
  obtain ⟨_, _, _, _, _, _, _, _, _, _, _, _, _, _, _, _, hC, hT⟩ := W.excInit_of I.kIn T.ini
  have n1 : H (hp.objs.size + 1) = none := I.hok.fresh (Nat.le_succ _)
  have I2 := x_laid (C := C) (us := [u]) I
  have hq : spXi C fld [.ref (hp.objs.size + 1), y] (upd H (hp.objs.size + 1) (exo (hp.objs.size + 1) C none)) (fun v H2 => v = .non ∧ Q (.ref (hp.objs.size + 1)) H2) fun _ _ _ => False := by
    refine ⟨_, y, rfl, upd_same, fun dx nd ne => ⟨rfl, ?_⟩⟩
    rw [upd3]
    exact q _ dx n1 (by rw [upd_ne ne] at nd; exact nd) ne
  exact wpAny_call (HandSPX.call_own T.fb hT hC (W.looks_findIn I.kIn J.ini) (fun self => W.bind_fn I.kIn self J.fn) (by rw [sizeLine_eq]; exact (show (1 : Nat) ≤ 16777216 by decide))
    (codeAny_mono (F1.run _ X.stack _ _ ⟨[.ref (hp.objs.size + 1), u], []⟩ [.ref (hp.objs.size + 1), u] [.ref (hp.objs.size + 1), y] _ _ (hr.make C [u] []) (I2.env0.make C [u] []) (hb _ _ _) (.cons rfl (.cons ry .nil)) hq) fun r s' h =>
      x_back hx I2 h (fun _ _ z => z) fun _ _ z => z))
theorem run_mkxK (T : XC X.K C B i newId bmB) (J : XI X C fI fd) (F1 : FnOk X.prog X.w X.K X.mg X.base CX k fI fd ["self", arg] (spXi C fld)) (hr : Room (k + 1) X.A) (hb : ∀ (s : Shared) (u0 u1 : Value), BindsTo s fd ⟨[u0], [(arg, u1)]⟩ [("self", u0), (arg, u1)])
    (hx : Passes CX X fun _ _ _ => False) (I : Inv X pins σ H s) (ry : RelV y u) (q : ∀ e dx, H e = none → H dx = none → dx ≠ e → Q (.ref e) (upd (upd H dx (exd dx [(fld, y)])) e (exo e C (some dx)))) :
    wpAny (model X.prog X.w) X.A (call (.ref C) [] [(arg, u)]) (EP X pins σ Q) X.xe s := by
  obtain ⟨hp, g, d, t, os⟩ := s
  obtain ⟨_, _, _, _, _, _, _, _, _, _, _, _, _, _, _, _, hC, hT⟩ := W.excInit_of I.kIn T.ini
  have n1 : H (hp.objs.size + 1) = none := I.hok.fresh (Nat.le_succ _)
  have I2 := x_laid (C := C) (us := []) I
  have hq : spXi C fld [.ref (hp.objs.size + 1), y] (upd H (hp.objs.size + 1) (exo (hp.objs.size + 1) C none)) (fun v H2 => v = .non ∧ Q (.ref (hp.objs.size + 1)) H2) fun _ _ _ => False := by
    refine ⟨_, y, rfl, upd_same, fun dx nd ne => ⟨rfl, ?_⟩⟩
    rw [upd3]
    exact q _ dx n1 (by rw [upd_ne ne] at nd; exact nd) ne
  exact wpAny_call (kw_call T.fb hT hC (W.looks_findIn I.kIn J.ini) (fun self => W.bind_fn I.kIn self J.fn)
    (codeAny_mono (F1.run _ X.stack _ _ ⟨[.ref (hp.objs.size + 1)], [(arg, u)]⟩ [.ref (hp.objs.size + 1), u] [.ref (hp.objs.size + 1), y] _ _ (hr.make C [] [(arg, u)]) (I2.env0.make C [] [(arg, u)]) (hb _ _ _) (.cons rfl (.cons ry .nil)) hq) fun r s' h =>
      x_back hx I2 h (fun _ _ z => z) fun _ _ z => z))
theorem run_mkx0 (T : XC X.K C B i newId bmB) (J : XI X C fI fd) (F1 : FnOk X.prog X.w X.K X.mg X.base CX k fI fd ["self"] (spXi0 C)) (hr : Room (k + 1) X.A) (hb : ∀ (s : Shared) (u0 : Value), BindsTo s fd ⟨[u0], []⟩ [("self", u0)])
    (hx : Passes CX X fun _ _ _ => False) (I : Inv X pins σ H s) (q : ∀ e, H e = none → Q (.ref e) (upd H e (exo e C none))) :
    wpAny (model X.prog X.w) X.A (call (.ref C) []) (EP X pins σ Q) X.xe s := by
  obtain ⟨hp, g, d, t, os⟩ := s
  obtain ⟨_, _, _, _, _, _, _, _, _, _, _, _, _, _, _, _, hC, hT⟩ := W.excInit_of I.kIn T.ini
  have n1 : H (hp.objs.size + 1) = none := I.hok.fresh (Nat.le_succ _)
  have I2 := x_laid (C := C) (us := []) I
  have hq : spXi0 C [.ref (hp.objs.size + 1)] (upd H (hp.objs.size + 1) (exo (hp.objs.size + 1) C none)) (fun v H2 => v = .non ∧ Q (.ref (hp.objs.size + 1)) H2) fun _ _ _ => False :=
    ⟨_, rfl, upd_same, rfl, q _ n1⟩
  exact wpAny_call (HandSPX.call_own T.fb hT hC (W.looks_findIn I.kIn J.ini) (fun self => W.bind_fn I.kIn self J.fn) (Nat.zero_le _)
    (codeAny_mono (F1.run _ X.stack _ _ ⟨[.ref (hp.objs.size + 1)], []⟩ [.ref (hp.objs.size + 1)] [.ref (hp.objs.size + 1)] _ _ (hr.make C [] []) (I2.env0.make C [] []) (hb _ _) (.cons rfl .nil) hq) fun r s' h =>
      x_back hx I2 h (fun _ _ z => z) fun _ _ z => z))

variable {p pos kpos : Pos} {e : Expr} {te : TE}
theorem pe_mkx (T : XC X.K C B i newId bmB) (J : XI X C fI fd) (F1 : FnOk X.prog X.w X.K X.mg X.base CX k fI fd ["self", arg] (spXi C fld)) (hr : Room (k + 1) X.A) (hb : ∀ (s : Shared) (u0 u1 : Value), BindsTo s fd ⟨[u0, u1], []⟩ [("self", u0), (arg, u1)])
    (hx : Passes CX X fun _ _ _ => False) (hg : Gl X x) (hm : X.mg x = some (.ref C)) (he : PE X e te) (hdb : (x == ("__debug__" : Str)) = false := by decide) (hs : starEach [e] X.env = (false, eval e X.env) :: starEach [] X.env := by rfl) :
    PE X (.Call (.Name x p) [e] [] pos) (tMkX C fld (tCons te tNil)) := by
  refine ⟨fun pins s σ H Q I h => ?_⟩
  refine wpAny_Call_Name_kw (ld_glob I hg hm ?_ hdb)
  refine W.callWith_K (h₀ := X.base) I.ok.mod.kin J.kp (thn ((pa_cons he pa_nil hs).run pos pins s σ H _ I h) fun us s1 ⟨vs, H1, I1, r1, q1⟩ => ⟨I1.kIn, ?_⟩) hs rfl
  obtain ⟨y, rfl, q⟩ := q1
  obtain ⟨u, rfl, ry⟩ := vals1 r1
  exact run_mkx T J F1 hr hb hx I1 ry q
theorem pe_mkxK (T : XC X.K C B i newId bmB) (J : XI X C fI fd) (F1 : FnOk X.prog X.w X.K X.mg X.base CX k fI fd ["self", arg] (spXi C fld)) (hr : Room (k + 1) X.A) (hb : ∀ (s : Shared) (u0 u1 : Value), BindsTo s fd ⟨[u0], [(arg, u1)]⟩ [("self", u0), (arg, u1)])
    (hx : Passes CX X fun _ _ _ => False) (hg : Gl X x) (hm : X.mg x = some (.ref C)) (he : PE X e te) (hdb : (x == ("__debug__" : Str)) = false := by decide)
    (hall : (backToKw pos (keywordEach [⟨some arg, e, kpos⟩] X.env)).all (·.1.isSome) = true := by rfl) (hks : (backToKw pos (keywordEach [⟨some arg, e, kpos⟩] X.env)).filterMap (·.1) = [arg] := by rfl)
    (hpl : ((backTo pos (starEach [] X.env)).any (·.1) || (backToKw pos (keywordEach [⟨some arg, e, kpos⟩] X.env)).any (·.1.isNone)) = false := by rfl) :
    PE X (.Call (.Name x p) [] [⟨some arg, e, kpos⟩] pos) (tMkX C fld (tCons te tNil)) := by
  refine ⟨fun pins s σ H Q I h => ?_⟩
  refine wpAny_Call_Name_kw (ld_glob I hg hm ?_ hdb)
  refine W.callWith_KW0 (h₀ := X.base) I.ok.mod.kin J.kp hall (thn ((pk_cons (nm := some arg) (kpos := kpos) he pk_nil).run pos pins s σ H _ I h) fun us s1 ⟨vs, H1, I1, r1, q1⟩ => ⟨I1.kIn, ?_⟩) hpl
  obtain ⟨y, rfl, q⟩ := q1
  obtain ⟨u, rfl, ry⟩ := vals1 r1
  rw [hks]
  exact run_mkxK T J F1 hr hb hx I1 ry q
theorem pe_mkx0 (T : XC X.K C B i newId bmB) (J : XI X C fI fd) (F1 : FnOk X.prog X.w X.K X.mg X.base CX k fI fd ["self"] (spXi0 C)) (hr : Room (k + 1) X.A) (hb : ∀ (s : Shared) (u0 : Value), BindsTo s fd ⟨[u0], []⟩ [("self", u0)])
    (hx : Passes CX X fun _ _ _ => False) (hg : Gl X x) (hm : X.mg x = some (.ref C)) (hdb : (x == ("__debug__" : Str)) = false := by decide) : PE X (.Call (.Name x p) [] [] pos) (tMkX0 C) := by
  refine ⟨fun pins s σ H Q I h => ?_⟩
  refine wpAny_Call_Name_kw (ld_glob I hg hm ?_ hdb)
  exact W.callWith_K0 I.kIn J.kp (run_mkx0 T J F1 hr hb hx I h)
end
end D2

set_option maxRecDepth 100000
set_option maxHeartbeats 400000
namespace D2
open PySem PySem.Spec PyProof.Rows L2

/-- isinstance(e, c), e an own exception that is held as a value -/
def rIsX (K : W.Frag) : List V → Hp → VK → Prop := fun xs H Q => ∃ (a C : Addr) (d : Option Addr) (c : V) (cv : Value) (b : Bool), xs = [.ref a, c] ∧ ClsV c cv ∧ H a = some (exo a C d) ∧ (∀ dx, d = some dx → ∃ fs, H dx = some (exd dx fs)) ∧ ExcC K C ∧ W.kitOne K (.ref C) cv = some b ∧ Q (.bl b) H
theorem cg_isX {X : Cx} : CallR X (.builtin "isinstance") (rIsX X.K) := by
  intro pins s σ H xs us Q I r h
  obtain ⟨a, C, d, c, cv, b, rfl, hc, ea, hd, T, e, q⟩ := h
  obtain ⟨u1, u2, rfl, r1, r2⟩ := vals2 r
  cases r1
  have e2 := hc.eq r2
  subst e2
  obtain ⟨t1, ho⟩ := exo_at I.hok ea
  have cl : (W.clsIn X.K C).isSome = true := by
    obtain ⟨cd, h1, _⟩ := W.any_some T.hd
    rw [h1]
    rfl
  have fin : ∀ {od : Option Obj}, W.InstAt s.heap a { cls := .ref C, dict := d, data := .fields #[.ref t1, .none, .none, .none, .bool false, .none] } C od → wpAny (model X.prog X.w) X.A (call (.builtin "isinstance") [.ref a, u2]) (EP X pins σ Q) X.xe s := fun {od} J =>
    W.kia_one (W.kitx_exc (od := od) cl T.hg T.hk T.hs T.ha T.hn T.ht T.hm) I.kIn J e (fun z => nomatch z) fun tk => ⟨.bl b, H, I.tok tk, rfl, q⟩
  cases d with
  | none => exact fin (od := none) ⟨ho, rfl, rfl, trivial⟩
  | some dx =>
    obtain ⟨fs, ed⟩ := hd dx rfl
    obtain ⟨mA, hns, _⟩ := exd_at I.hok ed
    obtain ⟨o, _, _, hdo, _⟩ := hns
    exact fin (od := some o) ⟨ho, rfl, rfl, hdo⟩
/-- e.f of such an exception -/
def tFldX (K : W.Frag) (f : Str) (te : TE) : TE := fun σ H Q => te σ H fun x H1 => ∃ (a C dx : Addr) (fs : List (Str × V)) (v : V), x = .ref a ∧ H1 a = some (exo a C (some dx)) ∧ H1 dx = some (exd dx fs) ∧ XfC K C ∧ W.findIn K (.ref C) f = some none ∧ fs.lookup f = some v ∧ Q v H1
theorem pe_fldX {X : Cx} {f : Str} {e : Expr} {te : TE} {pos : Pos} (he : PE X e te) (hb : attributeBase e f X.env (eval e X.env) = eval e X.env := by rfl) : PE X (.Attribute e f pos) (tFldX X.K f te) := by
  refine ⟨fun pins s σ H Q I h => ?_⟩
  refine attr_of hb (thn (he.run pins s σ H _ I h) fun u s1 ⟨x, H1, I1, rx, a, C, dx, fs, v, ex, ea, ed, T, hno, hl, q⟩ => ?_)
  subst ex
  cases rx
  obtain ⟨t1, ho⟩ := exo_at I1.hok ea
  obtain ⟨mA, hns, hr⟩ := exd_at I1.hok ed
  obtain ⟨od, hdo, hlk⟩ := lookIn_ns hns
  obtain ⟨w2, hu, ru⟩ := RelO.some_of (v := v) (o := mA f) (by rw [← hl]; exact hr f)
  have J : W.InstAt s1.heap a { cls := .ref C, dict := some dx, data := .fields #[.ref t1, .none, .none, .none, .bool false, .none] } C (some od) := ⟨ho, rfl, rfl, hdo⟩
  exact HandSPX.exc_get I1.kIn J T.ga T.gg T.exC (W.findObj_own T.hdC hno rfl (by rw [hlk, hu])) (handed_of ru) ⟨v, H1, I1.tok _, ru, q⟩

/-! ### data -/
section
variable {K : W.Frag} {Γ : Ga} {M : Mem} {Q : D → Ga → Mem → Prop}
theorem dc_isX {C : Addr} {gs : List (Str × D)} {c : D} {cv : Value} {b : Bool} (hc : (∃ n, c = .ty n ∧ cv = .type n) ∨ ∃ a, c = .ptr a ∧ cv = .ref a) (T : ExcC K C) (e : W.kitOne K (.ref C) cv = some b) (q : Q (.bl b) Γ M) : DC K (rIsX K) [.exc C gs, c] Γ M Q := fun F σ H vs R s l ix k => by
  obtain ⟨v, w, rfl, i1, i2⟩ := two_is ix
  cases i1 with
  | exc h1 h2 h3 =>
    refine ⟨_, C, _, w, cv, b, rfl, ?_, s.sub _ _ h1, fun dx z => ?_, T, e, k F _ H _ Γ M (Same.refl F) s l (.bl b) q⟩
    · rcases hc with ⟨n, rfl, rfl⟩ | ⟨a, rfl, rfl⟩
      · cases i2; exact .ty n
      · cases i2; exact .own a
    · cases z
      exact ⟨_, s.sub _ _ h2⟩
theorem dc_isX0 {C : Addr} {c : D} {cv : Value} {b : Bool} (hc : (∃ n, c = .ty n ∧ cv = .type n) ∨ ∃ a, c = .ptr a ∧ cv = .ref a) (T : ExcC K C) (e : W.kitOne K (.ref C) cv = some b) (q : Q (.bl b) Γ M) : DC K (rIsX K) [.exn C, c] Γ M Q := fun F σ H vs R s l ix k => by
  obtain ⟨v, w, rfl, i1, i2⟩ := two_is ix
  cases i1 with
  | exn h1 =>
    refine ⟨_, C, none, w, cv, b, rfl, ?_, s.sub _ _ h1, (fun dx z => nomatch z), T, e, k F _ H _ Γ M (Same.refl F) s l (.bl b) q⟩
    rcases hc with ⟨n, rfl, rfl⟩ | ⟨a, rfl, rfl⟩
    · cases i2; exact .ty n
    · cases i2; exact .own a
theorem de_mkx0 {C : Addr} (q : Q (.exn C) Γ M) : DE K (tMkX0 C) Γ M Q := fun F σ H R s l k => fun a na => by
  have g1 : Same F (upd F a (exo a C none)) := same_upd (s.none_of na).1
  exact k _ _ _ (.exn C) _ _ g1 (s.laid na) (l.mono g1) (.exn upd_same) q
theorem isFs_get {F : Hp} {f : Str} {d : D} : ∀ {fs : List (Str × V)} {gs : List (Str × D)}, IsFs K F fs gs → gs.lookup f = some d → ∃ v, fs.lookup f = some v ∧ Is K F v d
  | _, _, .nil, e => by cases e
  | _, _, .cons (n := n) (vs := vs) (ds := ds) h r, e => by
    unfold List.lookup at e ⊢
    by_cases q : (f == n) = true
    · rw [q] at e ⊢
      cases e
      exact ⟨_, rfl, h⟩
    · rw [Bool.not_eq_true] at q
      rw [q] at e ⊢
      exact isFs_get r e
theorem de_fldX {f : Str} {te : TE} (h : DE K te Γ M fun d Γ' M' => ∃ C gs d', d = .exc C gs ∧ XfC K C ∧ W.findIn K (.ref C) f = some none ∧ gs.lookup f = some d' ∧ Q d' Γ' M') : DE K (tFldX K f te) Γ M Q := fun F σ H R s l k => by
  refine h F σ H _ s l fun F1 v H1 d Γ1 M1 e s1 l1 is q => ?_
  obtain ⟨C, gs, d', rfl, T, hno, hg, q⟩ := q
  cases is with
  | exc h1 h2 h3 =>
    obtain ⟨w, hw, iw⟩ := isFs_get h3 hg
    exact ⟨_, C, _, _, w, rfl, s1.sub _ _ h1, s1.sub _ _ h2, T, hno, hw, k F1 w H1 d' Γ1 M1 e s1 l1 iw q⟩
theorem de_mkx {C : Addr} {f : Str} {t : TA} (h : DA K t Γ M fun ds Γ' M' => ∃ d, ds = [d] ∧ Q (.exc C [(f, d)]) Γ' M') : DE K (tMkX C f t) Γ M Q := fun F σ H R s l k => by
  refine h F σ H _ s l fun F1 vs H1 ds Γ1 M1 e s1 l1 is q => ?_
  obtain ⟨d, rfl, q⟩ := q
  obtain ⟨y, rfl, i1⟩ := one_is is
  refine ⟨y, rfl, fun a dx na nd ne => ?_⟩
  have fa := (s1.none_of na).1
  have fd := (s1.none_of nd).1
  have s2 := s1.laid (o := exd dx [(f, y)]) nd
  have na2 : upd H1 dx (exd dx [(f, y)]) a = none := by rw [upd_ne (Ne.symm ne)]; exact na
  have s3 := s2.laid (o := exo a C (some dx)) na2
  have g1 : Same F1 (upd F1 dx (exd dx [(f, y)])) := same_upd fd
  have g2 : Same (upd F1 dx (exd dx [(f, y)])) (upd (upd F1 dx (exd dx [(f, y)])) a (exo a C (some dx))) := same_upd (by rw [upd_ne (Ne.symm ne)]; exact fa)
  refine k _ _ _ (.exc C [(f, d)]) _ _ ((e.trans g1).trans g2) s3 ((l1.mono g1).mono g2) ?_ q
  exact .exc upd_same (by rw [upd_ne ne]; exact upd_same) (.cons ((i1.mono g1).mono g2) .nil)
end
end D2

set_option maxRecDepth 100000
set_option maxHeartbeats 400000
namespace D2
open PySem PySem.Spec PyProof.Rows L2

def rIsA (K : W.Frag) : List V → Hp → VK → Prop := fun xs H Q => rIsG K xs H Q ∨ rIsX K xs H Q
theorem cg_isA {X : Cx} : CallR X (.builtin "isinstance") (rIsA X.K) := CallR.or cg_is cg_isX
theorem cg_str {X : Cx} : CallR X (.type "str") rStrG := CallR.or call_str_int SkE.call_str_str

/-- the built-in type of data -/
inductive TyD : D → String → Prop
  | non : TyD .non "NoneType"
  | bl (b : Bool) : TyD (.bl b) "bool"
  | int (i : Int) : TyD (.int i) "int"
  | str (x : Str) : TyD (.str x) "str"
  | lst (ds : List D) : TyD (.lst ds) "list"
  | tup (ds : List D) : TyD (.tup ds) "tuple"
  | dct (es : List (Key × D)) : TyD (.dct es) "dict"
section
variable {K : W.Frag} {Γ : Ga} {M : Mem} {ta tb : TE} {Q : D → Ga → Mem → Prop}
theorem tyX_of {F H : Hp} {v : V} {d : D} {n : String} (e : Same F H) (h : Is K F v d) (t : TyD d n) : TyX K H v (.type n) := by
  cases t with
  | non => cases h; exact .base .non
  | bl => cases h; exact .base (.bl _)
  | int => cases h; exact .base (.int _)
  | str => cases h; exact .base (.str _)
  | lst => cases h with | lst h1 _ => exact .base (.lst (e _ _ h1))
  | dct => cases h with | dct h1 _ => exact .base (.dK (e _ _ h1))
  | tup =>
    cases h with
    | tup h1 _ =>
      rcases sqt_mono e h1 with (z | ⟨o, z⟩) | ⟨o, _, _, z, c, _⟩
      · exact .base (.tup z)
      · exact .fTuple z
      · exact .kTuple z c
theorem dc_is {x : D} {n c : String} {b : Bool} (hx : TyD x n) (e : kitB n c = some b) (q : Q (.bl b) Γ M) : DC K (rIsA K) [x, .ty c] Γ M Q := fun F σ H vs R s l ix k => by
  obtain ⟨v, w, rfl, i1, i2⟩ := two_is ix
  cases i2
  exact .inl (.inl ⟨v, _, _, _, b, rfl, .ty c, tyX_of s.sub i1 hx, kit_ty e, k F _ H _ Γ M (Same.refl F) s l (.bl b) q⟩)
theorem dc_isE {C : Addr} {gs : List (Str × D)} {c : D} {cv : Value} {b : Bool} (hc : (∃ n, c = .ty n ∧ cv = .type n) ∨ ∃ a, c = .ptr a ∧ cv = .ref a) (T : ExcC K C) (e : W.kitOne K (.ref C) cv = some b) (q : Q (.bl b) Γ M) : DC K (rIsA K) [.exc C gs, c] Γ M Q :=
  fun F σ H vs R s l ix k => .inr (dc_isX hc T e q F σ H vs R s l ix k)
theorem dc_isE0 {C : Addr} {c : D} {cv : Value} {b : Bool} (hc : (∃ n, c = .ty n ∧ cv = .type n) ∨ ∃ a, c = .ptr a ∧ cv = .ref a) (T : ExcC K C) (e : W.kitOne K (.ref C) cv = some b) (q : Q (.bl b) Γ M) : DC K (rIsA K) [.exn C, c] Γ M Q :=
  fun F σ H vs R s l ix k => .inr (dc_isX0 hc T e q F σ H vs R s l ix k)
/-- isinstance(x, (a, b)) -/
theorem de_isT {a b : String} (h : DE K ta Γ M fun x Γ' M' => ∃ n r1 r, TyD x n ∧ kitB n a = some r1 ∧ (r1 = false → kitB n b = some r) ∧ (r1 = true → r = true) ∧ Q (.bl r) Γ' M') :
    DE K (tCB (rIsA K) (tCons ta (tCons (tTup (tCons (tC (.ty a)) (tCons (tC (.ty b)) tNil))) tNil))) Γ M Q := fun F σ H R s l k => by
  refine h F σ H _ s l fun F1 v H1 x Γ1 M1 e s1 l1 i1 q => ?_
  obtain ⟨n, r1, r, t, e1, e2, e3, q⟩ := q
  refine ⟨by show 2 ≤ sizeLine; rw [sizeLine_eq]; decide, fun p hp => ?_⟩
  obtain ⟨g1, s2, l2, i2⟩ := new_tup s1 l1 hp (IsAll.cons (Is.ty a) (.cons (.ty b) .nil))
  refine .inl (.inr ⟨v, p, [.ty a, .ty b], .type n, [.type a, .type b], r, rfl, upd_same, .cons (.ty a) (.cons (.ty b) .nil), tyX_of s2.sub (i1.mono g1) t, ?_, k _ _ _ _ _ _ (e.trans g1) s2 l2 (.bl r) q⟩)
  refine kitAny_cons (kit_ty e1) (fun z => kitAny_cons (r := r) (b := r) (kit_ty (e2 z)) (fun y => by rw [y]; exact kitAny_nil) id) e3
/-! and, or, not as values -/
theorem de_andV (h : DE K ta Γ M fun d Γ' M' => ∃ b, d = .bl b ∧ (b = true → DE K tb Γ' M' Q) ∧ (b = false → Q (.bl false) Γ' M')) : DE K (tAndV ta tb) Γ M Q := fun F σ H R s l k => by
  refine h F σ H _ s l fun F1 v H1 d Γ1 M1 e s1 l1 is q => ?_
  obtain ⟨b, rfl, q1, q2⟩ := q
  cases is
  refine ⟨b, rfl, ?_⟩
  cases b with
  | true => exact q1 rfl F1 σ H1 R s1 l1 fun F3 v H3 d Γ3 M3 e3 s3 l3 i3 q3 => k F3 v H3 d Γ3 M3 (e.trans e3) s3 l3 i3 q3
  | false => exact k F1 _ H1 _ Γ1 M1 e s1 l1 (.bl false) (q2 rfl)
theorem de_orV (h : DE K ta Γ M fun d Γ' M' => ∃ b, d = .bl b ∧ (b = false → DE K tb Γ' M' Q) ∧ (b = true → Q (.bl true) Γ' M')) : DE K (tOrV ta tb) Γ M Q := fun F σ H R s l k => by
  refine h F σ H _ s l fun F1 v H1 d Γ1 M1 e s1 l1 is q => ?_
  obtain ⟨b, rfl, q1, q2⟩ := q
  cases is
  refine ⟨b, rfl, ?_⟩
  cases b with
  | false => exact q1 rfl F1 σ H1 R s1 l1 fun F3 v H3 d Γ3 M3 e3 s3 l3 i3 q3 => k F3 v H3 d Γ3 M3 (e.trans e3) s3 l3 i3 q3
  | true => exact k F1 _ H1 _ Γ1 M1 e s1 l1 (.bl true) (q2 rfl)
theorem de_notV (h : DE K ta Γ M fun d Γ' M' => ∃ b, d = .bl b ∧ Q (.bl (!b)) Γ' M') : DE K (tNotV ta) Γ M Q := fun F σ H R s l k => by
  refine h F σ H _ s l fun F1 v H1 d Γ1 M1 e s1 l1 is q => ?_
  obtain ⟨b, rfl, q⟩ := q
  cases is
  exact ⟨b, rfl, k F1 _ H1 _ Γ1 M1 e s1 l1 (.bl (!b)) q⟩
theorem de_upper (h : DE K ta Γ M fun d Γ' M' => ∃ a : Str, d = .str a ∧ a.length ≤ 5592405 ∧ Q (.str (Txt.upper a)) Γ' M') : DE K (tM0 (fun x xs H Q => ∃ a, x = .str a ∧ xs = [] ∧ a.length ≤ 5592405 ∧ Q (.str (Txt.upper a)) H) ta) Γ M Q := fun F σ H R s l k => by
  refine h F σ H _ s l fun F1 v H1 d Γ1 M1 e s1 l1 is q => ?_
  obtain ⟨a, rfl, hz, q⟩ := q
  cases is
  exact ⟨⟨a, rfl⟩, a, rfl, rfl, hz, k F1 _ H1 _ Γ1 M1 e s1 l1 (.str _) q⟩
/-- {key: value}, constants -/
theorem de_disp1 {x : Str} {v : V} {d : D} (hv : ∀ F, Is K F v d) (q : Q (.dct [(.inr x, d)]) Γ M) : DE K (tDisp [(tC (.str x), tC v)]) Γ M Q := fun F σ H R s l k p hp => by
  refine ⟨upd_same, [(.inr x, v)], rfl, by show 1 ≤ 15; decide, ?_⟩
  have e : upd (upd H p (.dK [])) p (.dK (mergeK [] [(.inr x, v)])) = upd H p (.dK [(.inr x, v)]) := by
    funext b
    unfold upd
    by_cases hb : b = p
    · rw [if_pos hb, if_pos hb]; rfl
    · rw [if_neg hb, if_neg hb, if_neg hb]
  rw [e]
  have g : Same F (upd F p (.dK [(.inr x, v)])) := same_upd (s.none_of hp).1
  exact k _ _ _ (.dct [(.inr x, d)]) _ _ g (s.laid hp) (l.mono g) (.dct upd_same (.cons (hv _) .nil)) q
theorem dc_str {i : Int} (hi : i.natAbs.log2 < 1920) (q : Q (.str (toString i)) Γ M) : DC K rStrG [.int i] Γ M Q := fun F σ H vs R s l ix k => by
  obtain ⟨v, rfl, i1⟩ := one_is ix
  cases i1
  exact .inl ⟨i, rfl, hi, k F _ H _ Γ M (Same.refl F) s l (.str _) q⟩
theorem dc_strS {x : Str} (q : Q (.str x) Γ M) : DC K rStrG [.str x] Γ M Q := fun F σ H vs R s l ix k => by
  obtain ⟨v, rfl, i1⟩ := one_is ix
  cases i1
  exact .inr ⟨x, rfl, k F _ H _ Γ M (Same.refl F) s l (.str _) q⟩
end

/-! ### f(x = e): a def called by one keyword -/
section
variable {X : Cx} {CX : CXT} {k : Nat} {f : Addr} {fd : FuncData} {a x : Str} {sp : Sp} {E : XK} {p pos kpos : Pos} {e : Expr} {te : TE}
theorem pe_call1K (F : FnOk X.prog X.w X.K X.mg X.base CX k f fd [a] sp) (hr : Room k X.A) (hg : Gl X x) (hm : X.mg x = some (.ref f)) (hk : W.keepIn X.K (.ref f) = true) (hb : ∀ (s : Shared) (u : Value), BindsTo s fd ⟨[], [(a, u)]⟩ [(a, u)]) (hx : Passes CX X E) (he : PE X e te)
    (hdb : (x == ("__debug__" : Str)) = false := by decide) (hall : (backToKw pos (keywordEach [⟨some a, e, kpos⟩] X.env)).all (·.1.isSome) = true := by rfl) (hks : (backToKw pos (keywordEach [⟨some a, e, kpos⟩] X.env)).filterMap (·.1) = [a] := by rfl)
    (hpl : ((backTo pos (starEach [] X.env)).any (·.1) || (backToKw pos (keywordEach [⟨some a, e, kpos⟩] X.env)).any (·.1.isNone)) = false := by rfl) :
    PE X (.Call (.Name x p) [] [⟨some a, e, kpos⟩] pos) (tCall sp [] E (tCons te tNil)) := by
  refine ⟨fun pins s σ H Q I h => ?_⟩
  refine wpAny_Call_Name_kw (ld_glob I hg hm ?_ hdb)
  refine W.callWith_KW0 (h₀ := X.base) I.ok.mod.kin hk hall (thn ((pk_cons (nm := some a) (kpos := kpos) he pk_nil).run pos pins s σ H _ I h) fun us s1 ⟨vs, H1, I1, r1, q1⟩ => ⟨I1.kIn, ?_⟩) hpl
  rw [hks]
  have q1 : sp (vs ++ []) H1 Q E := q1
  rw [List.append_nil] at q1
  have hl := F.len _ _ _ _ q1
  obtain ⟨u, rfl⟩ : ∃ u, us = [u] := by
    have z := r1.length.symm.trans hl
    match us, z with
    | [u], _ => exact ⟨u, rfl⟩
  refine wpAny_call (codeAny_mono (F.run X.A X.stack s1 H1 ⟨[], [(a, u)]⟩ [u] vs Q E hr I1.env0 (hb s1 u) r1 q1) fun r s' hq => ?_)
  match r, hq with
  | .error er, hq => exact hx pins σ H1 s1 er s' I1 hq
  | .ok (.ret v), hq => exact I1.after hq
  | .ok .next, hq => exact False.elim hq
  | .ok .brk, hq => exact False.elim hq
  | .ok .cont, hq => exact False.elim hq
end
end D2

set_option maxRecDepth 100000
set_option maxHeartbeats 400000
namespace D2
open PySem PySem.Spec PyProof.Rows L2
/-! steps by the reading's head -/
section
variable {K : W.Frag} {Γ : Ga} {M : Mem} {Q : D → Ga → Mem → Prop} {P : DEnds} {te : TE}
theorem de_jar {a : Addr} {ds : List D} {j : Int} {d : D} (h0 : Γ[0]? = some (some (.ptr a))) (hm : M a = some (.lst ds)) (e : atI ds j = some d) (q : Q d Γ M) : DE K (tOp (rIx K) (tVar 0) (tC (.int j))) Γ M Q :=
  de_op (de_var h0 (de_int (dr_ixP hm e q)))
theorem ds_jar {j : Int} (h : DE K te Γ M fun d Γ' M' => ∃ a ds k, Γ'[0]? = some (some (.ptr a)) ∧ M' a = some (.lst ds) ∧ ixN ds.length j = some k ∧ P.nx Γ' (M'.put a (.lst (ds.set k d)))) : DS K (tAsg te (gSub (tVar 0) (tC (.int j)) rSetL)) Γ M P :=
  ds_asg (h.imp fun d Γ' M' ⟨a, ds, k, h0, hm, hk, q⟩ => dg_sub (de_var h0 (de_int (dst_lst hm hk q))))
end
end D2

set_option maxRecDepth 100000
set_option maxHeartbeats 400000
/-! D3: what code does to data, as a weakest precondition that is reckoned -/
namespace D2
open PySem PySem.Spec PyProof.Rows L2

abbrev KE := D → Ga → Mem → Prop
abbrev WE := Ga → Mem → KE → Prop
abbrev WT := Ga → Mem → (Bool → Ga → Mem → Prop) → Prop
abbrev WA := Ga → Mem → (List D → Ga → Mem → Prop) → Prop
abbrev WO := Ga → Mem → (Option Int → Ga → Mem → Prop) → Prop
abbrev WS := Ga → Mem → DEnds → Prop
abbrev WG := D → Ga → Mem → (Ga → Mem → Prop) → Prop
/-- operators, calls by data -/
abbrev W1 := Mem → D → (D → Prop) → Prop
abbrev W2 := Mem → D → D → (D → Prop) → Prop
abbrev WC := Mem → List D → (D → Prop) → Prop

structure PDE (X : Cx) (e : Expr) (t : TE) (w : WE) : Prop where
  pe : PE X e t
  sd : ∀ Γ M Q, w Γ M Q → DE X.K t Γ M Q
structure PDT (X : Cx) (e : Expr) (t : TT) (w : WT) : Prop where
  pt : PT X e t
  sd : ∀ Γ M Q, w Γ M Q → DT X.K t Γ M Q
structure PDW (X : Cx) (e : Expr) (t : TT) (w : WT) : Prop where
  pw : PW X e t
  sd : ∀ Γ M Q, w Γ M Q → DT X.K t Γ M Q
structure PDA (X : Cx) (es : List Expr) (t : TA) (w : WA) : Prop where
  pa : PA X es t
  sd : ∀ Γ M Q, w Γ M Q → DA X.K t Γ M Q
structure PDO (X : Cx) (e : Option Expr) (t : TO) (w : WO) : Prop where
  po : PO X e t
  sd : ∀ Γ M Q, w Γ M Q → DO X.K t Γ M Q
structure PDS (X : Cx) (s : Stmt) (t : TS) (w : WS) : Prop where
  ps : PS X s t
  sd : ∀ Γ M P, w Γ M P → DS X.K t Γ M P
structure PDB (X : Cx) (s : List Stmt) (t : TS) (w : WS) : Prop where
  ps : PSs X s t
  sd : ∀ Γ M P, w Γ M P → DS X.K t Γ M P
structure PDI (X : Cx) (tg iter : Expr) (t : TI) (w : WA) : Prop where
  pi : PI X tg iter t
  sd : ∀ Γ M Q, w Γ M Q → DI X.K t Γ M Q
structure PDG (X : Cx) (e : Expr) (t : TG) (w : WG) : Prop where
  pg : PG X e t
  sd : ∀ d Γ M Q, w d Γ M Q → DG X.K t d Γ M Q
structure PDGs (X : Cx) (e : List Expr) (t : TGs) (w : List D → Ga → Mem → (Ga → Mem → Prop) → Prop) : Prop where
  pg : PGs X e t
  sd : ∀ d Γ M Q, w d Γ M Q → DGs X.K t d Γ M Q
structure PDOp (X : Cx) (f : Value → Value → Sem Value) (r : R2) (w : W2) : Prop where
  op : OpR X f r
  sd : ∀ x y Γ M Q, w M x y (fun d => Q d Γ M) → DR X.K r x y Γ M Q
structure PDUn (X : Cx) (f : Value → Sem Value) (r : V → Hp → VK → Prop) (w : W1) : Prop where
  op : UnR X f r
  sd : ∀ x Γ M Q, w M x (fun d => Q d Γ M) → DU X.K r x Γ M Q
structure PDCl (X : Cx) (f : Value) (r : List V → Hp → VK → Prop) (w : WC) : Prop where
  op : CallR X f r
  sd : ∀ x Γ M Q, w M x (fun d => Q d Γ M) → DC X.K r x Γ M Q

/-- one of two ways -/
def wite (b : Bool) (A B : Prop) : Prop := match b with
  | true => A
  | false => B
/-! ### expressions -/
def wVar (i : Nat) : WE := fun Γ M Q => match Γ[i]? with
  | some (some d) => Q d Γ M
  | _ => False
def wC (d : D) : WE := fun Γ M Q => Q d Γ M
def wOp (f : W2) (wa wb : WE) : WE := fun Γ M Q => wa Γ M fun x Γ1 M1 => wb Γ1 M1 fun y Γ2 M2 => f M2 x y fun d => Q d Γ2 M2
def wUn (f : W1) (wa : WE) : WE := fun Γ M Q => wa Γ M fun x Γ1 M1 => f M1 x fun d => Q d Γ1 M1
def wIf (c : WT) (wa wb : WE) : WE := fun Γ M Q => c Γ M fun b Γ1 M1 => wite b (wa Γ1 M1 Q) (wb Γ1 M1 Q)
def wNil : WA := fun Γ M Q => Q [] Γ M
def wCons (wa : WE) (wr : WA) : WA := fun Γ M Q => wa Γ M fun x Γ1 M1 => wr Γ1 M1 fun xs Γ2 M2 => Q (x :: xs) Γ2 M2
def wTup (wa : WA) : WE := fun Γ M Q => wa Γ M fun ds Γ1 M1 => ds.length ≤ sizeLine ∧ Q (.tup ds) Γ1 M1
def wLst (wa : WA) : WE := fun Γ M Q => wa Γ M fun ds Γ1 M1 => ds.length ≤ sizeLine ∧ Q (.lst ds) Γ1 M1
def wLstP (wa : WA) : WE := fun Γ M Q => wa Γ M fun ds Γ1 M1 => ds.length ≤ sizeLine ∧ ∀ p, M1 p = none → Q (.ptr p) Γ1 (M1.put p (.lst ds))
def wCB (f : WC) (wa : WA) : WE := fun Γ M Q => wa Γ M fun ds Γ1 M1 => f M1 ds fun d => Q d Γ1 M1
def isBl : D → (Bool → Prop) → Prop
  | .bl b, k => k b
  | _, _ => False
def isIn : D → (Int → Prop) → Prop
  | .int b, k => k b
  | _, _ => False
def wAndV (wa wb : WE) : WE := fun Γ M Q => wa Γ M fun x Γ1 M1 => isBl x fun b => wite b (wb Γ1 M1 Q) (Q (.bl false) Γ1 M1)
def wOrV (wa wb : WE) : WE := fun Γ M Q => wa Γ M fun x Γ1 M1 => isBl x fun b => wite b (Q (.bl true) Γ1 M1) (wb Γ1 M1 Q)
def wNotV (wa : WE) : WE := fun Γ M Q => wa Γ M fun x Γ1 M1 => isBl x fun b => Q (.bl (!b)) Γ1 M1
/-- the value is read for keeps: a list's cell becomes frozen -/
def frzK (d : D) (Γ : Ga) (M : Mem) (Q : KE) : Prop := match d with
  | .ptr a => match M a with
    | some (.lst ds) => Q (.lst ds) (thaw a (.lst ds) Γ) (M.del a)
    | _ => Q d Γ M
  | _ => Q d Γ M
def wFrz (wa : WE) : WE := fun Γ M Q => wa Γ M fun d Γ1 M1 => frzK d Γ1 M1 Q
def wNo : WO := fun Γ M Q => Q none Γ M
def wPart (wa : WE) : WO := fun Γ M Q => wa Γ M fun x Γ1 M1 => isIn x fun i => Q (some i) Γ1 M1
/-- what is read as a sequence -/
def seqD (M : Mem) : D → Option (List D)
  | .lst ds => some ds
  | .tup ds => some ds
  | .scr ds => some ds
  | .ptr a => match M a with
    | some (.lst ds) => some ds
    | _ => none
  | _ => none
def wSl (we : WE) (wl wh : WO) : WE := fun Γ M Q => we Γ M fun x Γ1 M1 => wl Γ1 M1 fun lo Γ2 M2 => wh Γ2 M2 fun hi Γ3 M3 => match x with
  | .str z => z.length ≤ sizeLine ∧ Q (.str (cutS z lo hi)) Γ3 M3
  | .tup ds => ¬ (HT.sIx ds.length 0 lo = 0 ∧ HT.sIx ds.length ds.length hi = ds.length) ∧ Q (.tup (cutD ds lo hi)) Γ3 M3
  | x => match seqD M3 x with
    | some ds => Q (.lst (cutD ds lo hi)) Γ3 M3
    | none => False

/-! ### tests -/
def wB (wa : WE) : WT := fun Γ M Q => wa Γ M fun x Γ1 M1 => isBl x fun b => Q b Γ1 M1
def wAnd (a b : WT) : WT := fun Γ M Q => a Γ M fun c Γ1 M1 => wite c (b Γ1 M1 Q) (Q false Γ1 M1)
def wOr (a b : WT) : WT := fun Γ M Q => a Γ M fun c Γ1 M1 => wite c (Q true Γ1 M1) (b Γ1 M1 Q)
def wNot (a : WT) : WT := fun Γ M Q => a Γ M fun c Γ1 M1 => Q (!c) Γ1 M1
/-- truth of a sequence, of a text -/
def wTru (wa : WE) : WT := fun Γ M Q => wa Γ M fun x Γ1 M1 => match x with
  | .bl b => Q b Γ1 M1
  | .int i => Q (i != 0) Γ1 M1
  | .str z => z.length ≤ sizeLine ∧ Q ((z.length : Int) != 0) Γ1 M1
  | x => match seqD M1 x with
    | some ds => Q (!ds.isEmpty) Γ1 M1
    | none => False

/-! ### statements -/
def wNx : WS := fun Γ M P => P.nx Γ M
def wSeq (a b : WS) : WS := fun Γ M P => a Γ M { nx := fun Γ1 M1 => b Γ1 M1 P, rt := P.rt, bk := P.bk, ct := P.ct }
def wAsg (wa : WE) (g : WG) : WS := fun Γ M P => wa Γ M fun d Γ1 M1 => g d Γ1 M1 P.nx
def gN (i : Nat) : WG := fun d Γ M Q => Q (Γ.set i (some d)) M
def gsN : List D → Ga → Mem → (Ga → Mem → Prop) → Prop := fun ds Γ M Q => match ds with
  | [] => Q Γ M
  | _ => False
def gsC (g : WG) (gs : List D → Ga → Mem → (Ga → Mem → Prop) → Prop) : List D → Ga → Mem → (Ga → Mem → Prop) → Prop := fun ds Γ M Q => match ds with
  | d :: r => g d Γ M fun Γ1 M1 => gs r Γ1 M1 Q
  | [] => False
def gT (n : Nat) (gs : List D → Ga → Mem → (Ga → Mem → Prop) → Prop) : WG := fun d Γ M Q => match d with
  | .tup ds => ds.length = n ∧ gs ds Γ M Q
  | _ => False
/-- a[i] = d for a list's cell -/
def gIx (wo wi : WE) : WG := fun d Γ M Q => wo Γ M fun x Γ1 M1 => wi Γ1 M1 fun y Γ2 M2 => match x, y with
  | .ptr a, .int i => match M2 a with
    | some (.lst ds) => match ixN ds.length i with
      | some j => Q Γ2 (M2.put a (.lst (ds.set j d)))
      | none => False
    | _ => False
  | _, _ => False
def wPar (i j : Nat) (wa : WA) : WS := fun Γ M P => wa Γ M fun ds Γ1 M1 => match ds with
  | [d, e] => P.nx ((Γ1.set i (some d)).set j (some e)) M1
  | _ => False
def wRet (wa : WE) : WS := fun Γ M P => wa Γ M fun d _ M1 => P.rt d M1
def wRetN : WS := fun _ M P => P.rt .non M
def wDrop (wa : WE) : WS := fun Γ M P => wa Γ M fun _ Γ1 M1 => P.nx Γ1 M1
def wIfS (c : WT) (a b : WS) : WS := fun Γ M P => c Γ M fun x Γ1 M1 => wite x (a Γ1 M1 P) (b Γ1 M1 P)
def wNever : WS := fun _ _ _ => False
def wBrk : WS := fun Γ M P => P.bk Γ M
def wCnt : WS := fun Γ M P => P.ct Γ M
def forL (g : WG) (b : WS) (P : DEnds) : List D → Ga → Mem → Prop
  | [], Γ, M => P.nx Γ M
  | d :: ds, Γ, M => g d Γ M fun Γ1 M1 => b Γ1 M1 { nx := forL g b P ds, rt := P.rt, bk := P.nx, ct := forL g b P ds }
def wFor (wi : WA) (g : WG) (b : WS) : WS := fun Γ M P => wi Γ M fun ds Γ1 M1 => forL g b P ds Γ1 M1
def whileN (c : WT) (b : WS) (P : DEnds) : Nat → Ga → Mem → Prop
  | 0, _, _ => False
  | n + 1, Γ, M => c Γ M fun x Γ1 M1 => wite x (b Γ1 M1 { nx := whileN c b P n, rt := P.rt, bk := P.nx, ct := whileN c b P n }) (P.nx Γ1 M1)
def wWhile (c : WT) (b : WS) : WS := fun Γ M P => ∃ n, whileN c b P n Γ M

section
variable {X : Cx} {e a b : Expr} {es : List Expr} {ta tb te to ti : TE} {wa wb we wo wi : WE} {tA tB' : TT} {wA wB' : WT} {t : TA} {w : WA} {pos : Pos} {sts rest : List Stmt} {st : Stmt} {ts us : TS} {ws vs : WS}

theorem DA.imp {K : W.Frag} {Γ : Ga} {M : Mem} {t : TA} {Q Q' : List D → Ga → Mem → Prop} (h : DA K t Γ M Q) (q : ∀ d Γ' M', Q d Γ' M' → Q' d Γ' M') : DA K t Γ M Q' := fun F σ H R s l k =>
  h F σ H R s l fun F' v H' d Γ' M' a b c e z => k F' v H' d Γ' M' a b c e (q _ _ _ z)
theorem DO.imp {K : W.Frag} {Γ : Ga} {M : Mem} {t : TO} {Q Q' : Option Int → Ga → Mem → Prop} (h : DO K t Γ M Q) (q : ∀ d Γ' M', Q d Γ' M' → Q' d Γ' M') : DO K t Γ M Q' := fun F σ H R s l k =>
  h F σ H R s l fun F' v H' Γ' M' a b c z => k F' v H' Γ' M' a b c (q _ _ _ z)

theorem pd_var (i : Nat) {x : Str} {pos : Pos} (hN : X.N[i]? = some x := by rfl) (hv : Vis X.env.scope x := by first | exact Or.inl rfl | exact Or.inr (Or.inl rfl) | exact Or.inr (Or.inr rfl)) (hd : (x == ("__debug__" : Str)) = false := by decide)
    (hcd : (x == ("__classdict__" : Str)) = false := by decide) : PDE X (.Name x pos) (tVar i) (wVar i) := ⟨pv i hN hv hd hcd, fun Γ M Q h => by
  unfold wVar at h
  split at h
  · rename_i d e; exact de_var e h
  · exact h.elim⟩
theorem pd_int {i j pos} : PDE X (.Constant (.int i) j pos) (tC (.int i)) (wC (.int i)) := ⟨pe_int, fun _ _ _ h => de_int h⟩
theorem pd_bl {i j pos} : PDE X (.Constant (.bool i) j pos) (tC (.bl i)) (wC (.bl i)) := ⟨pe_bl, fun _ _ _ h => de_bl h⟩
theorem pd_non {j pos} : PDE X (.Constant .none j pos) (tC .non) (wC .non) := ⟨pe_non, fun _ _ _ h => de_non h⟩
theorem pd_str {i j pos} : PDE X (.Constant (.str i) j pos) (tC (.str i)) (wC (.str i)) := ⟨pe_str, fun _ _ _ h => de_str h⟩
/-- a global name, a built-in's name: constant data -/
theorem pd_c {v : V} {d : D} (h : PE X e (tC v)) (hd : ∀ F, Is X.K F v d) : PDE X e (tC v) (wC d) := ⟨h, fun _ _ _ q => de_c hd q⟩
theorem pd_op {op : Operator} {r : R2} {f : W2} (o : PDOp X (binaryOp op) r f) (ha : PDE X a ta wa) (hb : PDE X b tb wb) : PDE X (.BinOp a op b pos) (tOp r ta tb) (wOp f wa wb) :=
  ⟨pe_op o.op ha.pe hb.pe, fun Γ M Q h => de_op ((ha.sd _ _ _ h).imp fun x Γ1 M1 q => (hb.sd _ _ _ q).imp fun y Γ2 M2 q => o.sd _ _ _ _ _ q)⟩
theorem pd_cmp {op : CmpOp} {r : R2} {f : W2} (o : PDOp X (compareOp op) r f) (ha : PDE X a ta wa) (hb : PDE X b tb wb) (hm : behindInMarks op b = false) : PDE X (.Compare a [op] [b] pos) (tOp r ta tb) (wOp f wa wb) :=
  ⟨pe_cmpR o.op ha.pe hb.pe hm, fun Γ M Q h => de_op ((ha.sd _ _ _ h).imp fun x Γ1 M1 q => (hb.sd _ _ _ q).imp fun y Γ2 M2 q => o.sd _ _ _ _ _ q)⟩
theorem isBl_of {d : D} {k : Bool → Prop} (h : isBl d k) : ∃ b, d = .bl b ∧ k b := by
  cases d <;> first | exact ⟨_, rfl, h⟩ | exact False.elim h
theorem isIn_of {d : D} {k : Int → Prop} (h : isIn d k) : ∃ b, d = .int b ∧ k b := by
  cases d <;> first | exact ⟨_, rfl, h⟩ | exact False.elim h
theorem pdt_cmp {op : CmpOp} {r : R2} {f : W2} (o : PDOp X (compareOp op) r f) (ha : PDE X a ta wa) (hb : PDE X b tb wb) (hm : behindInMarks op b = false) : PDT X (.Compare a [op] [b] pos) (tTest (tOp r ta tb)) (wB (wOp f wa wb)) :=
  ⟨pt_cmpR o.op ha.pe hb.pe hm, fun Γ M Q h => dt_test (((pd_cmp (pos := pos) o ha hb hm).sd _ _ _ h).imp fun _ _ _ q => isBl_of q)⟩
theorem pdt_val (ha : PDE X a ta wa) (he : ∀ whole, isTrue a X.env whole = (do let v ← whole; standAt a.pos; holding [v] (truthy v)) := by intro _; rfl) : PDT X a (tB ta) (wB wa) := ⟨pt_val ha.pe he, fun Γ M Q h => dt_b ((ha.sd _ _ _ h).imp fun _ _ _ q => isBl_of q)⟩
theorem pd_un {op : UnaryOp} {r : V → Hp → VK → Prop} {f : W1} (o : PDUn X (unaryOp op) r f) (ha : PDE X a ta wa) : PDE X (.UnaryOp op a pos) (tUn r ta) (wUn f wa) :=
  ⟨pe_un o.op ha.pe, fun Γ M Q h => de_un ((ha.sd _ _ _ h).imp fun x Γ1 M1 q => o.sd _ _ _ _ q)⟩
theorem if_and {c : Bool} {p q : Prop} (h : wite c p q) : (c = true → p) ∧ (c = false → q) := by
  cases c with
  | true => exact ⟨fun _ => h, fun z => Bool.noConfusion z⟩
  | false => exact ⟨fun z => Bool.noConfusion z, fun _ => h⟩
theorem wite_of {b : Bool} {A B : Prop} (h1 : b = true → A) (h2 : b = false → B) : wite b A B := by
  cases b with
  | true => exact h1 rfl
  | false => exact h2 rfl
theorem wite_d {p : Prop} [Decidable p] {A B : Prop} (h1 : p → A) (h2 : ¬ p → B) : wite (decide p) A B := wite_of (fun z => h1 (of_decide_eq_true z)) fun z => h2 (of_decide_eq_false z)
theorem wite_nd {p : Prop} [Decidable p] {A B : Prop} (h1 : ¬ p → A) (h2 : p → B) : wite (!decide p) A B := wite_of (fun z => h1 (of_decide_eq_false (by simpa using z))) fun z => h2 (of_decide_eq_true (by simpa using z))
theorem wite_t {b : Bool} {A B : Prop} (h : b = true) (a : A) : wite b A B := by subst h; exact a
theorem wite_f {b : Bool} {A B : Prop} (h : b = false) (a : B) : wite b A B := by subst h; exact a
theorem pd_if {c : Expr} (hc : PDT X c tA wA) (ha : PDE X a ta wa) (hb : PDE X b tb wb) : PDE X (.IfExp c a b pos) (tIf tA ta tb) (wIf wA wa wb) :=
  ⟨pe_ifExp hc.pt ha.pe hb.pe, fun Γ M Q h => de_if ((hc.sd _ _ _ h).imp fun x Γ1 M1 q => ⟨fun z => ha.sd _ _ _ ((if_and q).1 z), fun z => hb.sd _ _ _ ((if_and q).2 z)⟩)⟩
theorem pda_nil : PDA X [] tNil wNil := ⟨pa_nil, fun _ _ _ h => da_nil h⟩
theorem pda_cons (ha : PDE X e ta wa) (hr : PDA X es t w) (hs : starEach (e :: es) X.env = (false, eval e X.env) :: starEach es X.env := by rfl) : PDA X (e :: es) (tCons ta t) (wCons wa w) :=
  ⟨pa_cons ha.pe hr.pa hs, fun Γ M Q h => da_cons ((ha.sd _ _ _ h).imp fun x Γ1 M1 q => hr.sd _ _ _ q)⟩
theorem pd_tup {x1} (h : PDA X es t w) : PDE X (.Tuple es x1 pos) (tTup t) (wTup w) := ⟨pe_tup h.pa, fun Γ M Q q => de_tup (h.sd _ _ _ q)⟩
theorem pd_lst (h : PDA X es t w) : PDE X (.List es pos) (tLst t) (wLst w) := ⟨pe_lst h.pa, fun Γ M Q q => de_lst (h.sd _ _ _ q)⟩
theorem pd_lstP (h : PDA X es t w) : PDE X (.List es pos) (tLst t) (wLstP w) := ⟨pe_lst h.pa, fun Γ M Q q => de_lstP (h.sd _ _ _ q)⟩
theorem pd_callB {id : String} {r : List V → Hp → VK → Prop} {f : WC} {x : Str} {p : Pos} (c : PDCl X (.builtin id) r f) (hg : Gl X x) (hm : X.mg x = none) (hv : bootBuiltins x = some (.builtin id)) (ha : PDA X (e :: es) t w) (hn : x ≠ "__name__" := by decide) (hdb : (x == ("__debug__" : Str)) = false := by decide)
    (he : starEach (e :: es) X.env = (false, eval e X.env) :: starEach es X.env := by rfl) (hpl : (backTo pos (starEach es X.env)).any (·.1) = false := by rfl) : PDE X (.Call (.Name x p) (e :: es) [] pos) (tCB r t) (wCB f w) :=
  ⟨pe_callB c.op hg hm hv ha.pa hn hdb he hpl, fun Γ M Q h => de_cb ((ha.sd _ _ _ h).imp fun xs Γ1 M1 q => c.sd _ _ _ _ q)⟩
theorem pd_callTy {id : String} {r : List V → Hp → VK → Prop} {f : WC} {x : Str} {p : Pos} (c : PDCl X (.type id) r f) (hg : Gl X x) (hm : X.mg x = none) (hv : bootBuiltins x = some (.type id)) (ha : PDA X (e :: es) t w) (hn : x ≠ "__name__" := by decide) (hdb : (x == ("__debug__" : Str)) = false := by decide)
    (he : starEach (e :: es) X.env = (false, eval e X.env) :: starEach es X.env := by rfl) (hpl : (backTo pos (starEach es X.env)).any (·.1) = false := by rfl) : PDE X (.Call (.Name x p) (e :: es) [] pos) (tCB r t) (wCB f w) :=
  ⟨pe_callTy c.op hg hm hv ha.pa hn hdb he hpl, fun Γ M Q h => de_cb ((ha.sd _ _ _ h).imp fun xs Γ1 M1 q => c.sd _ _ _ _ q)⟩
theorem pd_one {op} {t : TE} {w : WE} (h : PDE X a t w) : PDE X (.BoolOp op [a] pos) t w := ⟨pe_one h.pe, h.sd⟩
theorem pd_and (ha : PDE X a ta wa) (hb : PDE X (.BoolOp .And (b :: es) pos) tb wb) : PDE X (.BoolOp .And (a :: b :: es) pos) (tAndV ta tb) (wAndV wa wb) :=
  ⟨pe_and ha.pe hb.pe, fun Γ M Q h => de_andV ((ha.sd _ _ _ h).imp fun x Γ1 M1 q => by
    obtain ⟨c, rfl, q⟩ := isBl_of q
    exact ⟨c, rfl, fun z => hb.sd _ _ _ ((if_and q).1 z), (if_and q).2⟩)⟩
theorem pd_or (ha : PDE X a ta wa) (hb : PDE X (.BoolOp .Or (b :: es) pos) tb wb) : PDE X (.BoolOp .Or (a :: b :: es) pos) (tOrV ta tb) (wOrV wa wb) :=
  ⟨pe_or ha.pe hb.pe, fun Γ M Q h => de_orV ((ha.sd _ _ _ h).imp fun x Γ1 M1 q => by
    obtain ⟨c, rfl, q⟩ := isBl_of q
    exact ⟨c, rfl, fun z => hb.sd _ _ _ ((if_and q).2 z), (if_and q).1⟩)⟩
theorem pd_not (ha : PDE X a ta wa) : PDE X (.UnaryOp .Not a pos) (tNotV ta) (wNotV wa) := ⟨pe_not ha.pe, fun Γ M Q h => de_notV ((ha.sd _ _ _ h).imp fun x Γ1 M1 q => isBl_of q)⟩
theorem pd_frz (ha : PDE X a ta wa) : PDE X a ta (wFrz wa) := ⟨ha.pe, fun Γ M Q h => de_frz ((ha.sd _ _ _ h).imp fun d Γ1 M1 q => by
  cases d with
  | ptr a =>
    have q' : (match M1 a with
      | some (.lst ds) => Q (.lst ds) (thaw a (.lst ds) Γ1) (M1.del a)
      | _ => Q (.ptr a) Γ1 M1) := q
    split at q'
    · rename_i ds e; exact .inr ⟨a, ds, rfl, e, q'⟩
    · exact .inl q'
  | _ => exact .inl q)⟩
theorem pdo_none : PDO X none tNoPart wNo := ⟨po_none, fun _ _ _ h => do_none h⟩
theorem pdo_some (h : PDE X e te we) : PDO X (some e) (tPart te) (wPart we) := ⟨po_some h.pe, fun Γ M Q q => do_some ((h.sd _ _ _ q).imp fun _ _ _ q => isIn_of q)⟩
/-- a cell that is read -/
theorem seq_is {K : W.Frag} {F H : Hp} {M : Mem} {v : V} {d : D} {ds : List D} (s : Sat K F M H) (h : Is K F v d) (q : seqD M d = some ds) : ∃ p xs, v = .ref p ∧ (SqL K H p xs ∨ SqT K H p xs) ∧ IsAll K F xs ds := by
  cases d with
  | lst es => cases q; exact sq_is s.sub h (.lst _)
  | tup es => cases q; exact sq_is s.sub h (.tup _)
  | scr es => cases q; exact sq_is s.sub h (.scr _)
  | ptr a =>
    cases h
    have q' : (match M a with
      | some (.lst ds) => some ds
      | _ => none) = some ds := q
    split at q'
    · rename_i es z
      cases q'
      obtain ⟨_, xs, ho, ia⟩ := s.cell a _ z
      exact ⟨a, xs, rfl, .inl (SqL.of ho), ia⟩
    · cases q'
  | _ => cases q
theorem seq_isL {K : W.Frag} {F H : Hp} {M : Mem} {v : V} {d : D} {ds : List D} (s : Sat K F M H) (h : Is K F v d) (q : seqD M d = some ds) (nt : ∀ es, d ≠ .tup es) : ∃ p xs, v = .ref p ∧ SqL K H p xs ∧ IsAll K F xs ds := by
  cases d with
  | lst es => cases q; cases h with | lst h1 h2 => exact ⟨_, _, rfl, SqL.of (s.sub _ _ h1), h2⟩
  | tup es => exact absurd rfl (nt es)
  | scr es => cases q; cases h with | scr h1 h2 => exact ⟨_, _, rfl, sql_mono s.sub h1, h2⟩
  | ptr a =>
    cases h
    have q' : (match M a with
      | some (.lst ds) => some ds
      | _ => none) = some ds := q
    split at q'
    · rename_i es z
      cases q'
      obtain ⟨_, xs, ho, ia⟩ := s.cell a _ z
      exact ⟨a, xs, rfl, SqL.of ho, ia⟩
    · cases q'
  | _ => cases q
theorem dl_seq {K : W.Frag} {Γ : Ga} {M : Mem} {Q : KE} {x : D} {ds : List D} {lo hi : Option Int} (hx : seqD M x = some ds) (ht : ∀ es, x ≠ .tup es) (q : Q (.lst (cutD ds lo hi)) Γ M) : DSl K (gSl K) x lo hi Γ M Q := fun F σ H vx R s l ix k => by
  obtain ⟨a, xs, rfl, hq, ia⟩ := seq_isL s ix hx ht
  refine .inl ⟨a, xs, rfl, hq, fun p hp => ?_⟩
  obtain ⟨e, b, c, d⟩ := new_lst s l hp (cut_is lo hi ia)
  exact k _ _ _ _ _ _ e b c d q
theorem pd_sl {lo hi : Option Expr} {tl th : TO} {wl wh : WO} {p2 : Pos} (he : PDE X e te we) (hl : PDO X lo tl wl) (hh : PDO X hi th wh) : PDE X (.Subscript e (.Slice lo hi none p2) pos) (tSl (gSl X.K) te tl th) (wSl we wl wh) :=
  ⟨pe_slice sg_sl he.pe hl.po hh.po, fun Γ M Q h => de_sl ((he.sd _ _ _ h).imp fun x Γ1 M1 q => (hl.sd _ _ _ q).imp fun lo Γ2 M2 q => (hh.sd _ _ _ q).imp fun hi Γ3 M3 q => by
    split at q
    · exact dl_str q.1 q.2
    · exact dl_tup q.1 q.2
    · rename_i x n1 n2
      split at q
      · rename_i ds e; exact dl_seq e (fun es z => n2 es z) q
      · exact q.elim)⟩

/-! tests -/
theorem pdt_and1 (h : PDT X a tA wA) : PDW X (.BoolOp .And [a] pos) tA wA := ⟨pw_and1 h.pt, h.sd⟩
theorem pdt_or1 (h : PDT X a tA wA) : PDW X (.BoolOp .Or [a] pos) tA wA := ⟨pw_or1 h.pt, h.sd⟩
theorem pdt_and (ha : PDT X a tA wA) (hb : PDW X (.BoolOp .And (b :: es) pos) tB' wB') : PDW X (.BoolOp .And (a :: b :: es) pos) (tAnd tA tB') (wAnd wA wB') :=
  ⟨pw_and ha.pt hb.pw, fun Γ M Q h => dt_and ((ha.sd _ _ _ h).imp fun c Γ1 M1 q => ⟨fun z => hb.sd _ _ _ ((if_and q).1 z), (if_and q).2⟩)⟩
theorem pdt_or (ha : PDT X a tA wA) (hb : PDW X (.BoolOp .Or (b :: es) pos) tB' wB') : PDW X (.BoolOp .Or (a :: b :: es) pos) (tOr tA tB') (wOr wA wB') :=
  ⟨pw_or ha.pt hb.pw, fun Γ M Q h => dt_or ((ha.sd _ _ _ h).imp fun c Γ1 M1 q => ⟨fun z => hb.sd _ _ _ ((if_and q).2 z), (if_and q).1⟩)⟩
theorem PDW.pdt (h : PDW X a tA wA) : PDT X a tA wA := ⟨h.pw.pt, h.sd⟩
theorem pdt_not (ha : PDT X a tA wA) : PDT X (.UnaryOp .Not a pos) (tNot tA) (wNot wA) := ⟨pt_not ha.pt, fun Γ M Q h => dt_not (ha.sd _ _ _ h)⟩
def rdTru (K : W.Frag) (tx : TE) : TT := fun σ H Q => tx σ H fun x H' => ∃ k, TruV K x H' k ∧ Q k H'
theorem isAll_empty {K : W.Frag} {F : Hp} {xs : List V} {ds : List D} (h : IsAll K F xs ds) : xs.isEmpty = ds.isEmpty := by cases h <;> rfl
theorem pdt_tru (ha : PDE X a ta wa) (he : ∀ whole, isTrue a X.env whole = (do let v ← whole; standAt a.pos; holding [v] (truthy v)) := by intro _; rfl) : PDT X a (rdTru X.K ta) (wTru wa) :=
  ⟨pt_truth ha.pe he, fun Γ M Q h F σ H R s l k => by
    refine (ha.sd _ _ _ h) F σ H _ s l fun F1 v H1 d Γ1 M1 e s1 l1 is q => ?_
    dsimp only at q
    split at q
    · cases is; exact ⟨_, rfl, k F1 _ H1 Γ1 M1 e s1 l1 q⟩
    · cases is; exact ⟨_, rfl, k F1 _ H1 Γ1 M1 e s1 l1 q⟩
    · cases is; exact ⟨_, ⟨q.1, rfl⟩, k F1 _ H1 Γ1 M1 e s1 l1 q.2⟩
    · rename_i d n1 n2 n3
      split at q
      · rename_i ds ed
        obtain ⟨p, xs, rfl, hq, ia⟩ := seq_is s1 is ed
        refine ⟨!xs.isEmpty, ?_, ?_⟩
        · rcases hq with hq | hq
          · exact .inl ⟨xs, hq, rfl⟩
          · exact .inr (.inl ⟨xs, hq, rfl⟩)
        · rw [isAll_empty ia]; exact k F1 _ H1 Γ1 M1 e s1 l1 q
      · exact q.elim⟩

/-! statements -/
theorem pdb_nil : PDB X [] tNext wNx := ⟨pss_nil, fun _ _ _ h => ds_next h⟩
theorem pdb_one (h : PDS X st ts ws) : PDB X [st] ts ws := ⟨pss_one h.ps, h.sd⟩
theorem pdb_cons (h : PDS X st ts ws) (r : PDB X rest us vs) : PDB X (st :: rest) (tSeq ts us) (wSeq ws vs) :=
  ⟨pss_cons h.ps r.ps, fun Γ M P q => ds_seq ((h.sd _ _ _ q).imp (fun _ _ q => r.sd _ _ _ q) (fun _ _ q => q) (fun _ _ q => q) fun _ _ q => q)⟩
theorem pds_ret (h : PDE X e te we) : PDS X (.Return (some e) pos) (tRet te) (wRet we) := ⟨ps_ret h.pe, fun Γ M P q => ds_ret (h.sd _ _ _ q)⟩
theorem pds_retN : PDS X (.Return none pos) tRetN wRetN := ⟨ps_retN, fun Γ M P q => ds_retN q⟩
theorem pds_pass : PDS X (.Pass pos) tNext wNx := ⟨ps_pass, fun _ _ _ h => ds_next h⟩
theorem pds_brk : PDS X (.Break pos) tBreak wBrk := ⟨ps_break, fun _ _ _ h => ds_break h⟩
theorem pds_cnt : PDS X (.Continue pos) tCont wCnt := ⟨ps_continue, fun _ _ _ h => ds_cont h⟩
theorem pds_never : PDS X st tNever wNever := ⟨ps_never, fun _ _ _ h => h.elim⟩
theorem pds_expr (he : PDE X e te we) (hs : swapsWith e none pos.line X.env = pure false := by rfl) : PDS X (.Expr e pos) (tDrop te) (wDrop we) := ⟨ps_expr he.pe hs, fun Γ M P q => ds_drop (he.sd _ _ _ q)⟩
theorem pds_if {c : Expr} {p q : List Stmt} (hc : PDT X c tA wA) (ha : PDB X p ts ws) (hb : PDB X q us vs) : PDS X (.If c p q pos) (tIfS tA ts us) (wIfS wA ws vs) :=
  ⟨ps_if hc.pt ha.ps hb.ps, fun Γ M P h => ds_if ((hc.sd _ _ _ h).imp fun x Γ1 M1 q => ⟨fun z => ha.sd _ _ _ ((if_and q).1 z), fun z => hb.sd _ _ _ ((if_and q).2 z)⟩)⟩
theorem pds_set {i : Nat} {x : Str} {pos' : Pos} (hN : X.N.Nodup) (hi : X.N[i]? = some x) (hx : L2.Loc X.env.scope x) (he : PDE X e te we) (hs : swapsWith e (some (.Name x pos')) pos.line X.env = pure false := by rfl) (hf : X.fn x = true ∨ X.env.scope.names.lookup x = some .local := by first | exact .inl rfl | exact .inr rfl | assumption) :
    PDS X (.Assign [.Name x pos'] e pos) (tAsg te (gName i)) (wAsg we (gN i)) := ⟨ps_set hN hi hx he.pe hs hf, fun Γ M P q => ds_set (he.sd _ _ _ q)⟩
theorem pds_asg {tg : Expr} {g : TG} {gw : WG} (he : PDE X e te we) (hg : PDG X tg g gw) (hs : swapsWithSole [tg] e pos.line X.env = pure false := by rfl) (hw : swappedStores [tg] e X.env = pure none := by rfl) (h1 : (assignEach [tg] X.env).map (·.2) = [assign tg X.env] := by rfl) : PDS X (.Assign [tg] e pos) (tAsg te g) (wAsg we gw) :=
  ⟨ps_asg he.pe hg.pg hs hw h1, fun Γ M P q => ds_asg ((he.sd _ _ _ q).imp fun d Γ1 M1 q => hg.sd _ _ _ _ q)⟩
theorem pdg_name {i : Nat} {x : Str} (hN : X.N.Nodup) (hi : X.N[i]? = some x) (hx : L2.Loc X.env.scope x) (hf : X.fn x = true ∨ X.env.scope.names.lookup x = some .local := by first | exact .inl rfl | exact .inr rfl | assumption) : PDG X (.Name x pos) (gName i) (gN i) :=
  ⟨pg_name hN hi hx hf, fun d Γ M Q q => dg_name q⟩
theorem pdgs_nil : PDGs X [] gNil gsN := ⟨pgs_nil, fun d Γ M Q q => by
  cases d with
  | nil => exact dgs_nil q
  | cons => exact q.elim⟩
theorem pdgs_cons {g : TG} {gs : TGs} {gw : WG} {gws : List D → Ga → Mem → (Ga → Mem → Prop) → Prop} (h : PDG X e g gw) (r : PDGs X es gs gws) (hs : (assignEach (e :: es) X.env).map (·.2) = assign e X.env :: (assignEach es X.env).map (·.2) := by rfl) : PDGs X (e :: es) (gCons g gs) (gsC gw gws) := ⟨pgs_cons h.pg r.pg hs, fun d Γ M Q q => by
  cases d with
  | nil => exact q.elim
  | cons d ds => 
    refine dgs_cons fun F σ H v R s l is k => h.sd _ _ _ _ q F σ H v R s l is fun F' σ' H' Γ' M' a b c z => k F' σ' H' Γ' M' a b c (r.sd _ _ _ _ z)⟩
end
end D2

set_option maxRecDepth 100000
set_option maxHeartbeats 400000
namespace D2
open PySem PySem.Spec PyProof.Rows L2

/-! ### operators -/
/-- what is read as a list of its own -/
def lstD (M : Mem) : D → Option (List D)
  | .lst ds => some ds
  | .ptr a => match M a with
    | some (.lst ds) => some ds
    | _ => none
  | _ => none
theorem lst_is {K : W.Frag} {F H : Hp} {M : Mem} {v : V} {d : D} {ds : List D} (s : Sat K F M H) (h : Is K F v d) (q : lstD M d = some ds) : ∃ p xs, v = .ref p ∧ H p = some (.lst xs) ∧ IsAll K F xs ds := by
  cases d with
  | lst es => cases q; cases h with | lst h1 h2 => exact ⟨_, _, rfl, s.sub _ _ h1, h2⟩
  | ptr a =>
    cases h
    have q' : (match M a with
      | some (.lst ds) => some ds
      | _ => none) = some ds := q
    split at q'
    · rename_i es z
      cases q'
      obtain ⟨_, xs, ho, ia⟩ := s.cell a _ z
      exact ⟨a, xs, rfl, ho, ia⟩
    · cases q'
  | _ => cases q
def wAdd : W2 := fun M x y k => match x, y with
  | .int i, .int j => k (.int (i + j))
  | .str a, .str b => a.length + b.length ≤ sizeLine ∧ k (.str (a ++ b))
  | x, y => match lstD M x with
    | some a => match lstD M y with
      | some b => a.length + b.length ≤ sizeLine ∧ k (.lst (a ++ b))
      | none => False
    | none => False
def opI (f : Int → Int → D) : W2 := fun _ x y k => match x, y with
  | .int i, .int j => k (f i j)
  | _, _ => False
def opIc (c : Int → Int → Prop) (f : Int → Int → D) : W2 := fun _ x y k => match x, y with
  | .int i, .int j => c i j ∧ k (f i j)
  | _, _ => False
abbrev wSub : W2 := opI fun i j => .int (i - j)
abbrev wMul : W2 := opIc (fun i j => CMul i j ∨ CMulW i j) fun i j => .int (i * j)
abbrev wFdiv : W2 := opIc CDivW fun i j => .int (i / j)
abbrev wMod : W2 := opIc (fun _ j => 0 < j) fun i j => .int (i % j)
abbrev wPow : W2 := opIc CPow fun i j => .int (i ^ j.toNat)
abbrev wLt : W2 := opI fun i j => .bl (decide (i < j))
abbrev wLe : W2 := opI fun i j => .bl (decide (i ≤ j))
abbrev wGt : W2 := opI fun i j => .bl (decide (j < i))
abbrev wGe : W2 := opI fun i j => .bl (decide (j ≤ i))
def wNeg : W1 := fun _ x k => match x with
  | .int i => k (.int (-i))
  | _ => False
def wEq : W2 := fun _ x y k => match x, y with
  | .int i, .int j => k (.bl (decide (i = j)))
  | .str i, .str j => k (.bl (decide (i = j)))
  | .bl i, .bl j => k (.bl (decide (i = j)))
  | x, y => ∃ p q, Pd x p ∧ Pd y q ∧ SeqAt.shaped p = true ∧ SeqAt.shaped q = true ∧ k (.bl (PyData.eqv p q))
def wNe : W2 := fun _ x y k => match x, y with
  | .int i, .int j => k (.bl (!decide (i = j)))
  | .str i, .str j => k (.bl (!decide (i = j)))
  | .bl i, .bl j => k (.bl (!decide (i = j)))
  | x, y => ∃ p q, Pd x p ∧ Pd y q ∧ SeqAt.shaped p = true ∧ SeqAt.shaped q = true ∧ k (.bl (!PyData.eqv p q))
def wIn : W2 := fun M x y k => match y with
  | .str z => ∃ c, x = .str ⟨#[c]⟩ ∧ k (.bl (decide (c ∈ z.cps.toList)))
  | y => match seqD M y with
    | some ds => flatD x = true ∧ ds.all flatD = true ∧ k (.bl (inD x ds))
    | none => False
def wNin : W2 := fun M x y k => match y with
  | .str z => ∃ c, x = .str ⟨#[c]⟩ ∧ k (.bl (!decide (c ∈ z.cps.toList)))
  | y => match seqD M y with
    | some ds => flatD x = true ∧ ds.all flatD = true ∧ k (.bl (!inD x ds))
    | none => False
def wIs : W2 := fun _ x y k => match y with
  | .non => k (.bl (isNon x))
  | .bl b => match x with
    | .bl a => k (.bl (decide (a = b)))
    | _ => False
  | _ => False
def wIsn : W2 := fun _ x y k => match y with
  | .non => k (.bl (!isNon x))
  | .bl b => match x with
    | .bl a => k (.bl (!decide (a = b)))
    | _ => False
  | _ => False
def wIx : W2 := fun M x y k => match x, y with
  | .str z, .int i => z.length ≤ sizeLine ∧ match atI z.cps.toList i with
    | some c => k (.str ⟨#[c]⟩)
    | none => False
  | x, .int i => match seqD M x with
    | some ds => match atI ds i with
      | some d => k d
      | none => False
    | none => False
  | _, _ => False

section
variable {X : Cx}
variable {K : W.Frag} {Γ : Ga} {M : Mem} {Q : KE}
theorem dr_cat {x y : D} {a b : List D} (ea : lstD M x = some a) (eb : lstD M y = some b) (hz : a.length + b.length ≤ sizeLine) (q : Q (.lst (a ++ b)) Γ M) : DR K gAdd x y Γ M Q := fun F σ H vx vy R s l ix iy k => by
  obtain ⟨p1, xs, rfl, h1, i1⟩ := lst_is s ix ea
  obtain ⟨p2, ys, rfl, h2, i2⟩ := lst_is s iy eb
  refine .inr (.inr ⟨_, _, _, _, rfl, rfl, h1, h2, by rw [i1.length, i2.length]; exact hz, fun p hp => ?_⟩)
  obtain ⟨a, b, c, d⟩ := new_lst s l hp (i1.append i2)
  exact k _ _ _ _ _ _ a b c d q
theorem po_add : PDOp X (binaryOp .Add) gAdd wAdd := ⟨og_add, fun x y Γ M Q h => by
  unfold wAdd at h
  split at h
  · exact dr_addI h
  · exact dr_addS h.1 h.2
  · split at h
    · rename_i a ea
      split at h
      · rename_i b eb; exact dr_cat ea eb h.1 h.2
      · exact h.elim
    · exact h.elim⟩
theorem opI_of {f : Int → Int → D} {x y : D} {k : D → Prop} (h : opI f M x y k) : ∃ i j, x = .int i ∧ y = .int j ∧ k (f i j) := by
  unfold opI at h
  split at h
  · exact ⟨_, _, rfl, rfl, h⟩
  · exact h.elim
theorem opIc_of {c : Int → Int → Prop} {f : Int → Int → D} {x y : D} {k : D → Prop} (h : opIc c f M x y k) : ∃ i j, x = .int i ∧ y = .int j ∧ c i j ∧ k (f i j) := by
  unfold opIc at h
  split at h
  · exact ⟨_, _, rfl, rfl, h⟩
  · exact h.elim
theorem po_sub : PDOp X (binaryOp .Sub) gSubt wSub := ⟨og_sub, fun x y Γ M Q h => by obtain ⟨i, j, rfl, rfl, q⟩ := opI_of h; exact dr_sub q⟩
theorem po_mul : PDOp X (binaryOp .Mult) gMul wMul := ⟨og_mul, fun x y Γ M Q h => by
  obtain ⟨i, j, rfl, rfl, c, q⟩ := opIc_of h
  rcases c with c | c
  · exact dr_mul c q
  · exact dr_mulW c q⟩
theorem po_fdiv : PDOp X (binaryOp .FloorDiv) gFdiv wFdiv := ⟨og_fdiv, fun x y Γ M Q h => by obtain ⟨i, j, rfl, rfl, c, q⟩ := opIc_of h; exact dr_fdiv c q⟩
theorem po_mod : PDOp X (binaryOp .Mod) gMod wMod := ⟨og_mod, fun x y Γ M Q h => by obtain ⟨i, j, rfl, rfl, c, q⟩ := opIc_of h; exact dr_mod c q⟩
theorem po_pow : PDOp X (binaryOp .Pow) gPow wPow := ⟨og_pow, fun x y Γ M Q h => by obtain ⟨i, j, rfl, rfl, c, q⟩ := opIc_of h; exact dr_pow c q⟩
theorem po_lt : PDOp X (compareOp .Lt) gLt wLt := ⟨og_lt, fun x y Γ M Q h => by obtain ⟨i, j, rfl, rfl, q⟩ := opI_of h; exact dr_lt q⟩
theorem po_le : PDOp X (compareOp .LtE) gLe wLe := ⟨og_le, fun x y Γ M Q h => by obtain ⟨i, j, rfl, rfl, q⟩ := opI_of h; exact dr_le q⟩
theorem po_gt : PDOp X (compareOp .Gt) gGt wGt := ⟨og_gt, fun x y Γ M Q h => by obtain ⟨i, j, rfl, rfl, q⟩ := opI_of h; exact dr_gt q⟩
theorem po_ge : PDOp X (compareOp .GtE) gGe wGe := ⟨og_ge, fun x y Γ M Q h => by obtain ⟨i, j, rfl, rfl, q⟩ := opI_of h; exact dr_ge q⟩
theorem pu_neg : PDUn X (unaryOp .USub) gNeg wNeg := ⟨ug_neg, fun x Γ M Q h => by
  unfold wNeg at h
  split at h
  · exact du_neg h
  · exact h.elim⟩
theorem po_eq (hu : X.A.units + 64 < cLine) : PDOp X (compareOp .Eq) (gEq X.K) wEq := ⟨og_eq hu, fun x y Γ M Q h => by
  unfold wEq at h
  split at h
  · exact dr_eqI h
  · exact dr_eqS h
  · exact dr_eqB h
  · obtain ⟨p, q, h1, h2, h3, h4, h5⟩ := h; exact dr_eqD h1 h2 h3 h4 h5⟩
theorem po_ne (hu : X.A.units + 64 < cLine) : PDOp X (compareOp .NotEq) (gNe X.K) wNe := ⟨og_ne hu, fun x y Γ M Q h => by
  unfold wNe at h
  split at h
  · exact dr_neI h
  · exact dr_neS h
  · exact dr_neB h
  · obtain ⟨p, q, h1, h2, h3, h4, h5⟩ := h; exact dr_neD h1 h2 h3 h4 h5⟩
theorem dr_inQ {x y : D} {ds : List D} (hy : seqD M y = some ds) (fx : flatD x = true) (fs : ds.all flatD = true) (q : Q (.bl (inD x ds)) Γ M) : DR K (gIn K) x y Γ M Q := fun F σ H vx vy R s l ix iy k => by
  obtain ⟨p, xs, rfl, hq, ia⟩ := seq_is s iy hy
  refine .inr ⟨p, xs, rfl, hq, flat_is ix fx, all_flat ia fs, ?_⟩
  rw [in_is ix fx ia fs]
  exact k F _ H _ Γ M (Same.refl F) s l (.bl _) q
theorem dr_ninQ {x y : D} {ds : List D} (hy : seqD M y = some ds) (fx : flatD x = true) (fs : ds.all flatD = true) (q : Q (.bl (!inD x ds)) Γ M) : DR K (gNin K) x y Γ M Q := fun F σ H vx vy R s l ix iy k => by
  obtain ⟨p, xs, rfl, hq, ia⟩ := seq_is s iy hy
  refine .inr ⟨p, xs, rfl, hq, flat_is ix fx, all_flat ia fs, ?_⟩
  rw [in_is ix fx ia fs]
  exact k F _ H _ Γ M (Same.refl F) s l (.bl _) q
theorem po_in : PDOp X (compareOp .In) (gIn X.K) wIn := ⟨og_in, fun x y Γ M Q h => by
  unfold wIn at h
  split at h
  · obtain ⟨c, rfl, q⟩ := h; exact dr_inS q
  · split at h
    · rename_i ds e; exact dr_inQ e h.1 h.2.1 h.2.2
    · exact h.elim⟩
theorem po_nin : PDOp X (compareOp .NotIn) (gNin X.K) wNin := ⟨og_nin, fun x y Γ M Q h => by
  unfold wNin at h
  split at h
  · obtain ⟨c, rfl, q⟩ := h; exact dr_ninS q
  · split at h
    · rename_i ds e; exact dr_ninQ e h.1 h.2.1 h.2.2
    · exact h.elim⟩
theorem po_is : PDOp X (compareOp .Is) gIs wIs := ⟨og_is, fun x y Γ M Q h => by
  unfold wIs at h
  split at h
  · exact dr_isN h
  · split at h
    · exact dr_isB h
    · exact h.elim
  · exact h.elim⟩
theorem po_isn : PDOp X (compareOp .IsNot) gIsn wIsn := ⟨og_isn, fun x y Γ M Q h => by
  unfold wIsn at h
  split at h
  · exact dr_isnN h
  · split at h
    · exact dr_isnB h
    · exact h.elim
  · exact h.elim⟩
theorem dr_ixQ {x : D} {ds : List D} {i : Int} {d : D} (hx : seqD M x = some ds) (e : atI ds i = some d) (q : Q d Γ M) : DR K (rIx K) x (.int i) Γ M Q := fun F σ H vx vy R s l ix iy k => by
  cases iy
  obtain ⟨p, xs, rfl, hq, ia⟩ := seq_is s ix hx
  obtain ⟨v, hv, iv⟩ := atI_is ia e
  rcases hq with hq | hq
  · exact .inl ⟨p, xs, i, v, rfl, rfl, hq, hv, k F _ H _ Γ M (Same.refl F) s l iv q⟩
  · exact .inr (.inl ⟨p, xs, i, v, rfl, rfl, hq, hv, k F _ H _ Γ M (Same.refl F) s l iv q⟩)
theorem pd_ix {a b : Expr} {ta tb : TE} {wa wb : WE} {pos : Pos} (ha : PDE X a ta wa) (hb : PDE X b tb wb) (hs : PlainIx b) : PDE X (.Subscript a b pos) (tOp (rIx X.K) ta tb) (wOp wIx wa wb) :=
  ⟨pe_ix ix_seq ha.pe hb.pe hs, fun Γ M Q h => de_op ((ha.sd _ _ _ h).imp fun x Γ1 M1 q => (hb.sd _ _ _ q).imp fun y Γ2 M2 q => by
    unfold wIx at q
    split at q
    · obtain ⟨z, q⟩ := q
      split at q
      · rename_i c e; exact dr_ixS z e q
      · exact q.elim
    · split at q
      · rename_i ds e
        split at q
        · rename_i d e2; exact dr_ixQ e e2 q
        · exact q.elim
      · exact q.elim
    · exact q.elim)⟩

/-! ### targets, loops -/
theorem pdg_tup {es : List Expr} {k : Nat} {t : TGs} {gw : List D → Ga → Mem → (Ga → Mem → Prop) → Prop} {n : Nat} {pos : Pos} (hc : X.calm = true) (h : PDGs X es t gw)
    (hn : (assignEach es X.env).length = n := by rfl) (hst : (assignEach es X.env).findIdx? (·.1) = none := by rfl) : PDG X (.Tuple es k pos) (gTup X.K n t) (gT n gw) := ⟨pg_tup hc h.pg hn hst, fun d Γ M Q q => by
  cases d with
  | tup ds => exact dg_tup q.1 (h.sd _ _ _ _ q.2)
  | _ => exact q.elim⟩
theorem pdg_ix {o i : Expr} {to ti : TE} {wo wi : WE} {pos : Pos} (ho : PDE X o to wo) (hi : PDE X i ti wi)
    (ha : ∀ v, assign (.Subscript o i pos) X.env v = (do
      let ov ← holding [v] (eval o X.env)
      let iv ← holding [v, ov] (eval i X.env)
      standAt pos
      holding [v, ov, iv] (setItem ov iv v)
      release [v, ov, iv] []) := by intro _; rfl) : PDG X (.Subscript o i pos) (gSub to ti rSetL) (gIx wo wi) := ⟨pg_sub ho.pe hi.pe set_list ha, fun d Γ M Q q =>
  dg_sub ((ho.sd _ _ _ q).imp fun x Γ1 M1 q => (hi.sd _ _ _ q).imp fun y Γ2 M2 q => by
    split at q
    · split at q
      · rename_i ds e
        split at q
        · rename_i j ej; exact dst_lst e ej q
        · exact q.elim
      · exact q.elim
    · exact q.elim)⟩
theorem pds_par {i j : Nat} {x y : Str} {a b : Expr} {ta : TA} {wa : WA} {px py pt : Pos} {kt k2 : Nat} {pt2 pos : Pos} (hc : X.calm = true) (hN : X.N.Nodup) (hi : X.N[i]? = some x) (hj : X.N[j]? = some y) (hij : i ≠ j)
    (lx : X.env.scope.names.lookup x = some .local) (ly : X.env.scope.names.lookup y = some .local) (h : PDA X [a, b] ta wa)
    (hp : PS X (.Assign [.Tuple [.Name x px, .Name y py] kt pt] (.Tuple [a, b] k2 pt2) pos) (tPar i j ta)) : PDS X (.Assign [.Tuple [.Name x px, .Name y py] kt pt] (.Tuple [a, b] k2 pt2) pos) (tPar i j ta) (wPar i j wa) := ⟨hp, fun Γ M P q =>
  ds_par ((h.sd _ _ _ q).imp fun ds Γ1 M1 q => by
    split at q
    · exact ⟨_, _, rfl, q⟩
    · exact q.elim)⟩
end
/-! sources -/
def lsQ (d : D) (k : List D → Prop) : Prop := match d with
  | .lst ds => k ds
  | _ => False
def tpQ (d : D) (k : List D → Prop) : Prop := match d with
  | .tup ds => k ds
  | _ => False
def stQ (d : D) (k : List D → Prop) : Prop := match d with
  | .str x => k (signs x)
  | _ => False
theorem lsQ_of {d : D} {k : List D → Prop} (h : lsQ d k) : ∃ ds, d = .lst ds ∧ k ds := by cases d <;> first | exact ⟨_, rfl, h⟩ | exact False.elim h
theorem tpQ_of {d : D} {k : List D → Prop} (h : tpQ d k) : ∃ ds, d = .tup ds ∧ k ds := by cases d <;> first | exact ⟨_, rfl, h⟩ | exact False.elim h
theorem stQ_of {d : D} {k : List D → Prop} (h : stQ d k) : ∃ x, d = .str x ∧ k (signs x) := by cases d <;> first | exact ⟨_, rfl, h⟩ | exact False.elim h
def wIt (f : D → (List D → Prop) → Prop) (wa : WE) : WA := fun Γ M Q => wa Γ M fun d Γ1 M1 => f d fun ds => Q ds Γ1 M1
def wRg1 (wa : WA) : WA := fun Γ M Q => wa Γ M fun ds Γ1 M1 => match ds with
  | [.int j] => -(2 ^ 62) ≤ j ∧ j < 2 ^ 62 ∧ Q (nums 0 j.toNat) Γ1 M1
  | _ => False
def wRg2 (wa : WA) : WA := fun Γ M Q => wa Γ M fun ds Γ1 M1 => match ds with
  | [.int i, .int j] => (-(2 ^ 62) ≤ i ∧ i < 2 ^ 62 ∧ -(2 ^ 62) ≤ j ∧ j < 2 ^ 62) ∧ Q (nums i (j - i).toNat) Γ1 M1
  | _ => False
def wEnum (wa : WA) : WA := fun Γ M Q => wa Γ M fun ds Γ1 M1 => match ds with
  | [.lst es] => Q (pairsI 0 es) Γ1 M1
  | _ => False
section
variable {X : Cx} {tg e : Expr} {es : List Expr} {te : TE} {we : WE} {t : TA} {wa : WA}
theorem pdi_list (h : PDE X e te we) (hp : PI X tg e (iList X.K te)) : PDI X tg e (iList X.K te) (wIt lsQ we) := ⟨hp, fun Γ M Q q => di_list ((h.sd _ _ _ q).imp fun _ _ _ q => lsQ_of q)⟩
theorem pdi_tup (h : PDE X e te we) (hp : PI X tg e (iTup X.K te)) : PDI X tg e (iTup X.K te) (wIt tpQ we) := ⟨hp, fun Γ M Q q => di_tup ((h.sd _ _ _ q).imp fun _ _ _ q => tpQ_of q)⟩
theorem pdi_str (h : PDE X e te we) (hp : PI X tg e (iStr te)) : PDI X tg e (iStr te) (wIt stQ we) := ⟨hp, fun Γ M Q q => di_str ((h.sd _ _ _ q).imp fun _ _ _ q => stQ_of q)⟩
theorem pdi_rg1 (h : PDA X es t wa) (hp : PI X tg e (iRng1 t)) : PDI X tg e (iRng1 t) (wRg1 wa) := ⟨hp, fun Γ M Q q => di_range1 ((h.sd _ _ _ q).imp fun ds _ _ q => by
  split at q
  · exact ⟨_, rfl, q⟩
  · exact q.elim)⟩
theorem pdi_rg2 (h : PDA X es t wa) (hp : PI X tg e (iRng2 t)) : PDI X tg e (iRng2 t) (wRg2 wa) := ⟨hp, fun Γ M Q q => di_range2 ((h.sd _ _ _ q).imp fun ds _ _ q => by
  split at q
  · exact ⟨_, _, rfl, q⟩
  · exact q.elim)⟩
theorem pdi_enum (h : PDA X es t wa) (hp : PI X tg e (iEnum X.K t)) : PDI X tg e (iEnum X.K t) (wEnum wa) := ⟨hp, fun Γ M Q q => di_enum ((h.sd _ _ _ q).imp fun ds _ _ q => by
  split at q
  · exact ⟨_, rfl, q⟩
  · exact q.elim)⟩
end

section
variable {X : Cx} {tg e c : Expr} {body : List Stmt} {wi : TI} {g : TG} {tb : TS} {tc : TT} {ww : WA} {gw : WG} {bw : WS} {cw : WT} {pos : Pos}
theorem for_ok {K : W.Frag} {Γ : Ga} {M : Mem} {P : DEnds} (sg : ∀ d Γ M Q, gw d Γ M Q → DG K g d Γ M Q) (sb : ∀ Γ M P, bw Γ M P → DS K tb Γ M P) (h : DI K wi Γ M fun ds Γ1 M1 => forL gw bw P ds Γ1 M1) : DS K (tFor wi g tb) Γ M P := by
  refine ds_for (fun ds j Γ M => forL gw bw P (ds.drop j) Γ M) ?_
  intro F σ H R s l k
  refine h F σ H R s l fun F' J H' ds Γ' M' e s' l' w q => k F' J H' ds Γ' M' e s' l' w ⟨q, fun j d Γ M hd q => ?_, fun Γ M q => ?_⟩
  · have lt := (List.getElem?_eq_some_iff.mp hd).1
    have e2 : ds.drop j = d :: ds.drop (j + 1) := by
      rw [List.drop_eq_getElem_cons lt]
      congr 1
      exact (List.getElem?_eq_some_iff.mp hd).2
    rw [e2] at q
    refine fun F σ H v R s l is k => (sg _ _ _ _ q) F σ H v R s l is fun F' σ' H' Γ' M' a b c z => k F' σ' H' Γ' M' a b c ?_
    exact sb _ _ _ z
  · rw [List.drop_length] at q
    exact q
theorem pds_for (hp : PassesOwn (model X.prog X.w) X.A X.env X.xe) (hc : X.calm = true) (hi : PDI X tg e wi ww) (hg : PDG X tg g gw) (hb : PDB X body tb bw) (hs : ∀ x, foldedSetIterable e X.env x = pure x := by intro _; rfl) : PDS X (.For tg e body [] pos) (tFor wi g tb) (wFor ww gw bw) :=
  ⟨ps_for hp hc hi.pi hg.pg hb.ps hs, fun Γ M P q => for_ok hg.sd hb.sd (hi.sd _ _ _ q)⟩
theorem while_ok {K : W.Frag} {Γ : Ga} {M : Mem} {P : DEnds} (sc : ∀ Γ M Q, cw Γ M Q → DT K tc Γ M Q) (sb : ∀ Γ M P, bw Γ M P → DS K tb Γ M P) {n : Nat} (h : whileN cw bw P n Γ M) : DS K (tWhile tc tb) Γ M P := by
  refine ds_while (fun m Γ M => whileN cw bw P m Γ M) n h fun m Γ M q => ?_
  cases m with
  | zero => exact q.elim
  | succ m =>
    refine (sc _ _ _ q).imp fun x Γ1 M1 q => ⟨fun z => ?_, fun z => (if_and q).2 z⟩
    exact (sb _ _ _ ((if_and q).1 z)).imp (fun Γ M q => ⟨m, Nat.lt_succ_self m, q⟩) (fun _ _ q => q) (fun _ _ q => q) fun Γ M q => ⟨m, Nat.lt_succ_self m, q⟩
theorem pds_while (hp : PassesOwn (model X.prog X.w) X.A X.env X.xe) (hc : PDT X c tc cw) (hb : PDB X body tb bw) : PDS X (.While c body [] pos) (tWhile tc tb) (wWhile cw bw) :=
  ⟨ps_while hp hc.pt hb.ps, fun Γ M P ⟨n, q⟩ => while_ok hc.sd hb.sd q⟩
end
end D2

set_option maxRecDepth 100000
set_option maxHeartbeats 400000
namespace D2
open PySem PySem.Spec PyProof.Rows L2

/-! ### comprehensions -/
structure PDGc (K : W.Frag) (g : TG) (vs : List Nat) (w : WG) : Prop where
  sd : ∀ d Γ M Q, w d Γ M Q → DGc K g vs d Γ M Q
theorem pdgc_1 {K : W.Frag} {i : Nat} : PDGc K (gName i) [i] (gN i) := ⟨fun d Γ M Q q => dgc_1 q⟩
def gT2 (i j : Nat) : WG := fun d Γ M Q => match d with
  | .tup [a, b] => Q ((Γ.set i (some a)).set j (some b)) M
  | _ => False
def gT3 (i j k : Nat) : WG := fun d Γ M Q => match d with
  | .tup [a, b, c] => Q (((Γ.set i (some a)).set j (some b)).set k (some c)) M
  | _ => False
theorem pdgc_2 {K : W.Frag} {i j : Nat} (h : i ≠ j) : PDGc K (gTup K 2 (gCons (gName i) (gCons (gName j) gNil))) [i, j] (gT2 i j) := ⟨fun d Γ M Q q => by
  unfold gT2 at q
  split at q
  · exact dgc_2 h q
  · exact q.elim⟩
theorem wipe3 {σ : L2.St} {i j k : Nat} {v w z : Option V} (h1 : i ≠ j) (h2 : i ≠ k) (h3 : j ≠ k) : wipe ((((wipe σ [i, j, k]).set i v).set j w).set k z) [i, j, k] = wipe σ [i, j, k] := by
  show ((((((((σ.set k none).set j none).set i none).set i v).set j w).set k z).set k none).set j none).set i none = ((σ.set k none).set j none).set i none
  apply List.ext_getElem?
  intro n
  simp only [List.getElem?_set]
  by_cases a : i = n <;> by_cases b : j = n <;> by_cases c : k = n <;> simp_all
theorem pdgc_3 {K : W.Frag} {i j k : Nat} (h1 : i ≠ j) (h2 : i ≠ k) (h3 : j ≠ k) : PDGc K (gTup K 3 (gCons (gName i) (gCons (gName j) (gCons (gName k) gNil)))) [i, j, k] (gT3 i j k) := ⟨fun d Γ M Q q => by
  unfold gT3 at q
  split at q
  · rename_i a b c
    intro F σ H v R s l is kk
    cases is with
    | tup g1 g2 =>
      cases g2 with
      | cons a1 b1 =>
        cases b1 with
        | cons b1 c1 =>
          cases c1 with
          | cons c1 d1 =>
            cases d1
            refine ⟨_, _, rfl, sqt_mono s.sub g1, rfl, _, _, rfl, _, _, rfl, _, _, rfl, rfl, ?_⟩
            refine kk F _ H _ M (Same.refl F) s ?_ (wipe3 h1 h2 h3) q
            have e : ∀ (A B C : Option V), (((((σ.set k none).set j none).set i none).set i A).set j B).set k C = ((σ.set i A).set j B).set k C := fun A B C => by
              apply List.ext_getElem?
              intro n
              simp only [List.getElem?_set, List.length_set]
              by_cases a : i = n <;> by_cases b : j = n <;> by_cases c : k = n <;> simp_all
            show Loc K F ((((((σ.set k none).set j none).set i none).set i (some _)).set j (some _)).set k (some _)) _
            rw [e]
            exact ((l.set i a1).set j b1).set k c1
  · exact q.elim⟩

def lcL (g : WG) (c : WT) (we : WE) (Γ : Ga) (k : List D → Mem → Prop) (p : Addr) : List D → List D → Mem → Prop
  | [], acc, M => k acc M
  | d :: ds, acc, M => g d Γ (M.put p (.lst acc)) fun Γ2 M2 => c Γ2 M2 fun b Γ3 M3 => wite b (we Γ3 M3 (fun y _ M4 => ∃ M5 : Mem, M5 p = none ∧ M4 = M5.put p (.lst acc) ∧ lcL g c we Γ k p ds (acc ++ [y]) M5))
      (∃ M5 : Mem, M5 p = none ∧ M3 = M5.put p (.lst acc) ∧ lcL g c we Γ k p ds acc M5)
def wLc (wi : WA) (g : WG) (c : WT) (we : WE) : WE := fun Γ M Q => wi Γ M fun ds Γ1 M1 => ds.length ≤ sizeLine ∧ ∀ p, M1 p = none → lcL g c we Γ1 (fun acc M' => Q (.lst acc) Γ1 M') p ds [] M1
def wYes : WT := fun Γ M Q => Q true Γ M
section
variable {K : W.Frag} {Γ : Ga} {M : Mem} {Q : KE} {wi : TI} {g : TG} {tt : TT} {te : TE} {vs : List Nat} {gw : WG} {cw : WT} {we : WE}
theorem lc_ok (sg : ∀ d Γ M Q, gw d Γ M Q → DGc K g vs d Γ M Q) (sc : ∀ Γ M Q, cw Γ M Q → DT K tt Γ M Q) (se : ∀ Γ M Q, we Γ M Q → DE K te Γ M Q)
    (h : DI K wi Γ M fun ds Γ1 M1 => ds.length ≤ sizeLine ∧ ∀ p, M1 p = none → lcL gw cw we Γ1 (fun acc M' => Q (.lst acc) Γ1 M') p ds [] M1) : DE K (tLc wi g tt te vs) Γ M Q := fun F σ H R s l k => by
  refine h F σ H _ s l fun F1 J H1 ds Γ1 M1 e1 s1 l1 w q p hp => ?_
  obtain ⟨hz, q⟩ := q
  have hM := (s1.none_of hp).2
  have q0 := q p hM
  have start : Sat K F1 (M1.put p (.lst [])) (upd H1 p (.lst [])) := s1.newCell hp ⟨[], upd_same, .nil⟩
  refine ⟨fun i m H' => m = ds.length - i ∧ i ≤ ds.length ∧ ∃ F' acc M', Same F1 F' ∧ M' p = none ∧ Sat K F' (M'.put p (.lst acc)) H' ∧ acc.length ≤ i ∧ lcL gw cw we Γ1 (fun acc M' => Q (.lst acc) Γ1 M') p (ds.drop i) acc M', ⟨_, rfl, Nat.zero_le _, F1, [], M1, Same.refl F1, hM, start, Nat.le_refl _, q0⟩, ?_⟩
  rintro i m H' ⟨rfl, hi, F', acc, M', e', hM', s', ha, iv⟩
  by_cases hlt : i < ds.length
  · have hd : ds[i]? = some ds[i] := List.getElem?_eq_getElem hlt
    have e2 : ds.drop i = ds[i] :: ds.drop (i + 1) := List.drop_eq_getElem_cons hlt
    rw [e2] at iv
    obtain ⟨hg, hy⟩ := w.go F' _ H' i _ e' s' hd
    refine .inr ⟨hg, fun H2 => ∃ F' acc M', Same F1 F' ∧ M' p = none ∧ Sat K F' (M'.put p (.lst acc)) H2 ∧ acc.length ≤ i + 1 ∧ lcL gw cw we Γ1 (fun acc M' => Q (.lst acc) Γ1 M') p (ds.drop (i + 1)) acc M', fun H2 ⟨F2, acc2, M2, a, b, c, d, e⟩ => ⟨ds.length - (i + 1), by omega, rfl, hlt, F2, acc2, M2, a, b, c, d, e⟩, fun x H2 yl => ?_⟩
    obtain ⟨F2, e2, s2, is2⟩ := hy x H2 yl
    refine sg _ _ _ _ iv F2 σ H2 x _ s2 (l1.mono (e'.trans e2)) is2 fun F3 σ3 H3 Γ3 M3 e3 s3 l3 hw q3 => ⟨hw, ?_⟩
    refine sc _ _ _ q3 F3 σ3 H3 _ s3 l3 fun F4 b H4 Γ4 M4 e4 s4 l4 q4 => ?_
    have e14 : Same F1 F4 := ((e'.trans e2).trans e3).trans e4
    cases b with
    | true =>
      refine se _ _ _ ((if_and q4).1 rfl) F4 σ3 H4 _ s4 l4 fun F5 y H5 dy Γ5 M5 e5 s5 l5 iy q5 => ?_
      obtain ⟨M6, hM6, rfl, q6⟩ := q5
      obtain ⟨hF, xs, hx, ix⟩ := s5.cell p _ Mem.put_same
      have hlen : xs.length = acc.length := ix.length
      refine ⟨xs, hx, by rw [hlen]; omega, F5, acc ++ [dy], M6, e14.trans e5, hM6, ?_, by rw [List.length_append]; show acc.length + 1 ≤ i + 1; omega, q6⟩
      have z := s5.put (o := .lst (xs ++ [y])) (m' := .lst (acc ++ [dy])) Mem.put_same ⟨_, upd_same, ix.append (.cons iy .nil)⟩
      rw [Mem.put_put] at z
      exact z
    | false =>
      obtain ⟨M6, hM6, rfl, q6⟩ := (if_and q4).2 rfl
      exact ⟨F4, acc, M6, e14, hM6, s4, by omega, q6⟩
  · have ei : i = ds.length := by omega
    subst ei
    rw [List.drop_length] at iv
    obtain ⟨hn, xs, ho, hx⟩ := s'.cell p _ Mem.put_same
    have sm : Same F' (upd F' p (.lst xs)) := same_upd hn
    have z := s'.freeze ho hn
    rw [Mem.put_del hM'] at z
    exact .inl ⟨w.stop F' _ H' e' s', k _ (.ref p) H' (.lst acc) Γ1 _ ((e1.trans e').trans sm) z ((l1.mono e').mono sm) (.lst upd_same (hx.mono sm)) iv⟩
end
structure PDTs (X : Cx) (ifs : List Expr) (t : TT) (w : WT) : Prop where
  pt : PTs X ifs t
  sd : ∀ Γ M Q, w Γ M Q → DT X.K t Γ M Q
theorem pdts_nil {X : Cx} : PDTs X [] tYes wYes := ⟨pts_nil, fun Γ M Q q => dt_yes q⟩
theorem pdts_one {X : Cx} {e : Expr} {t : TT} {w : WT} (h : PDT X e t w) : PDTs X [e] t w := ⟨pts_one h.pt, h.sd⟩
section
variable {X : Cx} {elt tg iter : Expr} {ifs : List Expr} {scope : Scope} {own : List (Str × Nat)} {pos : Pos} {wi : TI} {g : TG} {tt : TT} {te : TE} {ww : WA} {gw : WG} {cw : WT} {we : WE}
theorem pd_lc (hc : X.calm = true) (hN : X.N.Nodup) (hi : PDI X tg iter wi ww) (ok : BlkOk X.N X.env.scope scope own)
    (hg : ∀ (s : Shared) (H : Hp) (C : Addr) (cl : List (Str × Addr)) (fp : List Addr), PG (X.blk s H scope (compEnvC scope cl C X.env) fp) tg g) (hgd : PDGc X.K g (own.map (·.2)) gw)
    (ht : ∀ (s : Shared) (H : Hp) (C : Addr) (cl : List (Str × Addr)) (fp : List Addr), PDTs (X.blk s H scope (compEnvC scope cl C X.env) fp) ifs tt cw)
    (he : ∀ (s : Shared) (H : Hp) (C : Addr) (cl : List (Str × Addr)) (fp : List Addr), PDE (X.blk s H scope (compEnvC scope cl C X.env) fp) elt te we) (hs : ∀ x, foldedSetIterable iter X.env x = pure x := by intro _; rfl) :
    PDE X (.ListComp elt [⟨tg, iter, ifs, 0⟩] scope pos) (tLc wi g tt te (own.map (·.2))) (wLc ww gw cw we) :=
  ⟨pe_lc hc hN hi.pi ok hg (fun s H C cl fp => (ht s H C cl fp).pt) (fun s H C cl fp => (he s H C cl fp).pe) hs, fun Γ M Q q =>
    lc_ok hgd.sd (ht X.s_0 X.H_0 0 [] []).sd (he X.s_0 X.H_0 0 [] []).sd (hi.sd _ _ _ q)⟩
theorem pds_setLc {i : Nat} {y : Str} {py : Pos} {spos : Pos} (hc : X.calm = true) (hN : X.N.Nodup) (hy : X.N[i]? = some y) (hyl : X.env.scope.names.lookup y = some .local)
    (hsw : swapsWith (.ListComp elt [⟨tg, iter, ifs, 0⟩] scope pos) (some (.Name y py)) spos.line X.env = pure true) (hi : PDI X tg iter wi ww) (ok : BlkOk X.N X.env.scope scope own)
    (hg : ∀ (s : Shared) (H : Hp) (C : Addr) (cl : List (Str × Addr)) (fp : List Addr), PG (X.blk s H scope (compEnvC scope cl C X.env) fp) tg g) (hgd : PDGc X.K g (own.map (·.2)) gw)
    (ht : ∀ (s : Shared) (H : Hp) (C : Addr) (cl : List (Str × Addr)) (fp : List Addr), PDTs (X.blk s H scope (compEnvC scope cl C X.env) fp) ifs tt cw)
    (he : ∀ (s : Shared) (H : Hp) (C : Addr) (cl : List (Str × Addr)) (fp : List Addr), PDE (X.blk s H scope (compEnvC scope cl C X.env) fp) elt te we) (hs : ∀ x, foldedSetIterable iter X.env x = pure x := by intro _; rfl) :
    PDS X (.Assign [.Name y py] (.ListComp elt [⟨tg, iter, ifs, 0⟩] scope pos) spos) (tAsg (tLc wi g tt te (own.map (·.2))) (gName i)) (wAsg (wLc ww gw cw we) (gN i)) :=
  ⟨ps_setLc hc hN hy hyl hsw hi.pi ok hg (fun s H C cl fp => (ht s H C cl fp).pt) (fun s H C cl fp => (he s H C cl fp).pe) hs, fun Γ M P q =>
    ds_set (lc_ok hgd.sd (ht X.s_0 X.H_0 0 [] []).sd (he X.s_0 X.H_0 0 [] []).sd (hi.sd _ _ _ q))⟩
end

/-! ### calls of defs -/
abbrev SpD := List D → Mem → (D → Mem → Prop) → Prop
def spT (K : W.Frag) (S : SpD) : Sp := fun vs H Q _ => ∃ F M ds q, Sat K F M H ∧ IsAll K F vs ds ∧ S ds M q ∧ ∀ F' v H' d M', Same F F' → Sat K F' M' H' → Is K F' v d → q d M' → Q v H'
def wCall (S : SpD) (wa : WA) : WE := fun Γ M Q => wa Γ M fun ds Γ1 M1 => S ds M1 fun d M2 => Q d Γ1 M2
def wCallD (S : SpD) (dd : List D) (wa : WA) : WE := fun Γ M Q => wa Γ M fun ds Γ1 M1 => S (ds ++ dd) M1 fun d M2 => Q d Γ1 M2
def FnAt (P : Program) (w : World) (K : W.Frag) (mg : Str → Option Value) (base : Heap) (k : Nat) (x : Str) (S : SpD) : Prop :=
  ∃ f fd ps, FnOk P w K mg base CX0 k f fd ps (spT K S) ∧ mg x = some (.ref f) ∧ W.keepIn K (.ref f) = true ∧ Binds K fd ps []
theorem de_callT {K : W.Frag} {Γ : Ga} {M : Mem} {Q : KE} {S : SpD} {dvs : List V} {dd : List D} (hd : ∀ F, IsAll K F dvs dd) {t : TA} {E : XK} (h : DA K t Γ M fun ds Γ' M' => S (ds ++ dd) M' fun d M'' => Q d Γ' M'') : DE K (tCall (spT K S) dvs E t) Γ M Q := fun F σ H R s l k => by
  refine h F σ H _ s l fun F1 vs H1 ds Γ1 M1 e1 s1 l1 ix q1 => ?_
  exact ⟨F1, M1, ds ++ dd, _, s1, ix.append (hd F1), q1, fun F' v H' d M' e s' i' hp => k F' v H' d Γ1 M' (e1.trans e) s' (l1.mono e) i' hp⟩
section
variable {X : Cx} {k : Nat} {x : Str} {S : SpD} {p pos : Pos} {e : Expr} {es : List Expr} {t : TA} {wa : WA}
theorem pd_call (G : FnAt X.prog X.w X.K X.mg X.base k x S) (hr : Room k X.A) (hg : Gl X x) (ha : PDA X (e :: es) t wa) (hdb : (x == ("__debug__" : Str)) = false := by decide)
    (he : starEach (e :: es) X.env = (false, eval e X.env) :: starEach es X.env := by rfl) (hpl : (backTo pos (starEach es X.env)).any (·.1) = false := by rfl) :
    PDE X (.Call (.Name x p) (e :: es) [] pos) (tCall (spT X.K S) [] E0 t) (wCall S wa) := by
  obtain ⟨f, fd, ps, F, hm, hk, hb⟩ := G
  refine ⟨pe_call F hr hg hm hk hb .nil pass0 ha.pa hdb he hpl, fun Γ M Q q => de_callT (fun _ => .nil) ((ha.sd _ _ _ q).imp fun ds Γ1 M1 q => ?_)⟩
  rw [List.append_nil]
  exact q
theorem pd_call0 (G : FnAt X.prog X.w X.K X.mg X.base k x S) (hr : Room k X.A) (hg : Gl X x) (hdb : (x == ("__debug__" : Str)) = false := by decide) :
    PDE X (.Call (.Name x p) [] [] pos) (tCall (spT X.K S) [] E0 tNil) (wCall S wNil) := by
  obtain ⟨f, fd, ps, F, hm, hk, hb⟩ := G
  refine ⟨pe_call0 F hr hg hm hk hb .nil pass0 hdb, fun Γ M Q q => de_callT (fun _ => .nil) (da_nil ?_)⟩
  exact q
end
/-- the body's end: some cells may be left behind -/
structure Rt (q : D → Mem → Prop) (d : D) (M' : Mem) : Prop where
  ex : ∃ M'' : Mem, M''.le M' ∧ q d M''
theorem Rt.of {q : D → Mem → Prop} {d : D} {M : Mem} (h : q d M) : Rt q d M := ⟨M, Mem.le_refl M, h⟩
theorem Rt.le {q : D → Mem → Prop} {d : D} {M M' : Mem} (l : M.le M') (h : q d M) : Rt q d M' := ⟨M, l, h⟩
abbrev endsT (q : D → Mem → Prop) : DEnds := { nx := fun _ M' => Rt q .non M', rt := fun d M' => Rt q d M' }
section
variable {P : Program} {w : World} {K : W.Frag} {mg : Str → Option Value} {base : Heap}
theorem fn_bodyT {S : SpD} {t : TS} {vs : List V} {H : Hp} {Q : VK} {E : XK} {N : List Str} {n : Nat} {ww : WS} (hn : n = N.length - vs.length) (sd : ∀ Γ M P, ww Γ M P → DS K t Γ M P) (h : spT K S vs H Q E)
    (hb : ∀ ds M q, S ds M q → ww (ds.map some ++ List.replicate n none) M (endsT q)) : t { nx := fun _ H' => Q .non H', rt := Q } (start N vs) H := by
  obtain ⟨F, M, ds, q, s, ix, hp, k⟩ := h
  have e : start N vs = vs.map some ++ List.replicate n none := by rw [hn]; rfl
  rw [e]
  refine sd _ _ _ (hb ds M q hp) F _ H _ s (Loc.start n ix) ⟨fun F' σ' H' Γ' M' e s' l' q => ?_, fun F' v H' d M' e s' i q => ?_, fun _ _ _ _ _ _ _ _ q => q.elim, fun _ _ _ _ _ _ _ _ q => q.elim⟩
  · obtain ⟨M'', le, q⟩ := q.ex
    exact k F' .non H' .non M'' e (s'.less le) .non q
  · obtain ⟨M'', le, q⟩ := q.ex
    exact k F' v H' d M'' e (s'.less le) i q
theorem fn_okT {x qual : Str} {st : Stmt} {f : Addr} {fd : FuncData} {N ps : List Str} {k : Nat} {S : SpD} (F : Fun K x qual st f fd) (sc : FnScope N ps (defScope st)) (len : ∀ ds M q, S ds M q → ds.length = ps.length)
    (hw : ∀ (cdv : Value) (A : Around) (outer : List Env) (s : Shared) (H : Hp) (E : XK), Room k (A.deeper (envOfC qual (defScope st) s.heap.objs.size f cdv)) →
      ∃ t ww, PDB (cxOf CX0 P w K mg base N qual (defScope st) f cdv A outer s H E).nox (defBody st) t ww ∧ ∀ ds M q, S ds M q → ww (ds.map some ++ List.replicate (N.length - ps.length) none) M (endsT q)) : FnOk P w K mg base CX0 (k + 1) f fd ps (spT K S) := by
  have hl : ∀ vs H Q E, spT K S vs H Q E → vs.length = ps.length := fun vs H Q E ⟨F, M, ds, q, _, ix, hp, _⟩ => ix.length.trans (len ds M q hp)
  refine F.ok sc hl fun cdv A outer s H vs Q E hr h => ?_
  obtain ⟨t, ww, pb, hb⟩ := hw cdv A outer s H E hr
  exact ⟨t, pb.ps, fn_bodyT (by rw [hl _ _ _ _ h]) pb.sd h hb⟩
/-- an elder promise -/
theorem spT_of {S : Spec} {S' : SpD} (h : ∀ ds M q, S' ds M q → S.pre ds M ∧ ∀ d M', S.post ds M d M' → q d M') : ∀ vs H Q E, spT K S' vs H Q E → spD K S vs H Q E := fun vs H Q E ⟨F, M, ds, q, s, ix, hp, k⟩ => by
  obtain ⟨h1, h2⟩ := h ds M q hp
  exact ⟨F, M, ds, s, ix, h1, fun F' v H' d M' e s' i p => k F' v H' d M' e s' i (h2 d M' p)⟩
end
end D2

set_option maxRecDepth 100000
set_option maxHeartbeats 400000
namespace D2
open PySem PySem.Spec PyProof.Rows L2

/-! ### built-in calls -/
def wLen : WC := fun M xs k => match xs with
  | [.str z] => z.length ≤ sizeLine ∧ k (.int (z.length : Int))
  | [x] => match seqD M x with
    | some ds => k (.int (ds.length : Int))
    | none => False
  | _ => False
def wInt : WC := fun _ xs k => match xs with
  | [.int i] => k (.int i)
  | [.str a] => ∃ n, PySem.intText? a = some n ∧ a.length ≤ 640 ∧ k (.int n)
  | _ => False
def wStr : WC := fun _ xs k => match xs with
  | [.int i] => i.natAbs.log2 < 1920 ∧ k (.str (toString i))
  | [.str x] => k (.str x)
  | _ => False
def wList : WC := fun M xs k => match xs with
  | [.str z] => z.length ≤ sizeLine ∧ k (.lst (signs z))
  | [x] => match seqD M x with
    | some ds => k (.lst ds)
    | none => False
  | _ => False
/-- isinstance of data of a built-in type with a built-in type -/
def tyB : D → String → Bool
  | .bl _, c => decide (c = "bool") || decide (c = "int")
  | .int _, c => decide (c = "int")
  | .str _, c => decide (c = "str")
  | .lst _, c => decide (c = "list")
  | .tup _, c => decide (c = "tuple")
  | .dct _, c => decide (c = "dict")
  | _, _ => false
def okTy (c : String) : Prop := c = "bool" ∨ c = "int" ∨ c = "str" ∨ c = "list" ∨ c = "tuple" ∨ c = "dict"
def plainTy : D → Prop
  | .non | .bl _ | .int _ | .str _ | .lst _ | .tup _ | .dct _ => True
  | _ => False
/-- what isinstance asks of an own class -/
structure ObC (K : W.Frag) (C : Addr) : Prop where
  ty : ∀ (H : Hp) (a dx : Addr) (fs : List (Str × V)), H a = some (.ins C dx fs) → TyX K H (.ref a) (.ref C)
def wIsi (K : W.Frag) : WC := fun _ xs k => match xs with
  | [x, .ty c] => match x with
    | .obj C fs => ObC K C ∧ ∃ b, W.kitOne K (.ref C) (.type c) = some b ∧ k (.bl b)
    | .exc C fs => ExcC K C ∧ ∃ b, W.kitOne K (.ref C) (.type c) = some b ∧ k (.bl b)
    | .exn C => ExcC K C ∧ ∃ b, W.kitOne K (.ref C) (.type c) = some b ∧ k (.bl b)
    | x => plainTy x ∧ okTy c ∧ k (.bl (tyB x c))
  | [x, .ptr C'] => match x with
    | .obj C fs => ObC K C ∧ ∃ b, W.kitOne K (.ref C) (.ref C') = some b ∧ k (.bl b)
    | .exc C fs => ExcC K C ∧ ∃ b, W.kitOne K (.ref C) (.ref C') = some b ∧ k (.bl b)
    | .exn C => ExcC K C ∧ ∃ b, W.kitOne K (.ref C) (.ref C') = some b ∧ k (.bl b)
    | x => ∃ n b, TyD x n ∧ W.kitOne K (.type n) (.ref C') = some b ∧ k (.bl b)
  | _ => False
def blsD : List D → Option (List Bool)
  | [] => some []
  | .bl b :: ds => (blsD ds).map (b :: ·)
  | _ :: _ => none
theorem blsD_of : ∀ {ds : List D} {bs : List Bool}, blsD ds = some bs → ds = bs.map .bl
  | [], _, h => by cases h; rfl
  | .bl b :: ds, _, h => by
    simp only [blsD, Option.map_eq_some_iff] at h
    obtain ⟨cs, h1, rfl⟩ := h
    rw [blsD_of h1]
    rfl
  | .non :: _, _, h | .int _ :: _, _, h | .str _ :: _, _, h | .lst _ :: _, _, h | .tup _ :: _, _, h | .obj _ _ :: _, _, h | .dct _ :: _, _, h | .ptr _ :: _, _, h | .ty _ :: _, _, h | .scr _ :: _, _, h | .exc _ _ :: _, _, h | .exn _ :: _, _, h => by simp [blsD] at h
theorem blsD_map (bs : List Bool) : blsD (bs.map .bl) = some bs := by
  induction bs with
  | nil => rfl
  | cons b bs ih => simp [blsD, ih]
def wAll : WC := fun _ xs k => match xs with
  | [.lst ds] => ∃ bs : List Bool, ds = bs.map .bl ∧ k (.bl (bs.all id))
  | _ => False
def wAny : WC := fun _ xs k => match xs with
  | [.lst ds] => ∃ bs : List Bool, ds = bs.map .bl ∧ k (.bl (bs.any id))
  | _ => False
section
variable {X : Cx}
theorem one_seq {K : W.Frag} {F H : Hp} {M : Mem} {vs : List V} {x : D} {ds : List D} (s : Sat K F M H) (h : IsAll K F vs [x]) (q : seqD M x = some ds) : ∃ p xs, vs = [.ref p] ∧ (SqL K H p xs ∨ SqT K H p xs) ∧ IsAll K F xs ds := by
  obtain ⟨v, rfl, i1⟩ := one_is h
  obtain ⟨p, xs, rfl, hq, ia⟩ := seq_is s i1 q
  exact ⟨p, xs, rfl, hq, ia⟩
theorem pc_len : PDCl X (.builtin "len") (rLenG X.K) wLen := ⟨cg_len, fun x Γ M Q h => by
  unfold wLen at h
  split at h
  · exact dc_lenS h.1 h.2
  · split at h
    · rename_i x ds e
      intro F σ H vs R s l ix k
      obtain ⟨p, xs, rfl, hq, ia⟩ := one_seq s ix e
      refine ⟨.ref p, xs.length, rfl, ?_, ?_⟩
      · rcases hq with hq | hq
        · exact .inl ⟨xs, hq, rfl⟩
        · exact .inr ⟨xs, hq, rfl⟩
      · rw [ia.length]
        exact k F _ H _ Γ M (Same.refl F) s l (.int _) h
    · exact h.elim
  · exact h.elim⟩
theorem pc_int : PDCl X (.type "int") rIntG wInt := ⟨cg_int, fun x Γ M Q h => by
  unfold wInt at h
  split at h
  · exact dc_int h
  · obtain ⟨n, h1, h2, h3⟩ := h; exact dc_intS h1 h2 h3
  · exact h.elim⟩
theorem pc_str : PDCl X (.type "str") rStrG wStr := ⟨cg_str, fun x Γ M Q h => by
  unfold wStr at h
  split at h
  · exact dc_str h.1 h.2
  · exact dc_strS h
  · exact h.elim⟩
theorem pc_list (hc : X.calm = true) : PDCl X (.type "list") (rListG X.K) wList := ⟨cg_list hc, fun x Γ M Q h => by
  unfold wList at h
  split at h
  · exact dc_listS h.1 h.2
  · split at h
    · rename_i x ds e
      intro F σ H vs R s l ix k
      obtain ⟨p, xs, rfl, hq, ia⟩ := one_seq s ix e
      refine .inl ⟨p, xs, rfl, hq, fun r hr => ?_⟩
      obtain ⟨a, b, c, d⟩ := new_lst s l hr ia
      exact k _ _ _ _ _ _ a b c d h
    · exact h.elim
  · exact h.elim⟩
/-- the reading of list(..) whose list is changed later -/
theorem pd_listP {e : Expr} {t : TA} {wa : WA} (h : PE X e (tCB (rListG X.K) t)) (ha : ∀ Γ M Q, wa Γ M Q → DA X.K t Γ M Q) :
    PDE X e (tCB (rListG X.K) t) (fun Γ M Q => wa Γ M fun xs Γ1 M1 => match xs with
      | [x] => match seqD M1 x with
        | some ds => ∀ p, M1 p = none → Q (.ptr p) Γ1 (M1.put p (.lst ds))
        | none => False
      | _ => False) := ⟨h, fun Γ M Q q F σ H R s l k => by
  refine ha _ _ _ q F σ H _ s l fun F1 vs H1 ds Γ1 M1 e1 s1 l1 ix q => ?_
  split at q
  · split at q
    · rename_i x ds e
      obtain ⟨p, xs, rfl, hq, ia⟩ := one_seq s1 ix e
      refine .inl ⟨p, xs, rfl, hq, fun r hr => ?_⟩
      exact k F1 _ _ _ Γ1 _ e1 (new_cell s1 l1 hr ia) l1 (.ptr r) (q r (s1.none_of hr).2)
    · exact q.elim
  · exact q.elim⟩
theorem tyB_kit {x : D} {n c : String} (t : TyD x n) (hc : okTy c) : kitB n c = some (tyB x c) := by
  rcases hc with rfl | rfl | rfl | rfl | rfl | rfl <;> cases t <;> first | (show kitB _ _ = some true; decide +kernel) | (show kitB _ _ = some false; decide +kernel)
theorem plain_ty {x : D} (h : plainTy x) : ∃ n, TyD x n := by
  cases x <;> first | exact h.elim | exact ⟨_, .non⟩ | exact ⟨_, .bl _⟩ | exact ⟨_, .int _⟩ | exact ⟨_, .str _⟩ | exact ⟨_, .lst _⟩ | exact ⟨_, .tup _⟩ | exact ⟨_, .dct _⟩
theorem dc_isiO {K : W.Frag} {Γ : Ga} {M : Mem} {Q : KE} {C : Addr} {fs : List (Str × D)} {c : D} {cv : Value} {b : Bool} (o : ObC K C) (hc : (∃ n, c = .ty n ∧ cv = .type n) ∨ ∃ a, c = .ptr a ∧ cv = .ref a) (e : W.kitOne K (.ref C) cv = some b) (q : Q (.bl b) Γ M) : DC K (rIsA K) [.obj C fs, c] Γ M Q := fun F σ H vs R s l ix k => by
  obtain ⟨v, w, rfl, i1, i2⟩ := two_is ix
  cases i1 with
  | obj h1 h2 =>
    rcases hc with ⟨n, rfl, rfl⟩ | ⟨a, rfl, rfl⟩
    · cases i2
      exact .inl (.inl ⟨_, _, _, _, b, rfl, .ty n, o.ty _ _ _ _ (s.sub _ _ h1), e, k F _ H _ Γ M (Same.refl F) s l (.bl b) q⟩)
    · cases i2
      exact .inl (.inl ⟨_, _, _, _, b, rfl, .own a, o.ty _ _ _ _ (s.sub _ _ h1), e, k F _ H _ Γ M (Same.refl F) s l (.bl b) q⟩)
theorem dc_isiC {K : W.Frag} {Γ : Ga} {M : Mem} {Q : KE} {x : D} {n : String} {C : Addr} {b : Bool} (t : TyD x n) (e : W.kitOne K (.type n) (.ref C) = some b) (q : Q (.bl b) Γ M) : DC K (rIsA K) [x, .ptr C] Γ M Q := fun F σ H vs R s l ix k => by
  obtain ⟨v, w, rfl, i1, i2⟩ := two_is ix
  cases i2
  exact .inl (.inl ⟨v, _, _, _, b, rfl, .own C, tyX_of s.sub i1 t, e, k F _ H _ Γ M (Same.refl F) s l (.bl b) q⟩)
theorem pc_isi : PDCl X (.builtin "isinstance") (rIsA X.K) (wIsi X.K) := ⟨cg_isA, fun x Γ M Q h => by
  unfold wIsi at h
  split at h
  · rename_i x c
    split at h
    · obtain ⟨o, b, e, q⟩ := h; exact dc_isiO o (.inl ⟨c, rfl, rfl⟩) e q
    · obtain ⟨o, b, e, q⟩ := h; exact dc_isE (.inl ⟨c, rfl, rfl⟩) o e q
    · obtain ⟨o, b, e, q⟩ := h; exact dc_isE0 (.inl ⟨c, rfl, rfl⟩) o e q
    · obtain ⟨p, hc, q⟩ := h
      obtain ⟨n, t⟩ := plain_ty p
      exact dc_is t (tyB_kit t hc) q
  · rename_i x C
    split at h
    · obtain ⟨o, b, e, q⟩ := h; exact dc_isiO o (.inr ⟨C, rfl, rfl⟩) e q
    · obtain ⟨o, b, e, q⟩ := h; exact dc_isE (.inr ⟨C, rfl, rfl⟩) o e q
    · obtain ⟨o, b, e, q⟩ := h; exact dc_isE0 (.inr ⟨C, rfl, rfl⟩) o e q
    · obtain ⟨n, b, t, e, q⟩ := h; exact dc_isiC t e q
  · exact h.elim⟩
/-- isinstance(x, (a, b)) -/
def wIsiT (a b : String) (wa : WE) : WE := fun Γ M Q => wa Γ M fun x Γ1 M1 => plainTy x ∧ okTy a ∧ okTy b ∧ Q (.bl (tyB x a || tyB x b)) Γ1 M1
theorem pd_isiT {e : Expr} {ta : TE} {wa : WE} {a b : String} (ha : ∀ Γ M Q, wa Γ M Q → DE X.K ta Γ M Q) (h : PE X e (tCB (rIsA X.K) (tCons ta (tCons (tTup (tCons (tC (.ty a)) (tCons (tC (.ty b)) tNil))) tNil)))) :
    PDE X e (tCB (rIsA X.K) (tCons ta (tCons (tTup (tCons (tC (.ty a)) (tCons (tC (.ty b)) tNil))) tNil))) (wIsiT a b wa) := ⟨h, fun Γ M Q q => de_isT ((ha _ _ _ q).imp fun x Γ1 M1 ⟨p, h1, h2, q⟩ => by
  obtain ⟨n, t⟩ := plain_ty p
  exact ⟨n, tyB x a, tyB x a || tyB x b, t, tyB_kit t h1, fun z => by rw [z]; exact tyB_kit t h2, fun z => by rw [z]; rfl, q⟩)⟩
theorem pc_all (hc : X.calm = true) : PDCl X (.builtin "all") (rAll X.K) wAll := ⟨cr_all hc, fun x Γ M Q h => by
  unfold wAll at h
  split at h
  · obtain ⟨bs, rfl, q⟩ := h; exact dc_all q
  · exact h.elim⟩
theorem pc_any (hc : X.calm = true) : PDCl X (.builtin "any") (rAny X.K) wAny := ⟨cr_any hc, fun x Γ M Q h => by
  unfold wAny at h
  split at h
  · obtain ⟨bs, rfl, q⟩ := h; exact dc_any q
  · exact h.elim⟩
end
end D2

set_option maxRecDepth 100000
set_option maxHeartbeats 400000
namespace D2
open PySem PySem.Spec PyProof.Rows L2

/-! ### methods of lists, dicts, texts -/
def wAppend (wo wa : WE) : WE := fun Γ M Q => wo Γ M fun x Γ1 M1 => match x with
  | .ptr a => (∃ ds, M1 a = some (.lst ds)) ∧ wa Γ1 M1 fun d Γ2 M2 => match M2 a with
    | some (.lst ds) => ds.length < sizeLine ∧ Q .non Γ2 (M2.put a (.lst (ds ++ [d])))
    | _ => False
  | _ => False
def wExtend (wo wa : WE) : WE := fun Γ M Q => wo Γ M fun x Γ1 M1 => match x with
  | .ptr a => (∃ ds, M1 a = some (.lst ds)) ∧ wa Γ1 M1 fun d Γ2 M2 => match M2 a with
    | some (.lst ds) => match lstD M2 d with
      | some es => ds.length + es.length ≤ sizeLine ∧ Q .non Γ2 (M2.put a (.lst (ds ++ es)))
      | none => False
    | _ => False
  | _ => False
def wPop (wo : WE) : WE := fun Γ M Q => wo Γ M fun x Γ1 M1 => match x with
  | .ptr a => match M1 a with
    | some (.lst ds) => match ds[ds.length - 1]? with
      | some d => Q d Γ1 (M1.put a (.lst ds.dropLast))
      | none => False
    | _ => False
  | _ => False
def wS0 (f : Str → (D → Prop) → Prop) (wo : WE) : WE := fun Γ M Q => wo Γ M fun x Γ1 M1 => match x with
  | .str a => f a fun d => Q d Γ1 M1
  | _ => False
def fAlnum : Str → (D → Prop) → Prop := fun a k => k (.bl (Txt.isalnum a))
def fUpper : Str → (D → Prop) → Prop := fun a k => a.length ≤ 5592405 ∧ k (.str (Txt.upper a))
def wJoin (wo wa : WE) : WE := fun Γ M Q => wo Γ M fun x Γ1 M1 => match x with
  | .str a => wa Γ1 M1 fun d Γ2 M2 => match seqD M2 d with
    | some ds => ∃ ys : List Str, ds = ys.map .str ∧ (ys.map (·.length)).sum + ys.length * a.length ≤ 16777216 ∧ Q (.str (Txt.join a ys)) Γ2 M2
    | none => False
  | _ => False
section
variable {X : Cx} {o e : Expr} {to te : TE} {wo we : WE} {apos cpos : Pos}
theorem isAll_strs {K : W.Frag} {F : Hp} : ∀ {xs : List V} {ys : List Str}, IsAll K F xs (ys.map .str) → xs = ys.map V.str
  | _, [], h => by cases h; rfl
  | _, y :: ys, h => by
    cases h with
    | cons a r => cases a; rw [isAll_strs r]; rfl
theorem cell_lst {K : W.Frag} {F H : Hp} {M : Mem} {a : Addr} {ds : List D} (s : Sat K F M H) (h : M a = some (.lst ds)) : ∃ xs, H a = some (.lst xs) ∧ IsAll K F xs ds := (s.cell a _ h).2
theorem pd_append (ho : PDE X o to wo) (he : PDE X e te we) (h : PE X (.Call (.Attribute o "append" apos) [e] [] cpos) (tBM X.K "list" rAppend to (tCons te tNil))) :
    PDE X (.Call (.Attribute o "append" apos) [e] [] cpos) (tBM X.K "list" rAppend to (tCons te tNil)) (wAppend wo we) := ⟨h, fun Γ M Q q F σ H R s l k => by
  refine ho.sd _ _ _ q F σ H _ s l fun F1 v H1 d Γ1 M1 e1 s1 l1 is q => ?_
  split at q
  · rename_i a
    obtain ⟨⟨ds, hm⟩, q⟩ := q
    cases is
    obtain ⟨xs, hx, ix⟩ := cell_lst s1 hm
    refine ⟨.inl ⟨rfl, xs, SqL.of hx⟩, ?_⟩
    refine he.sd _ _ _ q F1 σ H1 _ s1 l1 fun F2 v2 H2 d2 Γ2 M2 e2 s2 l2 is2 q2 => ?_
    split at q2
    · rename_i ds2 hm2
      obtain ⟨xs2, hx2, ix2⟩ := cell_lst s2 hm2
      refine ⟨a, xs2, v2, rfl, rfl, hx2, by rw [ix2.length]; exact q2.1, ?_⟩
      exact k F2 _ _ _ Γ2 _ (e1.trans e2) (s2.put (m' := .lst (ds2 ++ [d2])) hm2 ⟨_, upd_same, ix2.append (.cons is2 .nil)⟩) l2 .non q2.2
    · exact q2.elim
  · exact q.elim⟩
theorem pd_extend (ho : PDE X o to wo) (he : PDE X e te we) (h : PE X (.Call (.Attribute o "extend" apos) [e] [] cpos) (tBM X.K "list" rExtend to (tCons te tNil))) :
    PDE X (.Call (.Attribute o "extend" apos) [e] [] cpos) (tBM X.K "list" rExtend to (tCons te tNil)) (wExtend wo we) := ⟨h, fun Γ M Q q F σ H R s l k => by
  refine ho.sd _ _ _ q F σ H _ s l fun F1 v H1 d Γ1 M1 e1 s1 l1 is q => ?_
  split at q
  · rename_i a
    obtain ⟨⟨ds, hm⟩, q⟩ := q
    cases is
    obtain ⟨xs, hx, ix⟩ := cell_lst s1 hm
    refine ⟨.inl ⟨rfl, xs, SqL.of hx⟩, ?_⟩
    refine he.sd _ _ _ q F1 σ H1 _ s1 l1 fun F2 v2 H2 d2 Γ2 M2 e2 s2 l2 is2 q2 => ?_
    split at q2
    · rename_i ds2 hm2
      split at q2
      · rename_i es he2
        obtain ⟨xs2, hx2, ix2⟩ := cell_lst s2 hm2
        obtain ⟨b, zs, rfl, hz, iz⟩ := lst_is s2 is2 he2
        refine ⟨a, b, xs2, zs, rfl, rfl, hx2, hz, by rw [ix2.length, iz.length]; exact q2.1, ?_⟩
        exact k F2 _ _ _ Γ2 _ (e1.trans e2) (s2.put (m' := .lst (ds2 ++ es)) hm2 ⟨_, upd_same, ix2.append iz⟩) l2 .non q2.2
      · exact q2.elim
    · exact q2.elim
  · exact q.elim⟩
theorem pd_pop (ho : PDE X o to wo) (h : PE X (.Call (.Attribute o "pop" apos) [] [] cpos) (tBM0 X.K "list" rPop to)) : PDE X (.Call (.Attribute o "pop" apos) [] [] cpos) (tBM0 X.K "list" rPop to) (wPop wo) := ⟨h, fun Γ M Q q F σ H R s l k => by
  refine ho.sd _ _ _ q F σ H _ s l fun F1 v H1 d Γ1 M1 e1 s1 l1 is q => ?_
  split at q
  · rename_i a
    split at q
    · rename_i ds hm
      split at q
      · rename_i d hd
        cases is
        obtain ⟨xs, hx, ix⟩ := cell_lst s1 hm
        refine ⟨.inl ⟨rfl, xs, SqL.of hx⟩, ?_⟩
        obtain ⟨y, hy, iy⟩ := ix.get hd
        refine ⟨a, xs, y, rfl, rfl, hx, by rw [ix.length]; exact hy, ?_⟩
        exact k F1 _ _ _ Γ1 _ e1 (s1.put (m' := .lst ds.dropLast) hm ⟨_, upd_same, ix.dropLast⟩) l1 iy q
      · exact q.elim
    · exact q.elim
  · exact q.elim⟩
theorem pd_alnum (ho : PDE X o to wo) (h : PE X e (tM0 (fun x xs H Q => ∃ a, x = .str a ∧ xs = [] ∧ True ∧ Q (.bl (Txt.isalnum a)) H) to)) :
    PDE X e (tM0 (fun x xs H Q => ∃ a, x = .str a ∧ xs = [] ∧ True ∧ Q (.bl (Txt.isalnum a)) H) to) (wS0 fAlnum wo) := ⟨h, fun Γ M Q q F σ H R s l k => by
  refine ho.sd _ _ _ q F σ H _ s l fun F1 v H1 d Γ1 M1 e1 s1 l1 is q => ?_
  split at q
  · rename_i a
    cases is
    exact ⟨⟨a, rfl⟩, a, rfl, rfl, trivial, k F1 _ H1 _ Γ1 M1 e1 s1 l1 (.bl _) q⟩
  · exact q.elim⟩
theorem pd_upper (ho : PDE X o to wo) (h : PE X e (tM0 (fun x xs H Q => ∃ a, x = .str a ∧ xs = [] ∧ a.length ≤ 5592405 ∧ Q (.str (Txt.upper a)) H) to)) :
    PDE X e (tM0 (fun x xs H Q => ∃ a, x = .str a ∧ xs = [] ∧ a.length ≤ 5592405 ∧ Q (.str (Txt.upper a)) H) to) (wS0 fUpper wo) := ⟨h, fun Γ M Q q F σ H R s l k => by
  refine ho.sd _ _ _ q F σ H _ s l fun F1 v H1 d Γ1 M1 e1 s1 l1 is q => ?_
  split at q
  · rename_i a
    cases is
    exact ⟨⟨a, rfl⟩, a, rfl, rfl, q.1, k F1 _ H1 _ Γ1 M1 e1 s1 l1 (.str _) q.2⟩
  · exact q.elim⟩
theorem pd_join (ho : PDE X o to wo) (he : PDE X e te we) (h : PE X (.Call (.Attribute o "join" apos) [e] [] cpos) (tM1 (fun x xs H Q => ∃ a p, ∃ ys : List Str, x = .str a ∧ xs = [.ref p] ∧ (SqL X.K H p (ys.map V.str) ∨ SqT X.K H p (ys.map V.str)) ∧
    (ys.map (·.length)).sum + ys.length * a.length ≤ 16777216 ∧ Q (.str (Txt.join a ys)) H) to te)) :
    PDE X (.Call (.Attribute o "join" apos) [e] [] cpos) (tM1 (fun x xs H Q => ∃ a p, ∃ ys : List Str, x = .str a ∧ xs = [.ref p] ∧ (SqL X.K H p (ys.map V.str) ∨ SqT X.K H p (ys.map V.str)) ∧
    (ys.map (·.length)).sum + ys.length * a.length ≤ 16777216 ∧ Q (.str (Txt.join a ys)) H) to te) (wJoin wo we) := ⟨h, fun Γ M Q q F σ H R s l k => by
  refine ho.sd _ _ _ q F σ H _ s l fun F1 v H1 d Γ1 M1 e1 s1 l1 is q => ?_
  split at q
  · rename_i a
    cases is
    refine ⟨⟨a, rfl⟩, ?_⟩
    refine he.sd _ _ _ q F1 σ H1 _ s1 l1 fun F2 v2 H2 d2 Γ2 M2 e2 s2 l2 is2 q2 => ?_
    split at q2
    · rename_i ds hds
      obtain ⟨ys, rfl, hz, q2⟩ := q2
      obtain ⟨p, xs, rfl, hq, ia⟩ := seq_is s2 is2 hds
      have e3 := isAll_strs ia
      subst e3
      exact ⟨a, p, ys, rfl, rfl, hq, hz, k F2 _ H2 _ Γ2 M2 (e1.trans e2) s2 l2 (.str _) q2⟩
    · exact q2.elim
  · exact q.elim⟩
/-! dicts -/
def getKD (es : List (Key × D)) (k : Key) : Option D := (es.find? fun kv => decide (kv.1 = k)).map (·.2)
def keyD : D → Option Key
  | .int i => some (.inl i)
  | .str x => some (.inr x)
  | _ => none
theorem key_is {K : W.Frag} {F : Hp} {v : V} {d : D} {k : Key} (h : Is K F v d) (e : keyD d = some k) : v = kV k := by
  cases d <;> first | (cases e; cases h; rfl) | cases e
theorem isKs_get {K : W.Frag} {F : Hp} {k : Key} : ∀ {kvs : List (Key × V)} {es : List (Key × D)}, IsKs K F kvs es → (getKD es k = none → valV kvs k = none) ∧ ∀ d, getKD es k = some d → ∃ v, valV kvs k = some v ∧ Is K F v d
  | _, _, .nil => ⟨fun _ => rfl, fun _ e => nomatch e⟩
  | _, _, .cons (n := n) h r => by
    obtain ⟨i1, i2⟩ := isKs_get (k := k) r
    unfold getKD valV at *
    by_cases e : n = k
    · simp only [List.find?_cons, e, decide_true, Option.map_some]
      exact ⟨fun z => (nomatch z), fun d z => by cases z; exact ⟨_, rfl, h⟩⟩
    · simp only [List.find?_cons, e, decide_false]
      exact ⟨i1, i2⟩
/-- what is read as a dict -/
def dctD (M : Mem) : D → Option (List (Key × D))
  | .dct es => some es
  | .ptr a => match M a with
    | some (.dct es) => some es
    | _ => none
  | _ => none
theorem dct_is {K : W.Frag} {F H : Hp} {M : Mem} {v : V} {d : D} {es : List (Key × D)} (s : Sat K F M H) (h : Is K F v d) (q : dctD M d = some es) : ∃ p kvs, v = .ref p ∧ H p = some (.dK kvs) ∧ IsKs K F kvs es := by
  cases d with
  | dct es => cases q; cases h with | dct h1 h2 => exact ⟨_, _, rfl, s.sub _ _ h1, h2⟩
  | ptr a =>
    cases h
    have q' : (match M a with
      | some (.dct es) => some es
      | _ => none) = some es := q
    split at q'
    · rename_i es z
      cases q'
      obtain ⟨_, xs, ho, ia⟩ := s.cell a _ z
      exact ⟨a, xs, rfl, ho, ia⟩
    · cases q'
  | _ => cases q
def wGet2 (wd wk wx : WE) : WE := fun Γ M Q => wd Γ M fun d Γ1 M1 => (∃ es, dctD M1 d = some es) ∧ wk Γ1 M1 fun y Γ2 M2 => wx Γ2 M2 fun z Γ3 M3 => match dctD M3 d with
  | some es => match keyD y with
    | some k => Q ((getKD es k).getD z) Γ3 M3
    | none => False
  | none => False
theorem pd_get2 {f : Expr} {tx : TE} {wx : WE} (hu : X.A.units + 1 < cLine) (ho : PDE X o to wo) (he : PDE X e te we) (hf : PDE X f tx wx) (m : M2 X o "get" apos e f cpos) : PDE X (.Call (.Attribute o "get" apos) [e, f] [] cpos) (tDGet2 to te tx) (wGet2 wo we wx) := ⟨pe_dget2 hu ho.pe he.pe hf.pe m, fun Γ M Q q F σ H R s l k => by
  refine ho.sd _ _ _ q F σ H _ s l fun F1 v H1 d Γ1 M1 e1 s1 l1 is1 q => ?_
  obtain ⟨⟨es0, h0⟩, q⟩ := q
  obtain ⟨p, kvs0, rfl, hp0, _⟩ := dct_is s1 is1 h0
  refine ⟨p, rfl, .inl ⟨_, .inl hp0⟩, ?_⟩
  refine he.sd _ _ _ q F1 σ H1 _ s1 l1 fun F2 v2 H2 y Γ2 M2 e2 s2 l2 is2 q2 => ?_
  refine hf.sd _ _ _ q2 F2 σ H2 _ s2 l2 fun F3 v3 H3 z Γ3 M3 e3 s3 l3 is3 q3 => ?_
  split at q3
  · rename_i es hes
    split at q3
    · rename_i kk hk
      obtain ⟨p', kvs, ep, hp, ik⟩ := dct_is s3 ((is1.mono e2).mono e3) hes
      cases ep
      have ek := key_is is2 hk
      subst ek
      obtain ⟨g1, g2⟩ := isKs_get (k := kk) ik
      refine ⟨valV kvs kk, DGet.k hp, ?_⟩
      cases hg : getKD es kk with
      | none =>
        rw [hg] at q3
        rw [g1 hg]
        exact k F3 _ H3 _ Γ3 M3 ((e1.trans e2).trans e3) s3 l3 is3 q3
      | some dv =>
        rw [hg] at q3
        obtain ⟨v, hv, iv⟩ := g2 dv hg
        rw [hv]
        exact k F3 _ H3 _ Γ3 M3 ((e1.trans e2).trans e3) s3 l3 iv q3
    · exact q3.elim
  · exact q3.elim⟩
end
end D2

set_option maxRecDepth 100000
set_option maxHeartbeats 400000
namespace D2
open PySem PySem.Spec PyProof.Rows L2

/-! ### objects -/
/-- an instance: its class and its attributes -/
def objD (M : Mem) : D → Option (Addr × List (Str × D))
  | .obj C fs => some (C, fs)
  | .ptr a => match M a with
    | some (.ins C fs) => some (C, fs)
    | _ => none
  | _ => none
theorem obj_is {K : W.Frag} {F H : Hp} {M : Mem} {v : V} {d : D} {C : Addr} {gs : List (Str × D)} (s : Sat K F M H) (h : Is K F v d) (q : objD M d = some (C, gs)) : ∃ a dx fs, v = .ref a ∧ H a = some (.ins C dx fs) ∧ IsFs K F fs gs := by
  cases d with
  | obj C es => cases q; cases h with | obj h1 h2 => exact ⟨_, _, _, rfl, s.sub _ _ h1, h2⟩
  | ptr a =>
    cases h
    have q' : (match M a with
      | some (.ins C fs) => some (C, fs)
      | _ => none) = some (C, gs) := q
    split at q'
    · rename_i es z
      cases q'
      obtain ⟨_, dx, xs, ho, ia⟩ := s.cell a _ z
      exact ⟨a, dx, xs, rfl, ho, ia⟩
    · cases q'
  | _ => cases q
theorem isFs_none {K : W.Frag} {F : Hp} {f : Str} : ∀ {fs : List (Str × V)} {gs : List (Str × D)}, IsFs K F fs gs → gs.lookup f = none → fs.lookup f = none
  | _, _, .nil, _ => rfl
  | _, _, .cons (n := n) h r, e => by
    by_cases q : (f == n) = true
    · simp [List.lookup_cons, q] at e
    · have q' : (f == n) = false := by simpa using q
      simp only [List.lookup_cons, q'] at e ⊢
      exact isFs_none r e
theorem isFs_length {K : W.Frag} {F : Hp} : ∀ {fs : List (Str × V)} {gs : List (Str × D)}, IsFs K F fs gs → fs.length = gs.length
  | _, _, .nil => rfl
  | _, _, .cons h r => congrArg (· + 1) (isFs_length r)
def putFD (f : Str) (v : D) : List (Str × D) → List (Str × D)
  | [] => [(f, v)]
  | (g, x) :: r => if g = f then (g, v) :: r else (g, x) :: putFD f v r
theorem isFs_put {K : W.Frag} {F : Hp} {f : Str} {v : V} {d : D} (h : Is K F v d) : ∀ {fs : List (Str × V)} {gs : List (Str × D)}, IsFs K F fs gs → IsFs K F (putF f v fs) (putFD f d gs)
  | _, _, .nil => .cons h .nil
  | _, _, .cons (n := n) g r => by
    unfold putF putFD
    by_cases e : n = f
    · rw [if_pos e, if_pos e]; exact .cons h r
    · rw [if_neg e, if_neg e]; exact .cons g (isFs_put h r)
/-- what an own class has -/
structure ClD (K : W.Frag) (C : Addr) : Prop where
  cl : Cls K C
  ob : ObC K C
def wFld (K : W.Frag) (f : Str) (wo : WE) : WE := fun Γ M Q => wo Γ M fun x Γ1 M1 => match objD M1 x with
  | some (C, gs) => ClD K C ∧ NoAttr K C f ∧ match gs.lookup f with
    | some d => Q d Γ1 M1
    | none => False
  | none => False
def wSetF (K : W.Frag) (f : Str) (wo wv : WE) : WS := fun Γ M P => wv Γ M fun d Γ1 M1 => wo Γ1 M1 fun x Γ2 M2 => match x with
  | .ptr a => match M2 a with
    | some (.ins C gs) => ClD K C ∧ NoAttr K C f ∧ gs.length < 1000 ∧ P.nx Γ2 (M2.put a (.ins C (putFD f d gs)))
    | _ => False
  | _ => False
def wMeth (C : Addr) (m : Str) (S : SpD) (wo : WE) (wa : WA) : WE := fun Γ M Q => wo Γ M fun x Γ1 M1 => (∃ gs, objD M1 x = some (C, gs) ∧ gs.lookup m = none) ∧ wa Γ1 M1 fun ds Γ2 M2 => S (x :: ds) M2 fun d M3 => Q d Γ2 M3
def wMethD (C : Addr) (m : Str) (S : SpD) (dd : List D) (wo : WE) (wa : WA) : WE := fun Γ M Q => wo Γ M fun x Γ1 M1 => (∃ gs, objD M1 x = some (C, gs) ∧ gs.lookup m = none) ∧ wa Γ1 M1 fun ds Γ2 M2 => S (x :: (ds ++ dd)) M2 fun d M3 => Q d Γ2 M3
def wProp (C : Addr) (S : SpD) (wo : WE) : WE := fun Γ M Q => wo Γ M fun x Γ1 M1 => (∃ gs, objD M1 x = some (C, gs)) ∧ S [x] M1 fun d M2 => Q d Γ1 M2
/-- C(..): made, its __init__ called; then it is frozen, or stays a cell -/
def wMake (C : Addr) (S : SpD) (dd : List D) (wa : WA) : WE := fun Γ M Q => wa Γ M fun ds Γ1 M1 => ∀ p, M1 p = none → S (.ptr p :: (ds ++ dd)) (M1.put p (.ins C [])) fun d M2 => d = .non ∧
  ((∃ (gs : List (Str × D)) (M3 : Mem), M3 p = none ∧ M2 = M3.put p (.ins C gs) ∧ Q (.obj C gs) Γ1 M3) ∨ Q (.ptr p) Γ1 M2)
section
variable {X : Cx} {o e : Expr} {es : List Expr} {to te : TE} {wo we : WE} {t : TA} {wa : WA} {f m x : Str} {C : Addr} {S : SpD} {k : Nat} {pos apos p : Pos}
theorem pd_fld (he : PDE X o to wo) (hb : attributeBase o f X.env (eval o X.env) = eval o X.env := by rfl) : PDE X (.Attribute o f pos) (tFld X.K to f) (wFld X.K f wo) := ⟨pe_fld he.pe hb, fun Γ M Q q F σ H R s l k => by
  refine he.sd _ _ _ q F σ H _ s l fun F1 v H1 d Γ1 M1 e1 s1 l1 is q => ?_
  split at q
  · rename_i C gs eo
    obtain ⟨c, n, q⟩ := q
    split at q
    · rename_i d' el
      obtain ⟨a, dx, fs, rfl, ha, ifs⟩ := obj_is s1 is eo
      obtain ⟨v, hv, iv⟩ := isFs_get ifs el
      exact ⟨a, C, dx, fs, v, rfl, ha, c.cl, n, hv, k F1 v H1 d' Γ1 M1 e1 s1 l1 iv q⟩
    · exact q.elim
  · exact q.elim⟩
theorem pds_setF {pos' : Pos} (ho : PDE X o to wo) (hv : PDE X e te we) (hs : swapsWith e (some (.Attribute o f pos')) pos.line X.env = pure false := by rfl) : PDS X (.Assign [.Attribute o f pos'] e pos) (sFld X.K to te f) (wSetF X.K f wo we) := ⟨ps_fld ho.pe hv.pe hs, fun Γ M P q F σ H D s l k => by
  refine hv.sd _ _ _ q F σ H _ s l fun F1 v H1 d Γ1 M1 e1 s1 l1 is q => ?_
  refine ho.sd _ _ _ q F1 σ H1 _ s1 l1 fun F2 v2 H2 x Γ2 M2 e2 s2 l2 is2 q => ?_
  split at q
  · rename_i a
    split at q
    · rename_i C gs hm
      obtain ⟨c, n, hl, q⟩ := q
      cases is2
      obtain ⟨_, dx, fs, hx, ifs⟩ := s2.cell a _ hm
      refine ⟨a, C, dx, fs, rfl, hx, c.cl, n, by rw [isFs_length ifs]; exact hl, ?_⟩
      exact k.nx F2 σ _ Γ2 _ (e1.trans e2) (s2.put (m' := .ins C (putFD f d gs)) hm ⟨dx, _, upd_same, isFs_put (is.mono e2) ifs⟩) l2 q
    · exact q.elim
  · exact q.elim⟩
/-- a method -/
def MtAt (P : Program) (w : World) (K : W.Frag) (mg : Str → Option Value) (base : Heap) (k : Nat) (C : Addr) (m : Str) (S : SpD) : Prop :=
  ∃ f fd ps, FnOk P w K mg base CX0 k f fd ps (spT K S) ∧ Cls K C ∧ Meth K C m f ∧ Binds K fd ps []
theorem meth_sd {K : W.Frag} {Γ : Ga} {M : Mem} {Q : KE} {ta : TE} {E : XK} (sa : ∀ Γ M Q, wo Γ M Q → DE K ta Γ M Q) (sb : ∀ Γ M Q, wa Γ M Q → DA K t Γ M Q) (q : wMeth C m S wo wa Γ M Q) : DE K (tMeth C m (spT K S) [] E ta t) Γ M Q := fun F σ H R s l k => by
  refine sa _ _ _ q F σ H _ s l fun F1 v H1 x Γ1 M1 e1 s1 l1 is q => ?_
  obtain ⟨⟨gs, eo, ln⟩, q⟩ := q
  obtain ⟨a, dx, fs, rfl, ha, ifs⟩ := obj_is s1 is eo
  refine ⟨a, dx, fs, rfl, ha, isFs_none ifs ln, ?_⟩
  refine sb _ _ _ q F1 σ H1 _ s1 l1 fun F2 vs H2 ds Γ2 M2 e2 s2 l2 ix q => ?_
  rw [List.append_nil]
  exact ⟨F2, M2, x :: ds, _, s2, .cons (is.mono e2) ix, q, fun F' v H' d M' e s' i' hp => k F' v H' d Γ2 M' ((e1.trans e2).trans e) s' (l2.mono e) i' hp⟩
theorem pd_meth {pl : Sem Bool} (G : MtAt X.prog X.w X.K X.mg X.base k C m S) (hr : Room k X.A) (ho : PDE X o to wo) (ha : PDA X (e :: es) t wa)
    (hst : starEach (e :: es) X.env = (false, eval e X.env) :: starEach es X.env := by rfl) (hpl : (backTo pos (starEach es X.env)).any (·.1) = false := by rfl)
    (ht : eval (.Call (.Attribute o m apos) (e :: es) [] pos) X.env = (do
      let ov ← eval o X.env
      standAt apos.atName
      let (f, first) ← holding [ov] (getMethod ov m pl)
      callWith pos f first (backTo pos (starEach (e :: es) X.env)) (backToKw pos (keywordEach [] X.env))) := by rfl) : PDE X (.Call (.Attribute o m apos) (e :: es) [] pos) (tMeth C m (spT X.K S) [] E0 to t) (wMeth C m S wo wa) := by
  obtain ⟨f, fd, ps, F, c, hm, hb⟩ := G
  exact ⟨pe_meth ho.pe c hm F hr hb .nil pass0 ha.pa hst hpl ht, fun Γ M Q q => meth_sd ho.sd ha.sd q⟩
theorem pd_meth0 {pl : Sem Bool} (G : MtAt X.prog X.w X.K X.mg X.base k C m S) (hr : Room k X.A) (ho : PDE X o to wo)
    (ht : eval (.Call (.Attribute o m apos) [] [] pos) X.env = (do
      let ov ← eval o X.env
      standAt apos.atName
      let (f, first) ← holding [ov] (getMethod ov m pl)
      callWith pos f first (backTo pos (starEach [] X.env)) (backToKw pos (keywordEach [] X.env))) := by rfl) : PDE X (.Call (.Attribute o m apos) [] [] pos) (tMeth C m (spT X.K S) [] E0 to tNil) (wMeth C m S wo wNil) := by
  obtain ⟨f, fd, ps, F, c, hm, hb⟩ := G
  exact ⟨pe_meth0 ho.pe c hm F hr hb .nil pass0 ht, fun Γ M Q q => meth_sd ho.sd (fun Γ M Q h => da_nil h) q⟩
/-- a property -/
def PrAt (P : Program) (w : World) (K : W.Frag) (mg : Str → Option Value) (base : Heap) (k : Nat) (C : Addr) (m : Str) (S : SpD) : Prop :=
  ∃ p f fd ps, FnOk P w K mg base CX0 k f fd ps (spT K S) ∧ Cls K C ∧ PropOf K C m p f ∧ Binds K fd ps []
theorem pd_prop (G : PrAt X.prog X.w X.K X.mg X.base k C f S) (hr : Room (k + 1) X.A) (ho : PDE X o to wo) (hab : attributeBase o f X.env (eval o X.env) = eval o X.env := by rfl) : PDE X (.Attribute o f pos) (tProp C (spT X.K S) [] E0 to) (wProp C S wo) := by
  obtain ⟨p, g, fd, ps, F, c, hm, hb⟩ := G
  refine ⟨pe_prop ho.pe c hm F hr hb .nil pass0 hab, fun Γ M Q q F σ H R s l k => ?_⟩
  refine ho.sd _ _ _ q F σ H _ s l fun F1 v H1 x Γ1 M1 e1 s1 l1 is q => ?_
  obtain ⟨⟨gs, eo⟩, q⟩ := q
  obtain ⟨a, dx, fs, rfl, ha, ifs⟩ := obj_is s1 is eo
  refine ⟨a, dx, fs, rfl, ha, ?_⟩
  exact ⟨F1, M1, [x], _, s1, .cons is .nil, q, fun F' v H' d M' e s' i' hp => k F' v H' d Γ1 M' (e1.trans e) s' (l1.mono e) i' hp⟩
/-- a class that is made -/
def MkAt (P : Program) (w : World) (K : W.Frag) (mg : Str → Option Value) (base : Heap) (k : Nat) (x : Str) (C : Addr) (S : SpD) (dvs : List V) : Prop :=
  ∃ f fd ps ds, FnOk P w K mg base CX0 k f fd ps (spT K S) ∧ Mk K C f ∧ mg x = some (.ref C) ∧ Binds K fd ps ds ∧ Vals dvs ds
theorem make_sd {K : W.Frag} {Γ : Ga} {M : Mem} {Q : KE} {dvs : List V} {dd : List D} {E : XK} (hd : ∀ F, IsAll K F dvs dd) (sb : ∀ Γ M Q, wa Γ M Q → DA K t Γ M Q) (q : wMake C S dd wa Γ M Q) : DE K (tMake C (spT K S) dvs E t) Γ M Q := fun F σ H R s l k => by
  refine sb _ _ _ q F σ H _ s l fun F1 vs H1 ds Γ1 M1 e1 s1 l1 ix q => ?_
  intro x dx nx ndx ne
  have hM := (s1.none_of nx).2
  have hF := (s1.none_of nx).1
  have hFd := (s1.none_of ndx).1
  have hMd := (s1.none_of ndx).2
  have s2 : Sat K F1 M1 (upd H1 dx (.own x)) := s1.laid (o := .own x) ndx |> fun z => ⟨fun b u e => by rw [upd_ne (ne_of_none e hFd)]; exact s1.sub b u e, fun a m e => by
    obtain ⟨h1, h2⟩ := s1.cell a m e
    have ne' : a ≠ dx := fun z => by rw [z, hMd] at e; cases e
    exact ⟨h1, h2.mono (Same.refl _) (upd_ne ne')⟩⟩
  have nx2 : upd H1 dx (.own x) x = none := by rw [upd_ne ne.symm]; exact nx
  have s3 : Sat K F1 (M1.put x (.ins C [])) (upd (upd H1 dx (.own x)) x (.ins C dx [])) := s2.newCell nx2 ⟨dx, [], upd_same, .nil⟩
  refine ⟨F1, M1.put x (.ins C []), .ptr x :: (ds ++ dd), _, s3, .cons (.ptr x) (ix.append (hd F1)), q x hM, fun F' v H' d M' e s' i' hp => ?_⟩
  obtain ⟨rfl, hp⟩ := hp
  cases i'
  refine ⟨rfl, ?_⟩
  rcases hp with ⟨gs, M3, hM3, rfl, hq⟩ | hq
  · obtain ⟨hn, dx', fs, ho, ifs⟩ := s'.cell x _ Mem.put_same
    have sm : Same F' (upd F' x (.ins C dx' fs)) := same_upd hn
    have z := s'.freeze ho hn
    rw [Mem.put_del hM3] at z
    exact k _ (.ref x) H' (.obj C gs) Γ1 M3 ((e1.trans e).trans sm) z ((l1.mono e).mono sm) (.obj upd_same (ifs.mono sm)) hq
  · exact k F' (.ref x) H' (.ptr x) Γ1 M' (e1.trans e) s' (l1.mono e) (.ptr x) hq
theorem pd_make {dvs : List V} {dd : List D} (G : MkAt X.prog X.w X.K X.mg X.base k x C S dvs) (hd : ∀ F, IsAll X.K F dvs dd) (hr : Room (k + 1) X.A) (hg : Gl X x) (ha : PDA X (e :: es) t wa)
    (hdb : (x == ("__debug__" : Str)) = false := by decide) (he : starEach (e :: es) X.env = (false, eval e X.env) :: starEach es X.env := by rfl) (hpl : (backTo pos (starEach es X.env)).any (·.1) = false := by rfl) :
    PDE X (.Call (.Name x p) (e :: es) [] pos) (tMake C (spT X.K S) dvs E0 t) (wMake C S dd wa) := by
  obtain ⟨f, fd, ps, ds, F, mk, hm, hb, hv⟩ := G
  exact ⟨pe_make mk F hr hg hm hb hv pass0 ha.pa hdb he hpl, fun Γ M Q q => make_sd hd ha.sd q⟩
theorem pd_make0 {dvs : List V} {dd : List D} (G : MkAt X.prog X.w X.K X.mg X.base k x C S dvs) (hd : ∀ F, IsAll X.K F dvs dd) (hr : Room (k + 1) X.A) (hg : Gl X x) (hdb : (x == ("__debug__" : Str)) = false := by decide) :
    PDE X (.Call (.Name x p) [] [] pos) (tMake C (spT X.K S) dvs E0 tNil) (wMake C S dd wNil) := by
  obtain ⟨f, fd, ps, ds, F, mk, hm, hb, hv⟩ := G
  exact ⟨pe_make0 mk F hr hg hm hb hv pass0 hdb, fun Γ M Q q => make_sd hd (fun Γ M Q h => da_nil h) q⟩
end

/-! ### f-strings -/
def fmtQ (d : D) (k : Str → Prop) : Prop := match d with
  | .str y => y.length ≤ sizeLine ∧ k y
  | .int i => i.natAbs.log2 < 1920 ∧ k (toString i)
  | _ => False
def wFmt (wa : WE) : WE := fun Γ M Q => wa Γ M fun d Γ1 M1 => fmtQ d fun y => Q (.str y) Γ1 M1
def wJs : List WE → Str → Ga → Mem → KE → Prop
  | [], acc, Γ, M, Q => Q (.str acc) Γ M
  | a :: as, acc, Γ, M, Q => a Γ M fun d Γ1 M1 => match d with
    | .str y => (acc ++ y).length ≤ sizeLine ∧ wJs as (acc ++ y) Γ1 M1 Q
    | _ => False
def wJoined (ws : List WE) : WE := fun Γ M Q => wJs ws Str.empty Γ M Q
section
variable {X : Cx} {e : Expr} {te : TE} {we : WE} {pos : Pos}
theorem pd_fmt (he : PDE X e te we) : PDE X (.FormattedValue e (-1) none pos) (tFmt te) (wFmt we) := ⟨pe_fmt he.pe, fun Γ M Q q F σ H R s l k => by
  refine he.sd _ _ _ q F σ H _ s l fun F1 v H1 d Γ1 M1 e1 s1 l1 is q => ?_
  cases d with
  | str y => cases is; exact .inl ⟨y, rfl, q.1, k F1 _ H1 _ Γ1 M1 e1 s1 l1 (.str _) q.2⟩
  | int i => cases is; exact .inr ⟨i, rfl, q.1, k F1 _ H1 _ Γ1 M1 e1 s1 l1 (.str _) q.2⟩
  | _ => exact q.elim⟩
inductive PDJ (X : Cx) : List Expr → List TE → List WE → Prop where
  | nil : PDJ X [] [] []
  | cons {e : Expr} {t : TE} {w : WE} {es : List Expr} {ts : List TE} {ws : List WE} (h : PDE X e t w) (r : PDJ X es ts ws) : PDJ X (e :: es) (t :: ts) (w :: ws)
theorem PDJ.pj {es : List Expr} {ts : List TE} {ws : List WE} (h : PDJ X es ts ws) : PJ X es ts := by
  induction h with
  | nil => exact .nil
  | cons h r ih => exact .cons h.pe ih
theorem js_sd {K : W.Frag} {Q : KE} {es : List Expr} {ts : List TE} {ws : List WE} (h : PDJ X es ts ws) : ∀ (acc : Str) (Γ : Ga) (M : Mem), wJs ws acc Γ M Q → ∀ (F : Hp) (σ : L2.St) (H : Hp) (R : VK), Sat X.K F M H → Loc X.K F σ Γ →
    (∀ F' v H' d Γ' M', Same F F' → Sat X.K F' M' H' → Loc X.K F' σ Γ' → Is X.K F' v d → Q d Γ' M' → R v H') → tJs ts acc σ H fun out H1 => R (.str out) H1 := by
  induction h with
  | nil => exact fun acc Γ M q F σ H R s l k => k F _ H _ Γ M (Same.refl F) s l (.str _) q
  | @cons e t w es ts ws h r ih =>
    intro acc Γ M q F σ H R s l k
    refine h.sd _ _ _ q F σ H _ s l fun F1 v H1 d Γ1 M1 e1 s1 l1 is q => ?_
    cases d with
    | str y =>
      cases is
      exact ⟨y, rfl, q.1, ih _ _ _ q.2 F1 σ H1 R s1 l1 fun F' v H' d Γ' M' e' s' l' i' q' => k F' v H' d Γ' M' (e1.trans e') s' l' i' q'⟩
    | _ => exact q.elim
theorem pd_joined {v1 v2 : Expr} {rest : List Expr} {ts : List TE} {ws : List WE} (h : PDJ X (v1 :: v2 :: rest) ts ws) : PDE X (.JoinedStr (v1 :: v2 :: rest) pos) (fun σ H Q => tJs ts Str.empty σ H fun out H1 => Q (.str out) H1) (wJoined ws) := ⟨pe_joined h.pj, fun Γ M Q q F σ H R s l k => js_sd (K := X.K) h _ _ _ q F σ H R s l k⟩
theorem pd_joined1 (h : PDE X e te we) : PDE X (.JoinedStr [e] pos) te we := ⟨pe_joined1 h.pe, h.sd⟩
end
end D2

set_option maxRecDepth 100000
set_option maxHeartbeats 400000
namespace D2
open PySem PySem.Spec PyProof.Rows L2
abbrev rdAln (to : TE) : TE := tM0 (fun x xs H Q => ∃ a, x = .str a ∧ xs = [] ∧ True ∧ Q (.bl (Txt.isalnum a)) H) to
abbrev rdJn (K : W.Frag) (to te : TE) : TE := tM1 (fun x xs H Q => ∃ a p, ∃ ys : List Str, x = .str a ∧ xs = [.ref p] ∧ (SqL K H p (ys.map V.str) ∨ SqT K H p (ys.map V.str)) ∧
    (ys.map (·.length)).sum + ys.length * a.length ≤ 16777216 ∧ Q (.str (Txt.join a ys)) H) to te
section
variable {X : Cx} {tg e a b o : Expr} {es : List Expr} {te ta to : TE} {we wa wo : WE} {t : TA} {w : WA} {p pos apos cpos : Pos}
theorem pi_l (h : PDE X e te we) : PDI X tg e (iList X.K te) (wIt lsQ we) := pdi_list h (pi_list h.pe)
theorem pi_t (h : PDE X e te we) : PDI X tg e (iTup X.K te) (wIt tpQ we) := pdi_tup h (pi_tup h.pe)
theorem pi_s (h : PDE X e te we) : PDI X tg e (iStr te) (wIt stQ we) := pdi_str h (pi_str h.pe)
theorem pi_r1 (hg : Gl X "range") (hm : X.mg "range" = none) (h : PDA X [a] t w) (hs : starEach [a] X.env = [(false, eval a X.env)] := by rfl) : PDI X tg (.Call (.Name "range" p) [a] [] pos) (iRng1 t) (wRg1 w) := pdi_rg1 h (pi_range1 hg hm h.pa hs)
theorem pi_r2 (hg : Gl X "range") (hm : X.mg "range" = none) (h : PDA X [a, b] t w) (hs : starEach [a, b] X.env = [(false, eval a X.env), (false, eval b X.env)] := by rfl) (hs2 : starEach [b] X.env = [(false, eval b X.env)] := by rfl) : PDI X tg (.Call (.Name "range" p) [a, b] [] pos) (iRng2 t) (wRg2 w) := pdi_rg2 h (pi_range2 hg hm h.pa hs hs2)
theorem pi_en {tpos : Pos} {elts : List Expr} {kk : Nat} (hg : Gl X "enumerate") (hm : X.mg "enumerate" = none) (h : PDA X [e] t w) (hs : starEach [e] X.env = [(false, eval e X.env)] := by rfl) : PDI X (.Tuple elts kk tpos) (.Call (.Name "enumerate" p) [e] [] pos) (iEnum X.K t) (wEnum w) := pdi_enum h (pi_enum hg hm h.pa hs)
theorem pd_app (ho : PDE X o to wo) (he : PDE X e te we) (hbase : attributeBase o "append" X.env (eval o X.env) = eval o X.env := by rfl)
    (hfew : ((backTo cpos (starEach (e :: []) X.env)).all (fun x => !x.1) && (backToKw cpos (keywordEach [] X.env)).all (fun x => x.1.isSome)
      && decide ((e :: ([] : List Expr)).length + ([] : List Keyword).length + (if ([] : List Keyword).isEmpty then 0 else 1) < 30)) = true := by rfl)
    (hline : (apos.endLine == cpos.line) = true := by rfl) (hs : starEach (e :: []) X.env = (false, eval e X.env) :: starEach [] X.env := by rfl) (hplain : (backTo cpos (starEach [] X.env)).any (·.1) = false := by rfl) :
    PDE X (.Call (.Attribute o "append" apos) [e] [] cpos) (tBM X.K "list" rAppend to (tCons te tNil)) (wAppend wo we) := pd_append ho he (pe_bm PySem.F.plainAttrs_list PySem.F.slot_list_append PySem.F.type_list_append mt_append ho.pe (pa_cons he.pe pa_nil hs) hbase hfew hline hs hplain)
theorem pd_ext (ho : PDE X o to wo) (he : PDE X e te we) (hbase : attributeBase o "extend" X.env (eval o X.env) = eval o X.env := by rfl)
    (hfew : ((backTo cpos (starEach (e :: []) X.env)).all (fun x => !x.1) && (backToKw cpos (keywordEach [] X.env)).all (fun x => x.1.isSome)
      && decide ((e :: ([] : List Expr)).length + ([] : List Keyword).length + (if ([] : List Keyword).isEmpty then 0 else 1) < 30)) = true := by rfl)
    (hline : (apos.endLine == cpos.line) = true := by rfl) (hs : starEach (e :: []) X.env = (false, eval e X.env) :: starEach [] X.env := by rfl) (hplain : (backTo cpos (starEach [] X.env)).any (·.1) = false := by rfl) :
    PDE X (.Call (.Attribute o "extend" apos) [e] [] cpos) (tBM X.K "list" rExtend to (tCons te tNil)) (wExtend wo we) := pd_extend ho he (pe_bm PySem.F.plainAttrs_list PySem.F.slot_list_extend PySem.F.type_list_extend mt_extend ho.pe (pa_cons he.pe pa_nil hs) hbase hfew hline hs hplain)
theorem pd_pp (ho : PDE X o to wo) (hbase : attributeBase o "pop" X.env (eval o X.env) = eval o X.env := by rfl) (hline : (apos.endLine == cpos.line) = true := by rfl) : PDE X (.Call (.Attribute o "pop" apos) [] [] cpos) (tBM0 X.K "list" rPop to) (wPop wo) :=
  pd_pop ho (pe_bm0 PySem.F.plainAttrs_list PySem.F.slot_list_pop PySem.F.type_list_pop mt_pop ho.pe hbase hline)
theorem pd_aln (ho : PDE X o to wo) (hbase : attributeBase o "isalnum" X.env (eval o X.env) = eval o X.env := by rfl) (hline : (apos.endLine == cpos.line) = true := by rfl) : PDE X (.Call (.Attribute o "isalnum" apos) [] [] cpos) (rdAln to) (wS0 fAlnum wo) :=
  pd_alnum ho (pe_m0 PySem.F.slot_str_isalnum PySem.F.type_str_isalnum mt_isalnum ho.pe hbase hline)
theorem pd_jn (ho : PDE X o to wo) (he : PDE X e te we) (hs : starEach [e] X.env = [(false, eval e X.env)] := by rfl) (hbase : attributeBase o "join" X.env (eval o X.env) = eval o X.env := by rfl) (hline : (apos.endLine == cpos.line) = true := by rfl) :
    PDE X (.Call (.Attribute o "join" apos) [e] [] cpos) (rdJn X.K to te) (wJoin wo we) := pd_join ho he (pe_join ho.pe he.pe hs hbase hline)
theorem pd_gt2 {f : Expr} {tx : TE} {wx : WE} (hu : X.A.units + 1 < cLine) (ho : PDE X o to wo) (he : PDE X e te we) (hf : PDE X f tx wx) (h1 : attributeBase o "get" X.env (eval o X.env) = eval o X.env := by rfl)
    (h2 : ((backTo cpos (starEach [e, f] X.env)).all (fun x => !x.1) && (backToKw cpos (keywordEach [] X.env)).all (fun x => x.1.isSome)
    && decide (([e, f] : List Expr).length + ([] : List Keyword).length + (if ([] : List Keyword).isEmpty then 0 else 1) < 30)) = true := by rfl) (h3 : (apos.endLine == cpos.line) = true := by rfl) (h4 : backTo cpos (starEach [e, f] X.env) = [(false, eval e X.env), (false, eval f X.env)] := by rfl) :
    PDE X (.Call (.Attribute o "get" apos) [e, f] [] cpos) (tDGet2 to te tx) (wGet2 wo we wx) := pd_get2 hu ho he hf ⟨h1, h2, h3, h4⟩
theorem pd_par {i j : Nat} {x y : Str} {ta : TA} {wa : WA} {px py pt : Pos} {kt k2 : Nat} {pt2 : Pos} (hc : X.calm = true) (hN : X.N.Nodup) (hi : X.N[i]? = some x) (hj : X.N[j]? = some y) (hij : i ≠ j)
    (lx : X.env.scope.names.lookup x = some .local) (ly : X.env.scope.names.lookup y = some .local) (h : PDA X [a, b] ta wa) (hw : swappedStores [.Tuple [.Name x px, .Name y py] kt pt] (.Tuple [a, b] k2 pt2) X.env = pure (some [x, y]))
    (hs : swapsWithSole [.Tuple [.Name x px, .Name y py] kt pt] (.Tuple [a, b] k2 pt2) pos.line X.env = pure false := by rfl) : PDS X (.Assign [.Tuple [.Name x px, .Name y py] kt pt] (.Tuple [a, b] k2 pt2) pos) (tPar i j ta) (wPar i j wa) :=
  pds_par hc hN hi hj hij lx ly h (ps_par hc hN hi hj hij lx ly h.pa hw hs)
end
def wPar3 (i j l : Nat) (wa : WA) : WS := fun Γ M P => wa Γ M fun ds Γ1 M1 => match ds with
  | [d, e, f] => P.nx (((Γ1.set i (some d)).set j (some e)).set l (some f)) M1
  | _ => False
end D2

set_option maxRecDepth 100000
set_option maxHeartbeats 400000
namespace D2
open PySem PySem.Spec PyProof.Rows L2
theorem str_len_app (a b : Str) : (a ++ b).length = a.length + b.length := by
  show (a.cps ++ b.cps).size = a.cps.size + b.cps.size
  exact Array.size_append
end D2

set_option maxRecDepth 100000
set_option maxHeartbeats 400000
namespace D2
open PySem PySem.Spec PyProof.Rows L2

/-! ### dicts -/
def putKD (es : List (Key × D)) (k : Key) (d : D) : List (Key × D) := if es.any (fun kv => decide (kv.1 = k)) then es.map (fun kv => if kv.1 = k then (kv.1, d) else kv) else es ++ [(k, d)]
theorem isKs_any {K : W.Frag} {F : Hp} {k : Key} : ∀ {kvs : List (Key × V)} {es : List (Key × D)}, IsKs K F kvs es → (kvs.any fun kv => decide (kv.1 = k)) = (es.any fun kv => decide (kv.1 = k))
  | _, _, .nil => rfl
  | _, _, .cons h r => by rw [List.any_cons, List.any_cons, isKs_any r]
theorem isKs_length {K : W.Frag} {F : Hp} : ∀ {kvs : List (Key × V)} {es : List (Key × D)}, IsKs K F kvs es → kvs.length = es.length
  | _, _, .nil => rfl
  | _, _, .cons h r => congrArg (· + 1) (isKs_length r)
theorem isKs_repl {K : W.Frag} {F : Hp} {k : Key} {v : V} {d : D} (h : Is K F v d) : ∀ {kvs : List (Key × V)} {es : List (Key × D)}, IsKs K F kvs es → IsKs K F (kvs.map (fun kv => if kv.1 = k then (kv.1, v) else kv)) (es.map (fun kv => if kv.1 = k then (kv.1, d) else kv))
  | _, _, .nil => .nil
  | _, _, .cons (n := n) g r => by
    rw [List.map_cons, List.map_cons]
    by_cases e : n = k
    · simp only [e, if_true]; exact .cons h (isKs_repl h r)
    · simp only [e, if_false]; exact .cons g (isKs_repl h r)
theorem isKs_snoc {K : W.Frag} {F : Hp} {k : Key} {v : V} {d : D} (h : Is K F v d) : ∀ {kvs : List (Key × V)} {es : List (Key × D)}, IsKs K F kvs es → IsKs K F (kvs ++ [(k, v)]) (es ++ [(k, d)])
  | _, _, .nil => .cons h .nil
  | _, _, .cons g r => .cons g (isKs_snoc h r)
theorem isKs_put {K : W.Frag} {F : Hp} {k : Key} {v : V} {d : D} {kvs : List (Key × V)} {es : List (Key × D)} (h : Is K F v d) (r : IsKs K F kvs es) : IsKs K F (putK kvs k v) (putKD es k d) := by
  unfold putK putKD
  rw [isKs_any r]
  split
  · exact isKs_repl h r
  · exact isKs_snoc h r
theorem isKs_keys {K : W.Frag} {F : Hp} : ∀ {kvs : List (Key × V)} {es : List (Key × D)}, IsKs K F kvs es → kvs.map (·.1) = es.map (·.1)
  | _, _, .nil => rfl
  | _, _, .cons h r => by rw [List.map_cons, List.map_cons, isKs_keys r]
def dKey : Key → D
  | .inl i => .int i
  | .inr x => .str x
theorem dKey_is {K : W.Frag} {F : Hp} (k : Key) : Is K F (kV k) (dKey k) := by cases k <;> first | exact .int _ | exact .str _
def wDGet (wd wk : WE) : WE := fun Γ M Q => wd Γ M fun d Γ1 M1 => wk Γ1 M1 fun y Γ2 M2 => match dctD M2 d with
  | some es => match keyD y with
    | some k => match getKD es k with
      | some v => Q v Γ2 M2
      | none => False
    | none => False
  | none => False
def wDIn (wk wd : WE) : WE := fun Γ M Q => wk Γ M fun y Γ1 M1 => wd Γ1 M1 fun d Γ2 M2 => match dctD M2 d with
  | some es => match keyD y with
    | some k => Q (.bl (getKD es k).isSome) Γ2 M2
    | none => False
  | none => False
def wDPut (wd wk wv : WE) : WS := fun Γ M P => wv Γ M fun v Γ1 M1 => wd Γ1 M1 fun d Γ2 M2 => wk Γ2 M2 fun y Γ3 M3 => match d with
  | .ptr a => match M3 a with
    | some (.dct es) => match keyD y with
      | some k => es.length < sizeLine ∧ P.nx Γ3 (M3.put a (.dct (putKD es k v)))
      | none => False
    | _ => False
  | _ => False
def wDNew : WE := fun Γ M Q => ∀ p, M p = none → Q (.ptr p) Γ (M.put p (.dct []))
section
variable {X : Cx} {o i e : Expr} {to ti te : TE} {wo wi we : WE} {pos pos' p : Pos}
theorem pd_dget (hu : X.A.units + 1 < cLine) (ho : PDE X o to wo) (hi : PDE X i ti wi) (hs : NoSl i) : PDE X (.Subscript o i pos) (tDGet to ti) (wDGet wo wi) := ⟨pe_dget hu ho.pe hi.pe hs, fun Γ M Q q F σ H R s l k => by
  refine ho.sd _ _ _ q F σ H _ s l fun F1 v H1 d Γ1 M1 e1 s1 l1 is1 q => ?_
  refine hi.sd _ _ _ q F1 σ H1 _ s1 l1 fun F2 v2 H2 y Γ2 M2 e2 s2 l2 is2 q2 => ?_
  split at q2
  · rename_i es hes
    split at q2
    · rename_i kk hk
      split at q2
      · rename_i dv hv
        obtain ⟨a, kvs, rfl, hp, ik⟩ := dct_is s2 (is1.mono e2) hes
        have ek := key_is is2 hk
        subst ek
        obtain ⟨v, hv2, iv⟩ := (isKs_get (k := kk) ik).2 dv hv
        exact ⟨a, v, rfl, by rw [← hv2]; exact DGet.k hp, k F2 v H2 dv Γ2 M2 (e1.trans e2) s2 l2 iv q2⟩
      · exact q2.elim
    · exact q2.elim
  · exact q2.elim⟩
theorem din_sd {K : W.Frag} {Γ : Ga} {M : Mem} {Q : KE} (si : ∀ Γ M Q, wi Γ M Q → DE K ti Γ M Q) (so : ∀ Γ M Q, wo Γ M Q → DE K to Γ M Q) (q : wDIn wi wo Γ M Q) : DE K (tDIn ti to) Γ M Q := fun F σ H R s l k => by
  refine si _ _ _ q F σ H _ s l fun F1 v H1 y Γ1 M1 e1 s1 l1 is1 q => ?_
  refine so _ _ _ q F1 σ H1 _ s1 l1 fun F2 v2 H2 d Γ2 M2 e2 s2 l2 is2 q2 => ?_
  split at q2
  · rename_i es hes
    split at q2
    · rename_i kk hk
      obtain ⟨a, kvs, rfl, hp, ik⟩ := dct_is s2 is2 hes
      have ek := key_is is1 hk
      subst ek
      obtain ⟨g1, g2⟩ := isKs_get (k := kk) ik
      refine ⟨a, valV kvs kk, rfl, DGet.k hp, ?_⟩
      have ee : (valV kvs kk).isSome = (getKD es kk).isSome := by
        cases hg : getKD es kk with
        | none => rw [g1 hg]; rfl
        | some dv => obtain ⟨v, hv, _⟩ := g2 dv hg; rw [hv]; rfl
      rw [ee]
      exact k F2 _ H2 _ Γ2 M2 (e1.trans e2) s2 l2 (.bl _) q2
    · exact q2.elim
  · exact q2.elim
theorem pd_din (hu : X.A.units + 1 < cLine) (hi : PDE X i ti wi) (ho : PDE X o to wo) (h1 : behindInMarks .In o = false := by rfl) : PDE X (.Compare i [.In] [o] pos) (tDIn ti to) (wDIn wi wo) := ⟨pe_cmp (pc_din hu hi.pe ho.pe) h1, fun Γ M Q q => din_sd hi.sd ho.sd q⟩
theorem pds_dput (hu : X.A.units + 1 < cLine) (ho : PDE X o to wo) (hi : PDE X i ti wi) (hv : PDE X e te we) (hs : swapsWith e (some (.Subscript o i pos')) pos.line X.env = pure false := by rfl)
    (hb : PS X (.Assign [.Subscript o i pos'] e pos) (sDPut to ti te)) : PDS X (.Assign [.Subscript o i pos'] e pos) (sDPut to ti te) (wDPut wo wi we) := ⟨hb, fun Γ M P q F σ H D s l k => by
  refine hv.sd _ _ _ q F σ H _ s l fun F1 v H1 d Γ1 M1 e1 s1 l1 is1 q => ?_
  refine ho.sd _ _ _ q F1 σ H1 _ s1 l1 fun F2 v2 H2 d2 Γ2 M2 e2 s2 l2 is2 q => ?_
  refine hi.sd _ _ _ q F2 σ H2 _ s2 l2 fun F3 v3 H3 y Γ3 M3 e3 s3 l3 is3 q => ?_
  cases d2 with
  | ptr ad =>
    have q' : (match M3 ad with
      | some (.dct es) => match keyD y with
        | some k => es.length < sizeLine ∧ P.nx Γ3 (M3.put ad (.dct (putKD es k d)))
        | none => False
      | _ => False) := q
    split at q'
    · rename_i es hm
      split at q'
      · rename_i kk hk
        cases is2
        obtain ⟨_, kvs, hp, ik⟩ := s3.cell ad _ hm
        have ek := key_is is3 hk
        subst ek
        refine ⟨ad, _, rfl, DPut.k hp (by rw [isKs_length ik]; exact q'.1), ?_⟩
        exact k.nx F3 σ _ Γ3 _ ((e1.trans e2).trans e3) (s3.put (m' := .dct (putKD es kk d)) hm ⟨_, upd_same, isKs_put ((is1.mono e2).mono e3) ik⟩) l3 q'.2
      · exact q'.elim
    · exact q'.elim
  | _ => exact q.elim⟩
theorem pd_dnew : PDE X (.Dict [] [] pos) tDNewK wDNew := ⟨pe_dnewK, fun Γ M Q q F σ H R s l k => fun p hp => by
  exact k F (.ref p) _ (.ptr p) Γ _ (Same.refl F) (s.newCell (m := .dct []) hp ⟨[], upd_same, .nil⟩) l (.ptr p) (q p (s.none_of hp).2)⟩
/-! list(d) -/
def rdLD : List V → Hp → VK → Prop := fun xs H Q => ∃ (a : Addr) (kvs : List (Key × V)), xs = [.ref a] ∧ Rd H a (.dK kvs) ∧ ∀ p, H p = none → Q (.ref p) (upd H p (.lst (kvs.map fun kv => kV kv.1)))
def wListD : WC := fun M xs k => match xs with
  | [x] => match dctD M x with
    | some es => k (.lst (es.map fun kv => dKey kv.1))
    | none => False
  | _ => False
theorem keys_all {K : W.Frag} {F : Hp} : ∀ ks : List Key, IsAll K F (ks.map kV) (ks.map dKey)
  | [] => .nil
  | k :: ks => .cons (dKey_is k) (keys_all ks)
theorem pc_listD (hc : X.calm = true) : PDCl X (.type "list") rdLD wListD := ⟨call_listD hc, fun x Γ M Q h => by
  unfold wListD at h
  split at h
  · split at h
    · rename_i x es hes
      intro F σ H vs R s l ix k
      obtain ⟨v, rfl, i1⟩ := one_is ix
      obtain ⟨a, kvs, rfl, hp, ik⟩ := dct_is s i1 hes
      refine ⟨a, kvs, rfl, .inl hp, fun p hn => ?_⟩
      have e1 : (kvs.map fun kv => kV kv.1) = (kvs.map (·.1)).map kV := by rw [List.map_map]; rfl
      have e2 : (es.map fun kv => dKey kv.1) = (es.map (·.1)).map dKey := by rw [List.map_map]; rfl
      rw [e2] at h
      rw [e1, isKs_keys ik]
      obtain ⟨a1, b1, c1, d1⟩ := new_lst s l hn (keys_all (K := X.K) (F := F) (es.map (·.1)))
      exact k _ _ _ _ _ _ a1 b1 c1 d1 h
    · exact h.elim
  · exact h.elim⟩
/-! tuple(x), max, sum -/
def rdTu (K : W.Frag) : List V → Hp → VK → Prop := fun xs H Q => ∃ p ys, xs = [.ref p] ∧ ((SqL K H p ys ∧ ∀ l, H l = none → Q (.ref l) (upd H l (.tup ys))) ∨ (SqT K H p ys ∧ Q (.ref p) H))
def wTuple : WC := fun M xs k => match xs with
  | [x] => match seqD M x with
    | some ds => k (.tup ds)
    | none => False
  | _ => False
theorem pc_tuple : PDCl X (.type "tuple") (rdTu X.K) wTuple := ⟨call_tuple_of, fun x Γ M Q h => by
  unfold wTuple at h
  split at h
  · split at h
    · rename_i x _o ds e
      intro F σ H vs R s l ix k
      obtain ⟨v, rfl, i1⟩ := one_is ix
      by_cases ht : ∃ es, x = .tup es
      · obtain ⟨es, rfl⟩ := ht
        cases e
        cases i1 with
        | tup h1 h2 => exact ⟨_, _, rfl, .inr ⟨sqt_mono s.sub h1, k F _ H _ Γ M (Same.refl F) s l (.tup h1 h2) h⟩⟩
      · obtain ⟨p, xs, rfl, hq, ia⟩ := seq_isL s i1 e (fun es z => ht ⟨es, z⟩)
        refine ⟨p, xs, rfl, .inl ⟨hq, fun r hr => ?_⟩⟩
        obtain ⟨a, b, c, d⟩ := new_tup s l hr ia
        exact k _ _ _ _ _ _ a b c d h
    · exact h.elim
  · exact h.elim⟩
def rdMax : List V → Hp → VK → Prop := fun xs H Q => ∃ i j, xs = [.int i, .int j] ∧ Q (.int (if j > i then j else i)) H
def wMax : WC := fun _ xs k => match xs with
  | [.int i, .int j] => k (.int (if j > i then j else i))
  | _ => False
theorem pc_max (hc : X.calm = true) : PDCl X (.builtin "max") rdMax wMax := ⟨call_max2 hc, fun x Γ M Q h => by
  unfold wMax at h
  split at h
  · rename_i i j
    intro F σ H vs R s l ix k
    obtain ⟨v, w, rfl, i1, i2⟩ := two_is ix
    cases i1; cases i2
    exact ⟨i, j, rfl, k F _ H _ Γ M (Same.refl F) s l (.int _) h⟩
  · exact h.elim⟩
theorem isAll_intsE {K : W.Frag} {F : Hp} : ∀ {ns : List Int} {vs : List V}, IsAll K F vs (ns.map .int) → vs = ns.map V.int
  | [], _, h => by cases h; rfl
  | n :: ns, _, h => by
    cases h with
    | cons a r => cases a; rw [isAll_intsE r]; rfl
def wSum : WC := fun M xs k => match xs with
  | [x] => match seqD M x with
    | some ds => (∀ es, x ≠ .tup es) ∧ ∃ ns : List Int, ds = ns.map .int ∧ k (.int ns.sum)
    | none => False
  | _ => False
theorem pc_sum (hc : X.calm = true) : PDCl X (.builtin "sum") (rSum X.K) wSum := ⟨cr_sum hc, fun x Γ M Q h => by
  unfold wSum at h
  split at h
  · split at h
    · rename_i x ds e
      obtain ⟨nt, ns, rfl, h⟩ := h
      intro F σ H vs R s l ix k
      obtain ⟨v, rfl, i1⟩ := one_is ix
      obtain ⟨p, xs, rfl, hq, ia⟩ := seq_isL s i1 e nt
      have e2 := isAll_intsE ia
      subst e2
      exact ⟨p, ns, rfl, hq, k F _ H _ Γ M (Same.refl F) s l (.int _) h⟩
    · exact h.elim
  · exact h.elim⟩
end
end D2

set_option maxRecDepth 100000
set_option maxHeartbeats 400000
namespace D2
open PySem PySem.Spec PyProof.Rows L2

/-! ### own operators -/
section
variable {X : Cx} {pins : List (Addr × Obj)} {σ : L2.St} {H : Hp} {s : Shared}
theorem ty_looks {x : V} {u t : Value} (I : Inv X pins σ H s) (rx : RelV x u) (ty : TyX X.K H x t) (hk : ∀ a o, X.K.lookup a = some o → x ≠ .ref a ∨ True) : W.Looks (model X.prog X.w) s.heap (typeOf u) t := by
  cases ty with
  | base b =>
    cases b with
    | non => cases (show u = Value.none from rx); exact W.Looks.of_pure rfl
    | bl y => cases (show u = Value.bool y from rx); exact W.Looks.of_pure rfl
    | int i => obtain ⟨t, q⟩ := (show ∃ t, u = Value.int i t from rx); cases q; exact W.Looks.of_pure rfl
    | str y => obtain ⟨t, q⟩ := (show ∃ t, u = Value.str y t from rx); cases q; exact W.Looks.of_pure rfl
    | flt y => obtain ⟨t, q⟩ := (show ∃ t, u = Value.float y t from rx); cases q; exact W.Looks.of_pure rfl
    | @lst a xs ea =>
      cases (show u = Value.ref a from rx)
      obtain ⟨_, _, n, _, h1⟩ := (show ObjOk X.prog X.w H s.heap a (.lst xs) from I.hok a _ ea)
      exact (W.Looks.ld h1).andThen .now
    | @frz a ob xs ea =>
      cases (show u = Value.ref a from rx)
      obtain ⟨_, _, _, n, _, h1⟩ := (show ObjOk X.prog X.w H s.heap a (.frz ob (.lst xs)) from I.hok a _ ea)
      exact (W.Looks.ld h1).andThen .now
    | @tup a xs ea =>
      cases (show u = Value.ref a from rx)
      obtain ⟨_, _, _, o, h1, h2, _⟩ := (show ObjOk X.prog X.w H s.heap a (.tup xs) from I.hok a _ ea)
      rw [← h2]
      exact (W.Looks.ld h1).andThen .now
    | @dK a kvs ea =>
      cases (show u = Value.ref a from rx)
      obtain ⟨_, _, vs, _, o, es, ep, h1, h2, _⟩ := (show ObjOk X.prog X.w H s.heap a (.dK kvs) from I.hok a _ ea)
      rw [← h2.1]
      exact (W.Looks.ld h1).andThen .now
    | @dT a kvs ea =>
      cases (show u = Value.ref a from rx)
      obtain ⟨_, _, xs, _, o, es, ep, h1, h2, _⟩ := (show ObjOk X.prog X.w H s.heap a (.dT kvs) from I.hok a _ ea)
      rw [← h2.1]
      exact (W.Looks.ld h1).andThen .now
    | @ins a C dx fs ea cl ha hn htk hm =>
      cases (show u = Value.ref a from rx)
      obtain ⟨mA, O, _⟩ := ins_get I.hok ea
      obtain ⟨od, J, _⟩ := O.look
      exact J.type
  | byt y => obtain ⟨t, q⟩ := (show ∃ t, u = Value.bytes y t from rx); cases q; exact W.Looks.of_pure rfl
  | @set a S n ea =>
    cases (show u = Value.ref a from rx)
    obtain ⟨o, _, _, _, e, ex, _⟩ := I.hok a _ ea
    rw [← ex.1]
    exact (W.Looks.ld e).andThen .now
  | @kList a o e c =>
    cases (show u = Value.ref a from rx)
    rw [← c]
    exact (W.Looks.ld (I.kIn a o e)).andThen .now
  | @kTuple a o e c =>
    cases (show u = Value.ref a from rx)
    rw [← c]
    exact (W.Looks.ld (I.kIn a o e)).andThen .now
  | @kDict a o e c =>
    cases (show u = Value.ref a from rx)
    rw [← c]
    exact (W.Looks.ld (I.kIn a o e)).andThen .now
  | @fTuple a ob xs ea =>
    cases (show u = Value.ref a from rx)
    obtain ⟨_, _, _, _, o, h1, h2, _⟩ := (show ObjOk X.prog X.w H s.heap a (.frz ob (.tup xs)) from I.hok a _ ea)
    rw [← h2]
    exact (W.Looks.ld h1).andThen .now
  | @fDict a ob kvs ea =>
    cases (show u = Value.ref a from rx)
    obtain ⟨_, _, _, vs, _, o, es, ep, h1, h2, _⟩ := (show ObjOk X.prog X.w H s.heap a (.frz ob (.dK kvs)) from I.hok a _ ea)
    rw [← h2.1]
    exact (W.Looks.ld h1).andThen .now
/-- x == y by x's own __eq__ -/
def rEqO (K : W.Frag) (C : Addr) (sp : Sp) : R2 := fun x y H Q => ∃ a dx fs tb, x = .ref a ∧ H a = some (.ins C dx fs) ∧ TyX K H y tb ∧ W.notFirst K C tb = true ∧ sp [x, y] H (fun v H' => (∃ b, v = .bl b) ∧ Q v H') E0
theorem op_eqO {CX : CXT} {n : Nat} {C f : Addr} {fd : FuncData} {ps : List Str} {sp : Sp} (F : FnOk X.prog X.w X.K X.mg X.base CX n f fd ps sp) (hs : W.findIn X.K (.ref C) "__eq__" = some (some (.ref f))) (hf : W.isFn X.K (.ref f) = true)
    (hb : Binds X.K fd ps []) (hx : Passes CX X E0) (hr : Room n X.A) : OpR X (compareOp .Eq) (rEqO X.K C sp) := by
  intro pins s σ H x y v u Q I rx ry h
  obtain ⟨a, dx, fs, tb, rfl, ha, ty, hn, hsp⟩ := h
  cases (show v = Value.ref a from rx)
  obtain ⟨mA, J, _⟩ := ins_get I.hok ha
  obtain ⟨od, J, _⟩ := J.look
  obtain ⟨m, hF⟩ := I.fr
  show wpAny (model X.prog X.w) X.A (richCompare .Eq (.ref a) u) (EP X pins σ Q) X.xe s
  refine W.cmp_K (op := .Eq) (tb := tb) hr.units0 hF I.ok.mod.kin J (ty_looks I ry ty fun _ _ _ => .inr trivial) hn hs hf ?_
  refine wpAny_mono (run_fn (us := [.ref a, u]) (vs := [.ref a, y]) (ds := []) (dvs := []) (E := E0) F hr hb .nil hx I (.cons rfl (.cons ry .nil)) hsp) (fun r s' z => ?_) fun _ _ x => x
  obtain ⟨w, H', I', rw, ⟨b, rfl⟩, q⟩ := z
  cases rw
  exact ⟨.bl b, H', I', rfl, q⟩
/-- str(x) by x's own __str__ -/
def rStrO (C : Addr) (sp : Sp) : List V → Hp → VK → Prop := fun xs H Q => ∃ a dx fs, xs = [.ref a] ∧ H a = some (.ins C dx fs) ∧ sp [.ref a] H (fun v H' => (∃ z, v = .str z) ∧ Q v H') E0
theorem cg_strO {CX : CXT} {n : Nat} {C f : Addr} {fd : FuncData} {ps : List Str} {sp : Sp} (F : FnOk X.prog X.w X.K X.mg X.base CX n f fd ps sp) (hs : W.findIn X.K (.ref C) "__str__" = some (some (.ref f))) (hf : W.isFn X.K (.ref f) = true)
    (hb : Binds X.K fd ps []) (hx : ∀ (H : Hp) (s : Shared) (e : Value) (s' : Shared), CX X.stack H s E0 e s' → False) (hr : Room (n + 2) X.A) : CallR X (.type "str") (rStrO C sp) := by
  intro pins s σ H xs us Q I r h
  obtain ⟨a, dx, fs, rfl, ha, hsp⟩ := h
  obtain ⟨u, rfl, ru⟩ := vals1 r
  cases ru
  obtain ⟨mA, J, _⟩ := ins_get I.hok ha
  obtain ⟨od, J, _⟩ := J.look
  have hr2 : Room n X.A.in1.in1 := (show Room (n + 1) X.A.in1 from Room.in1 hr).in1
  have hl : ([Value.ref a] : List Value).length = ps.length := F.len _ _ _ _ hsp
  refine W.kso_call hr2.units0 I.kIn J hs hf ?_
  refine wpAny_call (codeAny_mono (F.run X.A.in1.in1 X.stack s H ⟨[.ref a], []⟩ [.ref a] [.ref a] _ E0 hr2 I.env0.in1.in1 (by
    have := hb s [.ref a] I.kIn (by simpa using hl)
    simpa using this) (.cons rfl .nil) hsp) fun r s' hq => ?_)
  cases r with
  | error e => exact (hx _ _ _ _ hq).elim
  | ok fl =>
    cases fl with
    | ret u =>
      obtain ⟨v, H', I2, rv, ⟨z, rfl⟩, q⟩ := I.after hq
      obtain ⟨t, rfl⟩ := rv
      exact ⟨.str z, H', I2, ⟨t, rfl⟩, q⟩
    | next => exact False.elim hq
    | brk => exact False.elim hq
    | cont => exact False.elim hq
end
end D2

set_option maxRecDepth 100000
set_option maxHeartbeats 400000
namespace D2
open PySem PySem.Spec PyProof.Rows L2

/-! ### repr(x), len(x) of own objects -/
section
variable {X : Cx} {pins : List (Addr × Obj)} {σ : L2.St} {H : Hp} {s : Shared}
theorem run_in1 {CX : CXT} {n : Nat} {f : Addr} {fd : FuncData} {ps : List Str} {sp : Sp} {a : Addr} {Q : VK} (F : FnOk X.prog X.w X.K X.mg X.base CX n f fd ps sp) (hb : Binds X.K fd ps [])
    (hx : ∀ (H : Hp) (s : Shared) (e : Value) (s' : Shared), CX X.stack H s E0 e s' → False) (hr : Room (n + 1) X.A) (I : Inv X pins σ H s) (h : sp [.ref a] H Q E0) :
    wpAny (model X.prog X.w) X.A.in1 (call (.ref f) [.ref a]) (fun u s' => ∃ v H', Inv X pins σ H' s' ∧ RelV v u ∧ Q v H') X.xe s := by
  have hl : ([Value.ref a] : List Value).length = ps.length := F.len _ _ _ _ h
  refine wpAny_call (codeAny_mono (F.run X.A.in1 X.stack s H ⟨[.ref a], []⟩ [.ref a] [.ref a] _ E0 hr.in1 I.env0.in1 (by
    have := hb s [.ref a] I.kIn (by simpa using hl)
    simpa using this) (.cons rfl .nil) h) fun r s' hq => ?_)
  cases r with
  | error e => exact (hx _ _ _ _ hq).elim
  | ok fl =>
    cases fl with
    | ret u => exact I.after hq
    | next => exact False.elim hq
    | brk => exact False.elim hq
    | cont => exact False.elim hq
theorem cg_reprO {CX : CXT} {n : Nat} {C f : Addr} {fd : FuncData} {ps : List Str} {sp : Sp} (F : FnOk X.prog X.w X.K X.mg X.base CX n f fd ps sp) (hs : W.findIn X.K (.ref C) "__repr__" = some (some (.ref f))) (hf : W.isFn X.K (.ref f) = true)
    (hb : Binds X.K fd ps []) (hx : ∀ (H : Hp) (s : Shared) (e : Value) (s' : Shared), CX X.stack H s E0 e s' → False) (hr : Room (n + 1) X.A) : CallR X (.builtin "repr") (rStrO C sp) := by
  intro pins s σ H xs us Q I r h
  obtain ⟨a, dx, fs, rfl, ha, hsp⟩ := h
  obtain ⟨u, rfl, ru⟩ := vals1 r
  cases ru
  obtain ⟨mA, J, _⟩ := ins_get I.hok ha
  obtain ⟨od, J, _⟩ := J.look
  obtain ⟨m, hF⟩ := I.fr
  refine W.repr_K hr.in1.units0 hF I.ok.mod.kin J hs hf (wpAny_mono (run_in1 F hb hx hr I hsp) (fun u s' z => ?_) fun _ _ x => x)
  obtain ⟨v, H', I2, rv, ⟨z, rfl⟩, q⟩ := z
  obtain ⟨t, rfl⟩ := rv
  exact ⟨.str z, H', I2, ⟨t, rfl⟩, q⟩
def rLenO (C : Addr) (sp : Sp) : List V → Hp → VK → Prop := fun xs H Q => ∃ a dx fs, xs = [.ref a] ∧ H a = some (.ins C dx fs) ∧ sp [.ref a] H (fun v H' => (∃ n : Int, v = .int n ∧ 0 ≤ n ∧ n < 2 ^ 63) ∧ Q v H') E0
theorem cg_lenO {CX : CXT} {n : Nat} {C f : Addr} {fd : FuncData} {ps : List Str} {sp : Sp} (F : FnOk X.prog X.w X.K X.mg X.base CX n f fd ps sp) (hs : W.findIn X.K (.ref C) "__len__" = some (some (.ref f))) (hf : W.isFn X.K (.ref f) = true)
    (hb : Binds X.K fd ps []) (hx : ∀ (H : Hp) (s : Shared) (e : Value) (s' : Shared), CX X.stack H s E0 e s' → False) (hr : Room (n + 1) X.A) : CallR X (.builtin "len") (rLenO C sp) := by
  intro pins s σ H xs us Q I r h
  obtain ⟨a, dx, fs, rfl, ha, hsp⟩ := h
  obtain ⟨u, rfl, ru⟩ := vals1 r
  cases ru
  obtain ⟨mA, J, _⟩ := ins_get I.hok ha
  obtain ⟨od, J, _⟩ := J.look
  obtain ⟨m, hF⟩ := I.fr
  refine W.len_K hF I.ok.mod.kin J hs hf (wpAny_mono (run_in1 F hb hx hr I hsp) (fun u s' z => ?_) fun _ _ x => x)
  obtain ⟨v, H', I2, rv, ⟨n, rfl, h0, h1⟩, q⟩ := z
  obtain ⟨t, rfl⟩ := rv
  exact ⟨⟨h0, h1⟩, .int n, H', I2.tok _, ⟨_, rfl⟩, q⟩
end

/-! ### one keyword -/
section
variable {X : Cx} {CX : CXT} {k : Nat} {f C : Addr} {fd : FuncData} {a x m : Str} {sp : Sp} {E : XK} {p pos kpos apos : Pos} {e o : Expr} {te to : TE}
/-- C(a = e) -/
def tMake1K (C : Addr) (sp : Sp) (te : TE) : TE := tMakeN C 0 1 sp (fun vs zs => vs ++ zs) E0 tNil (tCons te tNil)
theorem kbn1 {K : W.Frag} (hb : ∀ (s : Shared) (u0 u1 : Value), BindsTo s fd ⟨[u0], [(a, u1)]⟩ [("self", u0), (a, u1)]) : KBn K fd ["self", a] 1 [a] (fun us ws => us ++ ws) (fun vs zs => vs ++ zs) := ⟨fun s us ws _ h1 h2 => by
  match us, ws, h1, h2 with
  | [u0], [u1], _, _ => exact hb s u0 u1, fun r1 r2 => r1.append r2⟩
theorem pe_make1K (M : Mk X.K C f) (F : FnOk X.prog X.w X.K X.mg X.base CX k f fd ["self", a] sp) (hr : Room (k + 1) X.A) (hg : Gl X x) (hm : X.mg x = some (.ref C)) (hb : ∀ (s : Shared) (u0 u1 : Value), BindsTo s fd ⟨[u0], [(a, u1)]⟩ [("self", u0), (a, u1)]) (hx : Passes CX X E0) (he : PE X e te)
    (hdb : (x == ("__debug__" : Str)) = false := by decide) (hall : (backToKw pos (keywordEach [⟨some a, e, kpos⟩] X.env)).all (·.1.isSome) = true := by rfl) (hks : (backToKw pos (keywordEach [⟨some a, e, kpos⟩] X.env)).filterMap (·.1) = [a] := by rfl)
    (hpl : ((backTo pos (starEach [] X.env)).any (·.1) || (backToKw pos (keywordEach [⟨some a, e, kpos⟩] X.env)).any (·.1.isNone)) = false := by rfl) :
    PE X (.Call (.Name x p) [] [⟨some a, e, kpos⟩] pos) (tMake1K C sp te) := by
  refine ⟨fun pins s σ H Q I h0 => ?_⟩
  have h : tCons te tNil σ H (fun zs H2 => ([] : List V).length = 0 ∧ zs.length = [a].length ∧ ∀ x dx, H2 x = none → H2 dx = none → dx ≠ x → sp (V.ref x :: [] ++ zs) (upd (upd H2 dx (.own x)) x (.ins C dx [])) (fun v H3 => v = .non ∧ Q (.ref x) H3) E0) := h0
  refine wpAny_Call_Name_kw (ld_glob I hg hm ?_ hdb)
  refine W.callWith_KW0 (h₀ := X.base) I.ok.mod.kin M.kp hall (thn ((pk_cons (nm := some a) (kpos := kpos) he pk_nil).run pos pins s σ H _ I h) fun us s1 ⟨vs, H1, I1, r1, q1⟩ => ⟨I1.kIn, ?_⟩) hpl
  rw [hks]
  obtain ⟨_, l2, q1⟩ := q1
  exact run_makeN (us := []) (vs := []) (n := 0) M F hr (kbn1 hb) hx I1 .nil r1 rfl l2 q1
/-- o.m(a = e) -/
def tMeth1K (C : Addr) (m : Str) (sp : Sp) (to te : TE) : TE := fun σ H Q => to σ H fun x H1 => ∃ b dx fs, x = .ref b ∧ H1 b = some (.ins C dx fs) ∧ fs.lookup m = none ∧ tCons te tNil σ H1 fun vs H2 => sp (x :: vs) H2 Q E0
theorem pe_meth1K {pl : Sem Bool} (ho : PE X o to) (c : Cls X.K C) (hm : Meth X.K C m f) (F : FnOk X.prog X.w X.K X.mg X.base CX k f fd ["self", a] sp) (hr : Room k X.A) (hb : ∀ (s : Shared) (u0 u1 : Value), BindsTo s fd ⟨[u0], [(a, u1)]⟩ [("self", u0), (a, u1)]) (hx : Passes CX X E0) (he : PE X e te)
    (hall : (backToKw pos (keywordEach [⟨some a, e, kpos⟩] X.env)).all (·.1.isSome) = true := by rfl) (hks : (backToKw pos (keywordEach [⟨some a, e, kpos⟩] X.env)).filterMap (·.1) = [a] := by rfl)
    (hpl : ((backTo pos (starEach [] X.env)).any (·.1) || (backToKw pos (keywordEach [⟨some a, e, kpos⟩] X.env)).any (·.1.isNone)) = false := by rfl)
    (ht : eval (.Call (.Attribute o m apos) [] [⟨some a, e, kpos⟩] pos) X.env = (do
      let ov ← eval o X.env
      standAt apos.atName
      let (f, first) ← holding [ov] (getMethod ov m pl)
      callWith pos f first (backTo pos (starEach [] X.env)) (backToKw pos (keywordEach [⟨some a, e, kpos⟩] X.env))) := by rfl) :
    PE X (.Call (.Attribute o m apos) [] [⟨some a, e, kpos⟩] pos) (tMeth1K C m sp to te) := by
  refine ⟨fun pins s σ H Q I h => ?_⟩
  refine W.methodCall_KW (pl := pl) (thn (ho.run pins s σ H _ I h) fun u s1 ⟨x, H1, I1, rx, b, dx, fs, ex, ea, l, q⟩ => ?_) ht
  subst ex
  obtain rfl : u = Value.ref b := rx
  refine getmeth_ok I1 ea c hm l ?_
  refine W.callWith_KW0 (first := [.ref b]) (h₀ := X.base) I1.ok.mod.kin hm.kp hall (thn ((pk_cons (nm := some a) (kpos := kpos) he pk_nil).run pos pins s1 σ H1 _ I1 q) fun us s2 ⟨vs, H2, I2, r, q2⟩ => ⟨I2.kIn, ?_⟩) hpl
  rw [hks]
  have hl := F.len _ _ _ _ q2
  obtain ⟨u, rfl⟩ : ∃ u, us = [u] := by
    have z : us.length = 1 := by
      have := r.length
      simp at hl
      omega
    match us, z with
    | [u], _ => exact ⟨u, rfl⟩
  refine wpAny_call (codeAny_mono (F.run X.A X.stack s2 H2 ⟨[.ref b], [(a, u)]⟩ [.ref b, u] _ Q E0 hr I2.env0 (hb s2 _ u) (.cons (show RelV (V.ref b) (Value.ref b) from rfl) r) q2) fun r s' hq => ?_)
  match r, hq with
  | .error er, hq => exact hx pins σ H2 s2 er s' I2 hq
  | .ok (.ret v), hq => exact I2.after hq
  | .ok .next, hq => exact False.elim hq
  | .ok .brk, hq => exact False.elim hq
  | .ok .cont, hq => exact False.elim hq
end
end D2

set_option maxRecDepth 100000
set_option maxHeartbeats 400000
namespace D2
open PySem PySem.Spec PyProof.Rows L2

/-! ### inside a comprehension -/
theorem blk_K {X : Cx} {s : Shared} {H : Hp} {sc : Scope} {env : Env} {fp : List Addr} : (X.blk s H sc env fp).K = X.K := rfl
theorem blkE {X : Cx} {e : Expr} {t t' : TE} {w w' : WE} (h : PDE X e t w) (e1 : t = t') (e2 : w = w') : PDE X e t' w' := by subst e1; subst e2; exact h
theorem blkT {X : Cx} {e : List Expr} {t t' : TT} {w w' : WT} (h : PDTs X e t w) (e1 : t = t') (e2 : w = w') : PDTs X e t' w' := by subst e1; subst e2; exact h

/-! ### loops, by an invariant -/
section
variable {g : WG} {b : WS} {c : WT} {we : WE} {P : DEnds} {Γ : Ga} {p : Addr} {k : List D → Mem → Prop}
theorem for_by (I : List D → Ga → Mem → Prop) (h0 : ∀ Γ M, I [] Γ M → P.nx Γ M)
    (hs : ∀ d ds Γ M, I (d :: ds) Γ M → (∀ Γ' M', I ds Γ' M' → forL g b P ds Γ' M') → g d Γ M fun Γ1 M1 => b Γ1 M1 { nx := forL g b P ds, rt := P.rt, bk := P.nx, ct := forL g b P ds }) :
    ∀ ds Γ M, I ds Γ M → forL g b P ds Γ M
  | [], Γ, M, h => h0 Γ M h
  | d :: ds, Γ, M, h => hs d ds Γ M h (for_by I h0 hs ds)
theorem lc_by (I : List D → List D → Mem → Prop) (h0 : ∀ acc M, I [] acc M → k acc M)
    (hs : ∀ d ds acc M, I (d :: ds) acc M → (∀ acc' M', I ds acc' M' → lcL g c we Γ k p ds acc' M') → g d Γ (M.put p (.lst acc)) fun Γ2 M2 => c Γ2 M2 fun b Γ3 M3 => wite b (we Γ3 M3 (fun y _ M4 => ∃ M5 : Mem, M5 p = none ∧ M4 = M5.put p (.lst acc) ∧ lcL g c we Γ k p ds (acc ++ [y]) M5))
      (∃ M5 : Mem, M5 p = none ∧ M3 = M5.put p (.lst acc) ∧ lcL g c we Γ k p ds acc M5)) :
    ∀ ds acc M, I ds acc M → lcL g c we Γ k p ds acc M
  | [], acc, M, h => h0 acc M h
  | d :: ds, acc, M, h => hs d ds acc M h (lc_by I h0 hs ds)
theorem lc_fm {M : Mem} {full : List D} (f : D → Option D) (Pr : D → Prop) (hp : M p = none) (hPr : ∀ d ∈ full, Pr d) (hk : k (full.filterMap f) M)
    (hs : ∀ d ds acc, Pr d → (∀ y, f d = some y → ∃ M5 : Mem, M5 p = none ∧ M.put p (.lst acc) = M5.put p (.lst acc) ∧ lcL g c we Γ k p ds (acc ++ [y]) M5) → (f d = none → ∃ M5 : Mem, M5 p = none ∧ M.put p (.lst acc) = M5.put p (.lst acc) ∧ lcL g c we Γ k p ds acc M5) →
      g d Γ (M.put p (.lst acc)) fun Γ2 M2 => c Γ2 M2 fun b Γ3 M3 => wite b (we Γ3 M3 (fun y _ M4 => ∃ M5 : Mem, M5 p = none ∧ M4 = M5.put p (.lst acc) ∧ lcL g c we Γ k p ds (acc ++ [y]) M5))
      (∃ M5 : Mem, M5 p = none ∧ M3 = M5.put p (.lst acc) ∧ lcL g c we Γ k p ds acc M5)) : lcL g c we Γ k p full [] M := by
  refine lc_by (fun rest acc M' => M' = M ∧ (∀ d ∈ rest, Pr d) ∧ acc ++ rest.filterMap f = full.filterMap f) ?_ ?_ _ _ _ ⟨rfl, hPr, rfl⟩
  · rintro acc _ ⟨rfl, _, e⟩
    rw [List.filterMap_nil, List.append_nil] at e
    rw [e]
    exact hk
  · rintro d ds acc _ ⟨rfl, hr, e⟩ ih
    have hr' : ∀ x ∈ ds, Pr x := fun x hx => hr x (List.mem_cons_of_mem _ hx)
    refine hs d ds acc (hr d (List.mem_cons_self ..)) (fun y hy => ⟨_, hp, rfl, ih _ _ ⟨rfl, hr', ?_⟩⟩) fun hn => ⟨_, hp, rfl, ih _ _ ⟨rfl, hr', ?_⟩⟩
    · rw [← e, List.filterMap_cons, hy, List.append_assoc]; rfl
    · rw [← e, List.filterMap_cons, hn]
theorem while_by (I : Nat → Ga → Mem → Prop)
    (hs : ∀ m Γ M n, I m Γ M → (∀ m', m' < m → ∀ Γ' M', I m' Γ' M' → whileN c b P n Γ' M') → c Γ M fun x Γ1 M1 => wite x (b Γ1 M1 { nx := whileN c b P n, rt := P.rt, bk := P.nx, ct := whileN c b P n }) (P.nx Γ1 M1)) {m : Nat} {Γ : Ga} {M : Mem} (h : I m Γ M) : ∃ n, whileN c b P n Γ M := by
  suffices H : ∀ n m Γ M, m < n → I m Γ M → whileN c b P n Γ M from ⟨m + 1, H _ _ _ _ (Nat.lt_succ_self m) h⟩
  intro n
  induction n with
  | zero => intro m Γ M h; omega
  | succ n ih =>
    intro m Γ M hm hI
    exact hs m Γ M n hI fun m' hlt Γ' M' hI' => ih m' Γ' M' (by omega) hI'
end

/-! ### a cut -/
def wCut (a b : WS) : WS := fun Γ M P => ∃ I : Ga → Mem → Prop, a Γ M { nx := I, rt := P.rt, bk := P.bk, ct := P.ct } ∧ ∀ Γ1 M1, I Γ1 M1 → b Γ1 M1 P
theorem pdb_cut {X : Cx} {st : Stmt} {rest : List Stmt} {ts us : TS} {ws vs : WS} (h : PDS X st ts ws) (r : PDB X rest us vs) : PDB X (st :: rest) (tSeq ts us) (wCut ws vs) :=
  ⟨pss_cons h.ps r.ps, fun Γ M P ⟨I, q, g⟩ => ds_seq ((h.sd _ _ _ q).imp (fun _ _ q => r.sd _ _ _ (g _ _ q)) (fun _ _ q => q) (fun _ _ q => q) fun _ _ q => q)⟩

/-! ### defs -/
/-- a def of the module -/
structure FunAt (K : W.Frag) (mg : Str → Option Value) (x : Str) (ps : List Str) (st : Stmt) : Prop where
  ex : ∃ f fd, Fun K x x st f fd ∧ mg x = some (.ref f) ∧ Binds K fd ps []
/-- a def of a class -/
structure MtFn (K : W.Frag) (C : Addr) (m qual : Str) (ps : List Str) (st : Stmt) : Prop where
  ex : ∃ f fd, Fun K m qual st f fd ∧ Cls K C ∧ Meth K C m f ∧ Binds K fd ps []
structure PrFn (K : W.Frag) (C : Addr) (m qual : Str) (ps : List Str) (st : Stmt) : Prop where
  ex : ∃ p f fd, Fun K m qual st f fd ∧ Cls K C ∧ PropOf K C m p f ∧ Binds K fd ps []
structure MkFn (K : W.Frag) (mg : Str → Option Value) (x : Str) (C : Addr) (qual : Str) (ps : List Str) (st : Stmt) : Prop where
  ex : ∃ f fd, Fun K "__init__" qual st f fd ∧ Mk K C f ∧ mg x = some (.ref C) ∧ Binds K fd ps []
/-- a static def of a class -/
structure SmFn (K : W.Frag) (C : Addr) (m qual : Str) (ps : List Str) (st : Stmt) : Prop where
  ex : ∃ p f fd, Fun K m qual st f fd ∧ W.findIn K (.ref C) m = some (some (.ref p)) ∧ (∃ rest, W.recIn K p "staticmethod" = some (.ref f :: rest)) ∧ Binds K fd ps []
section
variable {P : Program} {w : World} {K : W.Frag} {mg : Str → Option Value} {base : Heap} {x qual m : Str} {ps N : List Str} {st : Stmt} {S : SpD} {k : Nat} {C : Addr}
abbrev Walk (P : Program) (w : World) (K : W.Frag) (mg : Str → Option Value) (base : Heap) (N ps : List Str) (st : Stmt) (k : Nat) (S : SpD) (qual : Str) : Prop :=
  ∀ (f : Addr) (cdv : Value) (A : Around) (outer : List Env) (s : Shared) (H : Hp) (E : XK), Room k (A.deeper (envOfC qual (defScope st) s.heap.objs.size f cdv)) →
      ∃ t ww, PDB (cxOf CX0 P w K mg base N qual (defScope st) f cdv A outer s H E).nox (defBody st) t ww ∧ ∀ ds M q, S ds M q → ww (ds.map some ++ List.replicate (N.length - ps.length) none) M (endsT q)
theorem fnAt_of (T : FunAt K mg x ps st) (sc : FnScope N ps (defScope st)) (len : ∀ ds M q, S ds M q → ds.length = ps.length) (hw : Walk P w K mg base N ps st k S x) : FnAt P w K mg base (k + 1) x S := by
  obtain ⟨f, fd, F, hm, hb⟩ := T.ex
  exact ⟨f, fd, ps, fn_okT F sc len (hw f), hm, F.kp, hb⟩
theorem mtAt_of (T : MtFn K C m qual ps st) (sc : FnScope N ps (defScope st)) (len : ∀ ds M q, S ds M q → ds.length = ps.length) (hw : Walk P w K mg base N ps st k S qual) : MtAt P w K mg base (k + 1) C m S := by
  obtain ⟨f, fd, F, hc, hm, hb⟩ := T.ex
  exact ⟨f, fd, ps, fn_okT F sc len (hw f), hc, hm, hb⟩
theorem prAt_of (T : PrFn K C m qual ps st) (sc : FnScope N ps (defScope st)) (len : ∀ ds M q, S ds M q → ds.length = ps.length) (hw : Walk P w K mg base N ps st k S qual) : PrAt P w K mg base (k + 1) C m S := by
  obtain ⟨p, f, fd, F, hc, hm, hb⟩ := T.ex
  exact ⟨p, f, fd, ps, fn_okT F sc len (hw f), hc, hm, hb⟩
theorem mkAt_of (T : MkFn K mg x C qual ps st) (sc : FnScope N ps (defScope st)) (len : ∀ ds M q, S ds M q → ds.length = ps.length) (hw : Walk P w K mg base N ps st k S qual) : MkAt P w K mg base (k + 1) x C S [] := by
  obtain ⟨f, fd, F, hc, hm, hb⟩ := T.ex
  exact ⟨f, fd, ps, [], fn_okT F sc len (hw f), hc, hm, hb, .nil⟩
/-- a promise of nothing -/
theorem fnAt_no (T : FunAt K mg x ps st) (no : ∀ ds M q, ¬ S ds M q) : FnAt P w K mg base k x S := by
  obtain ⟨f, fd, F, hm, hb⟩ := T.ex
  exact ⟨f, fd, ps, ⟨fun vs H Q E ⟨_, _, _, _, _, _, h, _⟩ => (no _ _ _ h).elim, fun _ _ _ _ _ _ _ _ _ _ _ _ _ ⟨_, _, _, _, _, _, h, _⟩ => (no _ _ _ h).elim⟩, hm, F.kp, hb⟩
end

/-! ### memory -/
theorem Mem.put_comm {M : Mem} {a b : Addr} {m n : MO} (h : b ≠ a) : (M.put a m).put b n = (M.put b n).put a m := by
  funext c
  unfold Mem.put
  by_cases e : c = b
  · by_cases g : c = a
    · exact absurd (e.symm.trans g) h
    · rw [if_pos e, if_neg g, if_pos e]
  · by_cases g : c = a
    · rw [if_neg e, if_pos g, if_pos g]
    · rw [if_neg e, if_neg g, if_neg g, if_neg e]
theorem Mem.put_self {M : Mem} {a : Addr} {o : MO} (h : M a = some o) : M.put a o = M := by
  funext b
  unfold Mem.put
  by_cases q : b = a
  · rw [if_pos q, q, h]
  · rw [if_neg q]
theorem ne_of_mem {M : Mem} {a b : Addr} {o : MO} (h : M a = some o) (g : M b = none) : b ≠ a := fun e => by rw [e, h] at g; cases g

theorem Mem.at2 {M : Mem} {a p : Addr} {x y : MO} (h : p ≠ a) : ((M.put a x).put p y) a = some x := by rw [Mem.put_ne (Ne.symm h), Mem.put_same]
theorem Mem.put2 {M : Mem} {a p : Addr} {x y x' : MO} (h : p ≠ a) : ((M.put a x).put p y).put a x' = (M.put a x').put p y := by rw [Mem.put_comm (Ne.symm h), Mem.put_put]
theorem seqD_ptr {M : Mem} {a : Addr} {ds : List D} (h : M a = some (.lst ds)) : seqD M (.ptr a) = some ds := by
  show (match M a with
    | some (.lst ds) => some ds
    | _ => none) = some ds
  rw [h]
theorem lstD_ptr {M : Mem} {a : Addr} {ds : List D} (h : M a = some (.lst ds)) : lstD M (.ptr a) = some ds := by
  show (match M a with
    | some (.lst ds) => some ds
    | _ => none) = some ds
  rw [h]
theorem dctD_ptr {M : Mem} {a : Addr} {es : List (Key × D)} (h : M a = some (.dct es)) : dctD M (.ptr a) = some es := by
  show (match M a with
    | some (.dct es) => some es
    | _ => none) = some es
  rw [h]
theorem objD_ptr {M : Mem} {a C : Addr} {fs : List (Str × D)} (h : M a = some (.ins C fs)) : objD M (.ptr a) = some (C, fs) := by
  show (match M a with
    | some (.ins C fs) => some (C, fs)
    | _ => none) = some (C, fs)
  rw [h]
theorem mulR {i j : Int} (h : -(2 ^ 64) < j ∧ j < 2 ^ 64) : CMul i j ∨ CMulW i j := .inl (.inr h)
theorem mulL {i j : Int} (h : -(2 ^ 64) < i ∧ i < 2 ^ 64) : CMul i j ∨ CMulW i j := .inl (.inl h)
/-! ### the jar -/
def jarL (cs : List Int) (i c k m n : Int) : List D := [.lst (cs.map .int), .int i, .int c, .int k, .int m, .int n]
structure JarL (js : List D) : Prop where
  ex : ∃ cs i c k m n, js = jarL cs i c k m n ∧ 0 ≤ i ∧ 0 ≤ m ∧ m < 4294967291
def S_l_draw : SpD := fun ds M q => ∃ a many js, ds = [.ptr a, .int many] ∧ M a = some (.lst js) ∧ JarL js ∧ (0 < many ∧ many.natAbs.log2 < 9000) ∧ ∀ r js', 0 ≤ r → r < many → JarL js' → q (.int r) (M.put a (.lst js'))
theorem pd_ty {X : Cx} {x : Str} {pos : Pos} (n : String) (hg : Gl X x) (hm : X.mg x = none) (hv : bootBuiltins x = some (.type n)) (hn : x ≠ "__name__" := by decide) (hd : (x == ("__debug__" : Str)) = false := by decide) : PDE X (.Name x pos) (tC (.ty n)) (wC (.ty n)) :=
  pd_c (pe_bltn hg hm hv rfl hn hd) fun _ => .ty _
section
variable {X : Cx} {e : Expr} {te : TE} {we : WE} {na nb : Str} {a b : String} {p p1 p2 pt pos : Pos} {kt : Nat}
theorem pd_isiT2 (hg : Gl X "isinstance") (hn : X.mg "isinstance" = none) (ga : Gl X na) (gb : Gl X nb) (ha : X.mg na = none) (hb : X.mg nb = none) (va : bootBuiltins na = some (.type a)) (vb : bootBuiltins nb = some (.type b)) (he : PDE X e te we)
    (na1 : na ≠ "__name__" := by decide) (na2 : (na == ("__debug__" : Str)) = false := by decide) (nb1 : nb ≠ "__name__" := by decide) (nb2 : (nb == ("__debug__" : Str)) = false := by decide)
    (h1 : starEach [e, .Tuple [.Name na p1, .Name nb p2] kt pt] X.env = (false, eval e X.env) :: starEach [.Tuple [.Name na p1, .Name nb p2] kt pt] X.env := by rfl)
    (h2 : starEach [.Tuple [.Name na p1, .Name nb p2] kt pt] X.env = (false, eval (.Tuple [.Name na p1, .Name nb p2] kt pt) X.env) :: starEach [] X.env := by rfl)
    (h3 : starEach [.Name na p1, .Name nb p2] X.env = (false, eval (.Name na p1) X.env) :: starEach [.Name nb p2] X.env := by rfl) (h4 : starEach [.Name nb p2] X.env = (false, eval (.Name nb p2) X.env) :: starEach [] X.env := by rfl)
    (hpl : (backTo pos (starEach [.Tuple [.Name na p1, .Name nb p2] kt pt] X.env)).any (·.1) = false := by rfl) :
    PDE X (.Call (.Name "isinstance" p) [e, .Tuple [.Name na p1, .Name nb p2] kt pt] [] pos) (tCB (rIsA X.K) (tCons te (tCons (tTup (tCons (tC (.ty a)) (tCons (tC (.ty b)) tNil))) tNil))) (wIsiT a b we) :=
  pd_isiT he.sd (pe_callB cg_isA hg hn (by decide +kernel) (pa_cons he.pe (pa_cons (pe_tup (pa_cons (pe_bltn ga ha va rfl na1 na2) (pa_cons (pe_bltn gb hb vb rfl nb1 nb2) pa_nil h4) h3)) pa_nil h2) h1) (by decide) (by decide) h1 hpl)
end
/-- list(e), changed later -/
def wLsP (wa : WE) : WE := fun Γ M Q => wa Γ M fun x Γ1 M1 => match seqD M1 x with
  | some ds => ∀ p, M1 p = none → Q (.ptr p) Γ1 (M1.put p (.lst ds))
  | none => False
theorem pd_lsP {X : Cx} {e : Expr} {te : TE} {we : WE} {p pos : Pos} (hc : X.calm = true) (hg : Gl X "list") (hm : X.mg "list" = none) (he : PDE X e te we)
    (h1 : starEach [e] X.env = (false, eval e X.env) :: starEach [] X.env := by rfl) (hpl : (backTo pos (starEach [] X.env)).any (·.1) = false := by rfl) :
    PDE X (.Call (.Name "list" p) [e] [] pos) (tCB (rListG X.K) (tCons te tNil)) (wLsP we) := by
  have h := pd_listP (pe_callTy (pos := pos) (p := p) (cg_list hc) hg hm (by decide +kernel) (pa_cons he.pe pa_nil h1) (by decide) (by decide) h1 hpl) (fun Γ M Q q => (pda_cons he pda_nil h1).sd Γ M Q q)
  exact ⟨h.pe, fun Γ M Q q => h.sd Γ M Q q⟩
/-- pick of a written list -/
def S_l_pick : SpD := fun ds M q => ∃ a js ms, ds = [.ptr a, .lst ms] ∧ M a = some (.lst js) ∧ JarL js ∧ 0 < ms.length ∧ ms.length ≤ sizeLine ∧ ∀ r js', r ∈ ms → JarL js' → q r (M.put a (.lst js'))
end D2

set_option maxRecDepth 100000
set_option maxHeartbeats 400000
namespace D2
open PySem PySem.Spec PyProof.Rows L2
theorem log_small {n : Int} (h0 : 0 ≤ n) (h : n ≤ 4294967296) : n.natAbs.log2 < 1000 := by
  by_cases h3 : n.natAbs = 0
  · rw [h3]; decide
  have h2 : n.natAbs < 2 ^ 34 := by omega
  exact Nat.lt_trans ((Nat.log2_lt h3).mpr h2) (by decide)
theorem atI_nat {α : Type} {xs : List α} {i : Int} (h0 : 0 ≤ i) (h1 : i < xs.length) : ∃ x, atI xs i = some x ∧ x ∈ xs ∧ xs[i.toNat]? = some x := by
  have h2 : i.toNat < xs.length := by omega
  refine ⟨xs[i.toNat], ?_, List.getElem_mem h2, List.getElem?_eq_getElem h2⟩
  unfold atI ixN
  rw [if_pos h0, if_pos h1]
  exact List.getElem?_eq_getElem h2
theorem atI_zero {α : Type} {c : α} {cs : List α} : atI (c :: cs) 0 = some c := by
  unfold atI ixN
  rw [if_pos (by decide), if_pos (by rw [List.length_cons]; omega)]
  rfl
theorem cut_ints (cs : List Int) (lo hi : Option Int) : ∃ es : List Int, cutD (cs.map D.int) lo hi = es.map .int := by
  unfold cutD
  rw [← List.map_drop, ← List.map_take]
  exact ⟨_, rfl⟩
theorem cut_all (ds : List D) : cutD ds (some 0) none = ds := by
  unfold cutD
  have e1 : HT.sIx ds.length 0 (some 0) = 0 := by simp [HT.sIx]
  have e2 : HT.sIx ds.length ds.length none = ds.length := by simp [HT.sIx]
  rw [e1, e2, Nat.sub_zero, List.drop_zero, List.take_length]
def S_l_jar : SpD := fun ds M q => ∃ cs : List Int, ds = [.scr (cs.map .int)] ∧ ∀ p js, M p = none → JarL js → q (.ptr p) (M.put p (.lst js))
/-- data that like takes -/
def LikeD : Nat → D → Prop
  | 0, _ => False
  | n + 1, .int _ | n + 1, .str _ | n + 1, .bl _ => True
  | n + 1, .lst ds | n + 1, .tup ds => ds.length ≤ sizeLine ∧ ∀ d ∈ ds, LikeD n d
  | _ + 1, _ => False
def S_l_like (n : Nat) : SpD := fun ds M q => ∃ d, ds = [d, d] ∧ LikeD n d ∧ q (.bl true) M

/-! ### names -/
def letsS : Str := "abcdefghijklmnopqrstuvwxyz"
def sgnsS : Str := "abcdefghijklmnopqrstuvwxyz0123456789"
def wordsS : List Str := ["root", "if", "then", "else", "i", "t", "sheet", "input", "let", "given", "answer", "answers", "broken", "program", "number", "round", "out", "scaffold", "inputs", "pillar", "done", "at", "as", "of", "real", "complex", "dear", "free"]
def headIn (s : Str) : List Nat → Bool
  | c :: _ => decide (c ∈ s.cps.toList)
  | [] => false
def nameB (x : Str) : Bool := decide (x.length ≤ 8) && !wordsS.contains x && headIn letsS x.cps.toList && x.cps.toList.all fun c => decide (c ∈ sgnsS.cps.toList)
theorem inD_str (w : Str) (ns : List Str) : inD (.str w) (ns.map .str) = ns.contains w := by
  unfold inD
  induction ns with
  | nil => rfl
  | cons y ns ih =>
    rw [List.map_cons, List.any_cons, ih, List.contains_cons]
    have e : eqF (.str y) (.str w) = (w == y) := by
      show (y == w) = (w == y)
      exact BEq.comm
    rw [e]
theorem flat_strs (ns : List Str) : (ns.map D.str).all flatD = true := by
  rw [List.all_eq_true]
  intro d hd
  obtain ⟨x, _, rfl⟩ := List.mem_map.mp hd
  rfl
theorem nodup_le : ∀ {L ns : List Str}, L.Nodup → (∀ w ∈ L, w ∈ ns) → L.length ≤ ns.length
  | [], ns, _, _ => Nat.zero_le _
  | w :: L, ns, h, hs => by
    rw [List.nodup_cons] at h
    have h1 := hs w (List.mem_cons_self ..)
    have h2 : ∀ v ∈ L, v ∈ ns.erase w := fun v hv => (List.mem_erase_of_ne (fun e => h.1 (by rw [← e]; exact hv))).mpr (hs v (List.mem_cons_of_mem _ hv))
    have h3 := nodup_le h.2 h2
    rw [List.length_erase_of_mem h1] at h3
    have := List.length_pos_of_mem h1
    show L.length + 1 ≤ _
    omega
theorem one_free {L ns : List Str} (h : L.Nodup) (hl : ns.length < L.length) : ∃ w r, L.filter (fun w => !ns.contains w) = w :: r ∧ w ∈ L ∧ w ∉ ns := by
  cases e : L.filter (fun w => !ns.contains w) with
  | nil =>
    rw [List.filter_eq_nil_iff] at e
    have : L.length ≤ ns.length := nodup_le h fun w hw => by
      have := e w hw
      simpa using this
    omega
  | cons w r =>
    have hm : w ∈ L.filter (fun w => !ns.contains w) := by rw [e]; exact List.mem_cons_self ..
    rw [List.mem_filter] at hm
    exact ⟨w, r, rfl, hm.1, by simpa using hm.2⟩
def vwS (n : Int) : Str := ("v" : Str) ++ (toString n : Str) ++ ("w" : Str)
def uwS (n : Int) : Str := ("u" : Str) ++ (toString n : Str) ++ ("w" : Str)
def vws : List Str := (List.range 40).map fun n : Nat => vwS n
def uws : List Str := (List.range 40).map fun n : Nat => uwS n
theorem vws_nodup : vws.Nodup := by decide +kernel
theorem uws_nodup : uws.Nodup := by decide +kernel
theorem vws_name : ∀ w ∈ vws, nameB w = true := by decide +kernel
theorem uws_name : ∀ w ∈ uws, nameB w = true := by decide +kernel
theorem cut_name : ∀ w ∈ wordsS, nameB (cutS w none (some 7) ++ ("7" : Str)) = true := by decide +kernel
/-- data by texts -/
def fstr (p : Str → Bool) : D → Option D
  | .str w => if p w then some (.str w) else none
  | _ => none
theorem fm_str (p : Str → Bool) (L : List Str) : (L.map D.str).filterMap (fstr p) = (L.filter p).map .str := by
  induction L with
  | nil => rfl
  | cons w L ih =>
    rw [List.map_cons, List.filterMap_cons, List.filter_cons]
    cases h : p w with
    | true => simp only [fstr, h, if_true, ih, List.map_cons]
    | false => simp only [fstr, h, ih]; rfl
def fnum (f : Int → Str) : D → Option D
  | .int i => some (.str (f i))
  | _ => none
theorem fm_num (f : Int → Str) (n : Nat) : (nums 0 n).filterMap (fnum f) = ((List.range n).map fun k : Nat => f k).map .str := by
  unfold nums
  generalize List.range n = L
  induction L with
  | nil => rfl
  | cons w L ih =>
    rw [List.map_cons, List.filterMap_cons, ih]
    show D.str (f (0 + (w : Int))) :: _ = _
    rw [Int.zero_add]
    rfl
theorem nums_nat {n : Nat} {d : D} (h : d ∈ nums 0 n) : ∃ k : Nat, d = .int k ∧ k < n := by
  unfold nums at h
  rw [List.mem_map] at h
  obtain ⟨k, hk, rfl⟩ := h
  exact ⟨k, by rw [Int.zero_add], by simpa using hk⟩
theorem num_len : ∀ k : Nat, k < 40 → (Str.ofString (toString (k : Int))).length ≤ 5 := by decide +kernel
/-- a name in the making -/
structure Half (w : Str) (n : Nat) : Prop where
  len : w.length ≤ n
  hd : headIn letsS w.cps.toList = true
  al : (w.cps.toList.all fun c => decide (c ∈ sgnsS.cps.toList)) = true
theorem half_one {c : Nat} (h : c ∈ letsS.cps.toList) : Half ⟨#[c]⟩ 1 := by
  refine ⟨Nat.le_refl _, decide_eq_true h, ?_⟩
  have : ∀ c ∈ letsS.cps.toList, (([c] : List Nat).all fun c => decide (c ∈ sgnsS.cps.toList)) = true := by decide +kernel
  exact this c h
theorem half_more {w : Str} {n c : Nat} (hw : Half w n) (h : c ∈ sgnsS.cps.toList) : Half (w ++ ⟨#[c]⟩) (n + 1) := by
  have e : (w ++ (⟨#[c]⟩ : Str)).cps.toList = w.cps.toList ++ [c] := by
    show (w.cps ++ #[c]).toList = _
    rw [Array.toList_append]
  obtain ⟨h1, h2, h3⟩ := hw
  refine ⟨by rw [str_len_app]; show _ + 1 ≤ _; omega, ?_, ?_⟩
  · rw [e]
    cases h4 : w.cps.toList with
    | nil => rw [h4] at h2; cases h2
    | cons a l => rw [h4] at h2; exact h2
  · rw [e, List.all_append, h3]
    simp only [List.all_cons, List.all_nil, Bool.and_true, Bool.true_and, decide_eq_true h]
theorem half_name {w : Str} (h : Half w 8) (n : wordsS.contains w = false) : nameB w = true := by
  unfold nameB
  rw [decide_eq_true h.len, n, h.hd, h.al]
  rfl
def S_l_words : SpD := fun ds M q => ds = [] ∧ q (.lst (wordsS.map .str)) M
def S_l_syms : SpD := fun ds M q => ∃ a many js, ds = [.ptr a, .int many, .lst []] ∧ M a = some (.lst js) ∧ JarL js ∧ 0 ≤ many ∧ many ≤ 10 ∧ ∀ (ns : List Str) js', ns.length = many.toNat → (∀ x ∈ ns, nameB x = true) → ns.Nodup → JarL js' → q (.lst (ns.map .str)) (M.put a (.lst js'))
def S_l_stranger : SpD := fun ds M q => ∃ ns, ds = [.lst (List.map D.str ns)] ∧ ns.length < 40 ∧ ∀ x, nameB x = true → x ∉ ns → q (.str x) M
end D2

set_option maxRecDepth 100000
set_option maxHeartbeats 400000
namespace D2
open PySem PySem.Spec PyProof.Rows L2
/-! ### formulas as trees -/
inductive Bn where | add | sub | mul | div
  deriving DecidableEq
inductive Tr where | num (n : Int) | name (x : Str) | im | root (t : Tr) | neg (t : Tr) | pow (t : Tr) (e : Int) | bin (o : Bn) (l r : Tr)
  deriving DecidableEq
def Bn.tag : Bn → Str
  | .add => "add" | .sub => "sub" | .mul => "mul" | .div => "div"
def Bn.tok : Bn → Str
  | .add => "+" | .sub => "-" | .mul => "*" | .div => "/"
def Bn.lvl : Bn → Int
  | .add | .sub => 1 | .mul | .div => 2
def Bn.sgn : Bn → Str
  | .add => " + " | .sub => " - " | .mul => "*" | .div => "/"
def encT : Tr → D
  | .num n => .tup [.str "num", .int n]
  | .name x => .tup [.str "name", .str x]
  | .im => .tup [.str "i"]
  | .root t => .tup [.str "root", encT t]
  | .neg t => .tup [.str "neg", encT t]
  | .pow t e => .tup [.str "pow", encT t, .int e]
  | .bin o l r => .tup [.str o.tag, encT l, encT r]
theorem encT_tup (t : Tr) : ∃ ds, encT t = .tup ds := by cases t <;> exact ⟨_, rfl⟩
def Tr.deep : Tr → Nat
  | .num _ | .name _ | .im => 0
  | .root t | .neg t | .pow t _ => t.deep + 1
  | .bin _ l r => max l.deep r.deep + 1
def Tr.sz : Tr → Nat
  | .num _ | .name _ | .im => 1
  | .root t | .neg t | .pow t _ => t.sz + 1
  | .bin _ l r => l.sz + r.sz + 1
theorem Tr.sz_pos (t : Tr) : 0 < t.sz := by cases t <;> simp [Tr.sz]
theorem Tr.sz_le : ∀ t : Tr, t.sz + 1 ≤ 2 ^ (t.deep + 1)
  | .num _ | .name _ | .im => by show 1 + 1 ≤ 2 ^ 1; decide
  | .root t | .neg t | .pow t _ => by
    have h := Tr.sz_le t
    have := Tr.sz_pos t
    show t.sz + 1 + 1 ≤ 2 ^ (t.deep + 1 + 1)
    rw [Nat.pow_succ]
    omega
  | .bin o l r => by
    have h1 := Tr.sz_le l
    have h2 := Tr.sz_le r
    have e1 : 2 ^ (l.deep + 1) ≤ 2 ^ (max l.deep r.deep + 1) := Nat.pow_le_pow_right (by decide) (by omega)
    have e2 : 2 ^ (r.deep + 1) ≤ 2 ^ (max l.deep r.deep + 1) := Nat.pow_le_pow_right (by decide) (by omega)
    show l.sz + r.sz + 1 + 1 ≤ 2 ^ (max l.deep r.deep + 1 + 1)
    rw [Nat.pow_succ]
    omega
def brk (b : Bool) (s : Str) : Str := if b then ("(" : Str) ++ s ++ (")" : Str) else s
def shownT : Tr → Int → Str
  | .num n, _ => toString n
  | .name x, _ => x
  | .im, _ => "i"
  | .root t, _ => ("root(" : Str) ++ shownT t 1 ++ (")" : Str)
  | .pow t e, l => brk (3 < l) (shownT t 4 ++ ("^" : Str) ++ (toString e : Str))
  | .neg t, l => brk (1 < l) (("-" : Str) ++ shownT t 2)
  | .bin o a b, l => brk (o.lvl < l) (shownT a o.lvl ++ o.sgn ++ shownT b (o.lvl + 1))
theorem brk_t {b : Bool} {s : Str} (h : b = true) : brk b s = ("(" : Str) ++ s ++ (")" : Str) := by subst h; rfl
theorem brk_f {b : Bool} {s : Str} (h : b = false) : brk b s = s := by subst h; rfl
/-- what the law draws -/
def GoodT : Tr → Prop
  | .num n => 0 ≤ n ∧ n < 10 ^ 40
  | .name x => nameB x = true
  | .im => True
  | .root t | .neg t => GoodT t
  | .pow t e => GoodT t ∧ 0 ≤ e ∧ e < 1000
  | .bin _ l r => GoodT l ∧ GoodT r
theorem num_len40 {n : Int} (h0 : 0 ≤ n) (h1 : n < 10 ^ 40) : (Str.ofString (toString n)).length ≤ 40 := by
  obtain ⟨m, rfl⟩ := Int.eq_ofNat_of_zero_le h0
  rw [show (Str.ofString (toString (m : Int))).length = (TL.tl (Str.ofString (toString (m : Int)))).length from TL.len_tl _, TL.tl_num]
  exact TL.numL_len (by decide) (by omega)
theorem num_len3 {n : Int} (h0 : 0 ≤ n) (h1 : n < 1000) : (Str.ofString (toString n)).length ≤ 3 := by
  obtain ⟨m, rfl⟩ := Int.eq_ofNat_of_zero_le h0
  rw [show (Str.ofString (toString (m : Int))).length = (TL.tl (Str.ofString (toString (m : Int)))).length from TL.len_tl _, TL.tl_num]
  exact TL.numL_len (by decide) (by omega)
theorem log40 {n : Int} (h0 : 0 ≤ n) (h1 : n < 10 ^ 40) : n.natAbs.log2 < 1920 := by
  by_cases h3 : n.natAbs = 0
  · rw [h3]; decide
  have h2 : n.natAbs < 2 ^ 134 := Nat.lt_of_lt_of_le (m := 10 ^ 40) (by omega) (by decide)
  exact Nat.lt_trans ((Nat.log2_lt h3).mpr h2) (by decide)
theorem name_len {x : Str} (h : nameB x = true) : x.length ≤ 8 := by
  unfold nameB at h
  simp only [Bool.and_eq_true, decide_eq_true_eq] at h
  exact h.1.1.1
theorem brk_len (b : Bool) (s : Str) : (brk b s).length ≤ s.length + 2 := by
  unfold brk
  split
  · rw [str_len_app, str_len_app]; show 1 + _ + 1 ≤ _; omega
  · omega
theorem shown_len : ∀ (t : Tr) (l : Int), GoodT t → (shownT t l).length ≤ 48 * t.sz
  | .num n, _, h => Nat.le_trans (num_len40 h.1 h.2) (by show 40 ≤ 48 * 1; decide)
  | .name x, _, h => Nat.le_trans (name_len h) (by show 8 ≤ 48 * 1; decide)
  | .im, _, _ => by show 1 ≤ 48; decide
  | .root t, _, h => by
    have := shown_len t 1 h
    show ((_ ++ _) ++ _ : Str).length ≤ 48 * (t.sz + 1)
    rw [str_len_app, str_len_app]
    show 5 + _ + 1 ≤ _
    omega
  | .neg t, l, h => by
    have := shown_len t 2 h
    refine Nat.le_trans (brk_len _ _) ?_
    rw [str_len_app]
    show 1 + _ + 2 ≤ 48 * (t.sz + 1)
    omega
  | .pow t e, l, h => by
    have := shown_len t 4 h.1
    have := num_len3 h.2.1 h.2.2
    refine Nat.le_trans (brk_len _ _) ?_
    rw [str_len_app, str_len_app]
    show _ + 1 + _ + 2 ≤ 48 * (t.sz + 1)
    omega
  | .bin o a b, l, h => by
    have := shown_len a o.lvl h.1
    have := shown_len b (o.lvl + 1) h.2
    have : o.sgn.length ≤ 3 := by cases o <;> decide
    refine Nat.le_trans (brk_len _ _) ?_
    rw [str_len_app, str_len_app]
    show _ + _ + _ + 2 ≤ 48 * (a.sz + b.sz + 1)
    omega
theorem shown_le {t : Tr} {l : Int} (h : GoodT t) (hd : t.deep ≤ 16) : (shownT t l).length ≤ 6400000 := by
  have h1 := shown_len t l h
  have h2 := t.sz_le
  have h3 : 2 ^ (t.deep + 1) ≤ 2 ^ 17 := Nat.pow_le_pow_right (by decide) (by omega)
  have h4 : (2 : Nat) ^ 17 = 131072 := by decide
  omega
def S_l_shown (n : Nat) : SpD := fun ds M q => ∃ t l, ds = [encT t, .int l] ∧ t.deep < n ∧ (GoodT t ∧ t.deep ≤ 16) ∧ q (.str (shownT t l)) M

/-! steps -/
inductive Step where | num (n : Int) | name (x : Str) | im | root | neg | pow (e : Int) | bin (o : Bn)
  deriving DecidableEq
def encS : Step → D
  | .num n => .tup [.str "number", .int n]
  | .name x => .tup [.str "name", .str x]
  | .im => .tup [.str "i"]
  | .root => .tup [.str "root"]
  | .neg => .tup [.str "neg"]
  | .pow e => .tup [.str "^", .int e]
  | .bin o => .tup [.str o.tok]
def stepsT : Tr → List Step
  | .num n => [.num n]
  | .name x => [.name x]
  | .im => [.im]
  | .root t => stepsT t ++ [.root]
  | .neg t => stepsT t ++ [.neg]
  | .pow t e => stepsT t ++ [.pow e]
  | .bin o l r => stepsT l ++ stepsT r ++ [.bin o]
theorem steps_len : ∀ t : Tr, (stepsT t).length = t.sz
  | .num n => rfl
  | .name x => rfl
  | .im => rfl
  | .root t | .neg t | .pow t _ => by
    show (_ ++ _ : List Step).length = t.sz + 1
    rw [List.length_append, steps_len t]
    rfl
  | .bin o l r => by
    show (_ ++ _ ++ _ : List Step).length = _
    rw [List.length_append, List.length_append, steps_len l, steps_len r]
    rfl
theorem sz_le {t : Tr} (hd : t.deep ≤ 16) : t.sz ≤ 131072 := by
  have h2 := t.sz_le
  have h3 : 2 ^ (t.deep + 1) ≤ 2 ^ 17 := Nat.pow_le_pow_right (by decide) (by omega)
  have h4 : (2 : Nat) ^ 17 = 131072 := by decide
  omega
def S_l_steps (n : Nat) : SpD := fun ds M q => ∃ t, ds = [encT t] ∧ t.deep < n ∧ t.deep ≤ 16 ∧ q (.lst ((stepsT t).map encS)) M
/-! names, counts -/
def namesT : Tr → List Str
  | .num _ | .im => []
  | .name x => [x]
  | .root t | .neg t | .pow t _ => namesT t
  | .bin _ l r => namesT l ++ (namesT r).filter fun s => !(namesT l).contains s
theorem names_len : ∀ t : Tr, (namesT t).length ≤ t.sz
  | .num n | .im => Nat.zero_le _
  | .name x => Nat.le_refl _
  | .root t | .neg t | .pow t _ => Nat.le_trans (names_len t) (Nat.le_succ _)
  | .bin o l r => by
    show (namesT l ++ _).length ≤ l.sz + r.sz + 1
    rw [List.length_append]
    have := names_len l
    have := names_len r
    have := List.length_filter_le (fun s => !(namesT l).contains s) (namesT r)
    omega
theorem all_free (L : List Str) : L.filter (fun w => !([] : List Str).contains w) = L := by
  rw [List.filter_eq_self]
  intro a _
  rfl
def S_l_names_of (n : Nat) : SpD := fun ds M q => ∃ t, ds = [encT t] ∧ t.deep < n ∧ t.deep ≤ 16 ∧ q (.lst ((namesT t).map .str)) M
/-- root or i -/
def tagT : Tr → Str
  | .num _ => "num" | .name _ => "name" | .im => "i" | .root _ => "root" | .neg _ => "neg" | .pow _ _ => "pow" | .bin o _ _ => o.tag
def manyT (s : Str) : Tr → Nat
  | .num n => if tagT (.num n) = s then 1 else 0
  | .name n => if tagT (.name n) = s then 1 else 0
  | .im => if tagT .im = s then 1 else 0
  | .root t => (if tagT (.root t) = s then 1 else 0) + manyT s t
  | .neg t => (if tagT (.neg t) = s then 1 else 0) + manyT s t
  | .pow t e => (if tagT (.pow t e) = s then 1 else 0) + manyT s t
  | .bin o l r => (if tagT (.bin o l r) = s then 1 else 0) + (manyT s l + manyT s r)
theorem encT_tag (t : Tr) : ∃ ds, encT t = .tup (.str (tagT t) :: ds) := by cases t <;> exact ⟨_, rfl⟩
def S_l_many (n : Nat) : SpD := fun ds M q => ∃ t s, ds = [encT t, .str s] ∧ t.deep < n ∧ q (.int (manyT s t)) M
def putT (f : Str → Option Tr) : Tr → Tr
  | .num n => .num n
  | .name x => (f x).getD (.name x)
  | .im => .im
  | .root t => .root (putT f t)
  | .neg t => .neg (putT f t)
  | .pow t e => .pow (putT f t) e
  | .bin o l r => .bin o (putT f l) (putT f r)
/-- a dict of trees -/
def dctT (es : List (Str × Tr)) : List (Key × D) := es.map fun e => (.inr e.1, encT e.2)
theorem getKD_dctT (es : List (Str × Tr)) (x : Str) : getKD (dctT es) (.inr x) = (es.lookup x).map encT := by
  unfold getKD dctT
  induction es with
  | nil => rfl
  | cons e es ih =>
    obtain ⟨y, t⟩ := e
    rw [List.map_cons, List.find?_cons, List.lookup_cons]
    by_cases h : y = x
    · subst h
      simp
    · have h1 : decide ((Sum.inr y : Key) = Sum.inr x) = false := decide_eq_false fun z => h (Sum.inr.inj z)
      have h2 : (x == y) = false := by simpa using fun z => h z.symm
      simp only [h1, h2]
      exact ih
def S_l_put (n : Nat) : SpD := fun ds M q => ∃ t a es, ds = [encT t, .ptr a] ∧ t.deep < n ∧ M a = some (.dct (dctT es)) ∧ q (encT (putT (fun x => es.lookup x) t)) M
end D2

set_option maxRecDepth 100000
set_option maxHeartbeats 400000
namespace D2
open PySem PySem.Spec PyProof.Rows L2

/-! ### a written dict of constants -/
inductive PDKs (X : Cx) : List (Option Expr) → List Expr → List (TE × TE) → List (Key × D) → Prop where
  | nil : PDKs X [] [] [] []
  | cons {k v : Expr} {ks : List (Option Expr)} {vs : List Expr} {tk tv : TE} {ts : List (TE × TE)} {es : List (Key × D)} (kk : Key) {d : D} (hk : PDE X k tk (wC (dKey kk))) (hv : PDE X v tv (wC d)) (r : PDKs X ks vs ts es) : PDKs X (some k :: ks) (v :: vs) ((tk, tv) :: ts) ((kk, d) :: es)
theorem PDKs.pps {X : Cx} {pos : Pos} {ks : List (Option Expr)} {vs : List Expr} {ts : List (TE × TE)} {es : List (Key × D)} (h : PDKs X ks vs ts es) : PPs X pos ks vs ts := by
  induction h with
  | nil => exact pps_nil
  | cons kk hk hv r ih => exact pps_cons hk.pe hv.pe ih
theorem key_of {K : W.Frag} {F : Hp} {v : V} {k : Key} (h : Is K F v (dKey k)) : v = kV k := by
  cases k <;> (cases h; rfl)
theorem pairs_sd {X : Cx} {Γ : Ga} {ks : List (Option Expr)} {vs : List Expr} {ts : List (TE × TE)} {es : List (Key × D)} (h : PDKs X ks vs ts es) : ∀ (F : Hp) (M : Mem) (σ : L2.St) (H : Hp) (R : List (V × V) → Hp → Prop), Sat X.K F M H → Loc X.K F σ Γ →
    (∀ F' kvs H', Same F F' → Sat X.K F' M H' → Loc X.K F' σ Γ → IsKs X.K F' kvs es → R (kvs.map fun kv => (kV kv.1, kv.2)) H') → tPairs ts σ H R := by
  induction h with
  | nil => exact fun F M σ H R s l k => k F [] H (Same.refl F) s l .nil
  | @cons kx vx ks vs tk tv ts es kk d hk hv r ih =>
    intro F M σ H R s l k
    have q1 : DE X.K tk Γ M fun x Γ1 M1 => x = dKey kk ∧ Γ1 = Γ ∧ M1 = M := hk.sd _ _ _ ⟨rfl, rfl, rfl⟩
    refine q1 F σ H _ s l fun F1 v H1 x Γ1 M1 e1 s1 l1 i1 ⟨ex, eg, em⟩ => ?_
    subst ex; subst eg; subst em
    have q2 : DE X.K tv Γ1 M1 fun x Γ2 M2 => x = d ∧ Γ2 = Γ1 ∧ M2 = M1 := hv.sd _ _ _ ⟨rfl, rfl, rfl⟩
    refine q2 F1 σ H1 _ s1 l1 fun F2 v2 H2 x Γ2 M2 e2 s2 l2 i2 ⟨ex, eg, em⟩ => ?_
    subst ex; subst eg; subst em
    refine ih F2 M2 σ H2 _ s2 l2 fun F3 kvs H3 e3 s3 l3 rel => ?_
    have := key_of i1
    subst this
    exact k F3 ((kk, v2) :: kvs) H3 ((e1.trans e2).trans e3) s3 l3 (.cons (i2.mono e3) rel)
def mergeKD (es more : List (Key × D)) : List (Key × D) := more.foldl (fun acc kv => putKD acc kv.1 kv.2) es
theorem isKs_merge {K : W.Frag} {F : Hp} : ∀ {more : List (Key × V)} {ms : List (Key × D)} {kvs : List (Key × V)} {es : List (Key × D)}, IsKs K F more ms → IsKs K F kvs es → IsKs K F (mergeK kvs more) (mergeKD es ms)
  | _, _, _, _, .nil, q => q
  | _, _, kvs, es, .cons (n := n) (v := v) (d := d) (vs := vs) (ds := ds) h r, q => by
    have z := isKs_merge (kvs := putK kvs n v) (es := putKD es n d) r (isKs_put h q)
    exact z
theorem isKs_mono {K : W.Frag} {F F' : Hp} (e : Same F F') {v : List (Key × V)} {d : List (Key × D)} (h : IsKs K F v d) : IsKs K F' v d := IsKs.mono e h
def wDisp (es : List (Key × D)) : WE := fun Γ M Q => Q (.dct (mergeKD [] es)) Γ M
theorem pd_disp {X : Cx} {pos : Pos} {ks : List (Option Expr)} {vs : List Expr} {ts : List (TE × TE)} {es : List (Key × D)} (h : PDKs X ks vs ts es) (hall : ks.all (·.isSome) = true) (hl : ks.length = vs.length) (h0 : ks ≠ []) (h15 : ks.length ≤ 15) (h15' : es.length ≤ 15) :
    PDE X (.Dict ks vs pos) (tDisp ts) (wDisp es) := ⟨pe_disp h.pps hall hl h0 h15, fun Γ M Q q F σ H R s l k => fun p hp => by
  have hM := (s.none_of hp).2
  have s1 : Sat X.K F (M.put p (.dct [])) (upd H p (.dK [])) := s.newCell (m := .dct []) hp ⟨[], upd_same, .nil⟩
  refine pairs_sd (Γ := Γ) h F _ σ _ _ s1 l fun F1 kvs H1 e1 s2 l1 rel => ?_
  obtain ⟨hn, kvs0, ho, r0⟩ := s2.cell p _ Mem.put_same
  cases r0
  refine ⟨ho, kvs, rfl, by rw [isKs_length rel]; exact h15', ?_⟩
  have z := s2.put (o := .dK (mergeK [] kvs)) (m' := .dct (mergeKD [] es)) Mem.put_same ⟨_, upd_same, isKs_merge rel .nil⟩
  rw [Mem.put_put] at z
  have sm : Same F1 (upd F1 p (.dK (mergeK [] kvs))) := same_upd hn
  have z2 := z.freeze upd_same hn
  rw [Mem.put_del hM] at z2
  exact k _ (.ref p) _ (.dct (mergeKD [] es)) Γ _ (e1.trans sm) z2 (l1.mono sm) (.dct upd_same (isKs_mono sm (isKs_merge rel .nil))) q⟩

section
variable {X : Cx} {o i : Expr} {to ti : TE} {wo wi : WE} {pos : Pos}
theorem pdt_din (hu : X.A.units + 1 < cLine) (hi : PDE X i ti wi) (ho : PDE X o to wo) (h1 : behindInMarks .In o = false := by rfl) : PDT X (.Compare i [.In] [o] pos) (tB (tDIn ti to)) (wB (wDIn wi wo)) :=
  ⟨pt_cmp (pc_din hu hi.pe ho.pe) h1, fun Γ M Q q => dt_b ((din_sd hi.sd ho.sd (Q := fun d Γ1 M1 => isBl d fun b => Q b Γ1 M1) q).imp fun _ _ _ q => isBl_of q)⟩
end

section
variable {X : Cx} {o i e : Expr} {to ti te : TE} {wo wi we : WE} {pos pos' : Pos}
theorem pds_dputW (hu : X.A.units + 1 < cLine) (ho : PDE X o to wo) (hi : PDE X i ti wi) (hv : PDE X e te we) (hs : swapsWith e (some (.Subscript o i pos')) pos.line X.env = pure false := by rfl) : PDS X (.Assign [.Subscript o i pos'] e pos) (sDPut to ti te) (wDPut wo wi we) :=
  pds_dput hu ho hi hv hs (ps_dput hu ho.pe hi.pe hv.pe hs)
end

/-! ### {k: v for ..} -/
def dcL (g : WG) (c : WT) (wk we : WE) (Γ : Ga) (k : List (Key × D) → Mem → Prop) (p : Addr) : List D → List (Key × D) → Mem → Prop
  | [], acc, M => k acc M
  | d :: ds, acc, M => g d Γ (M.put p (.dct acc)) fun Γ2 M2 => c Γ2 M2 fun b Γ3 M3 => wite b (wk Γ3 M3 fun y Γ4 M4 => we Γ4 M4 fun z _ M5 => match keyD y with
      | some kk => ∃ M6 : Mem, M6 p = none ∧ M5 = M6.put p (.dct acc) ∧ dcL g c wk we Γ k p ds (putKD acc kk z) M6
      | none => False)
      (∃ M5 : Mem, M5 p = none ∧ M3 = M5.put p (.dct acc) ∧ dcL g c wk we Γ k p ds acc M5)
def wDc (wi : WA) (g : WG) (c : WT) (wk we : WE) : WE := fun Γ M Q => wi Γ M fun ds Γ1 M1 => ds.length ≤ sizeLine ∧ ∀ p, M1 p = none → dcL g c wk we Γ1 (fun acc M' => Q (.dct acc) Γ1 M') p ds [] M1
theorem putKD_len (es : List (Key × D)) (k : Key) (d : D) : (putKD es k d).length ≤ es.length + 1 := by
  unfold putKD
  split
  · rw [List.length_map]; omega
  · rw [List.length_append]; exact Nat.le_refl _
section
variable {K : W.Frag} {Γ : Ga} {M : Mem} {Q : KE} {wi : TI} {g : TG} {tt : TT} {tk te : TE} {vs : List Nat} {gw : WG} {cw : WT} {kw we : WE}
theorem dc_ok (sg : ∀ d Γ M Q, gw d Γ M Q → DGc K g vs d Γ M Q) (sc : ∀ Γ M Q, cw Γ M Q → DT K tt Γ M Q) (sk : ∀ Γ M Q, kw Γ M Q → DE K tk Γ M Q) (se : ∀ Γ M Q, we Γ M Q → DE K te Γ M Q)
    (h : DI K wi Γ M fun ds Γ1 M1 => ds.length ≤ sizeLine ∧ ∀ p, M1 p = none → dcL gw cw kw we Γ1 (fun acc M' => Q (.dct acc) Γ1 M') p ds [] M1) : DE K (tDc wi g tt tk te vs) Γ M Q := fun F σ H R s l k => by
  refine h F σ H _ s l fun F1 J H1 ds Γ1 M1 e1 s1 l1 w q p hp => ?_
  obtain ⟨hz, q⟩ := q
  have hM := (s1.none_of hp).2
  have q0 := q p hM
  have start : Sat K F1 (M1.put p (.dct [])) (upd H1 p (.dK [])) := s1.newCell hp ⟨[], upd_same, .nil⟩
  refine ⟨fun i m H' => m = ds.length - i ∧ i ≤ ds.length ∧ ∃ F' acc M', Same F1 F' ∧ M' p = none ∧ Sat K F' (M'.put p (.dct acc)) H' ∧ acc.length ≤ i ∧ dcL gw cw kw we Γ1 (fun acc M' => Q (.dct acc) Γ1 M') p (ds.drop i) acc M', ⟨_, rfl, Nat.zero_le _, F1, [], M1, Same.refl F1, hM, start, Nat.le_refl _, q0⟩, ?_⟩
  rintro i m H' ⟨rfl, hi, F', acc, M', e', hM', s', ha, iv⟩
  by_cases hlt : i < ds.length
  · have hd : ds[i]? = some ds[i] := List.getElem?_eq_getElem hlt
    have e2 : ds.drop i = ds[i] :: ds.drop (i + 1) := List.drop_eq_getElem_cons hlt
    rw [e2] at iv
    obtain ⟨hg, hy⟩ := w.go F' _ H' i _ e' s' hd
    refine .inr ⟨hg, fun H2 => ∃ F' acc M', Same F1 F' ∧ M' p = none ∧ Sat K F' (M'.put p (.dct acc)) H2 ∧ acc.length ≤ i + 1 ∧ dcL gw cw kw we Γ1 (fun acc M' => Q (.dct acc) Γ1 M') p (ds.drop (i + 1)) acc M', fun H2 ⟨F2, acc2, M2, a, b, c, d, e⟩ => ⟨ds.length - (i + 1), by omega, rfl, hlt, F2, acc2, M2, a, b, c, d, e⟩, fun x H2 yl => ?_⟩
    obtain ⟨F2, e2, s2, is2⟩ := hy x H2 yl
    refine sg _ _ _ _ iv F2 σ H2 x _ s2 (l1.mono (e'.trans e2)) is2 fun F3 σ3 H3 Γ3 M3 e3 s3 l3 hw q3 => ⟨hw, ?_⟩
    refine sc _ _ _ q3 F3 σ3 H3 _ s3 l3 fun F4 b H4 Γ4 M4 e4 s4 l4 q4 => ?_
    have e14 : Same F1 F4 := ((e'.trans e2).trans e3).trans e4
    cases b with
    | true =>
      refine sk _ _ _ ((if_and q4).1 rfl) F4 σ3 H4 _ s4 l4 fun F5 y H5 dy Γ5 M5 e5 s5 l5 iy q5 => ?_
      refine se _ _ _ q5 F5 σ3 H5 _ s5 l5 fun F6 z H6 dz Γ6 M6 e6 s6 l6 iz q6 => ?_
      split at q6
      · rename_i kk hk
        obtain ⟨M7, hM7, rfl, q7⟩ := q6
        obtain ⟨hF, kvs, hx, ix⟩ := s6.cell p _ Mem.put_same
        have hlen : kvs.length = acc.length := isKs_length ix
        refine ⟨kvs, kk, key_is iy hk, hx, by rw [hlen]; omega, F6, putKD acc kk dz, M7, (e14.trans e5).trans e6, hM7, ?_, by have := putKD_len acc kk dz; omega, q7⟩
        have zz := s6.put (o := .dK (putK kvs kk z)) (m' := .dct (putKD acc kk dz)) Mem.put_same ⟨_, upd_same, isKs_put iz ix⟩
        rw [Mem.put_put] at zz
        exact zz
      · exact q6.elim
    | false =>
      obtain ⟨M6, hM6, rfl, q6⟩ := (if_and q4).2 rfl
      exact ⟨F4, acc, M6, e14, hM6, s4, by omega, q6⟩
  · have ei : i = ds.length := by omega
    subst ei
    rw [List.drop_length] at iv
    obtain ⟨hn, xs, ho, hx⟩ := s'.cell p _ Mem.put_same
    have sm : Same F' (upd F' p (.dK xs)) := same_upd hn
    have z := s'.freeze ho hn
    rw [Mem.put_del hM'] at z
    exact .inl ⟨w.stop F' _ H' e' s', k _ (.ref p) H' (.dct acc) Γ1 _ ((e1.trans e').trans sm) z ((l1.mono e').mono sm) (.dct upd_same (isKs_mono sm hx)) iv⟩
end
section
variable {X : Cx} {kx vx tg iter : Expr} {ifs : List Expr} {scope : Scope} {own : List (Str × Nat)} {pos : Pos} {wi : TI} {g : TG} {tt : TT} {tk te : TE} {ww : WA} {gw : WG} {cw : WT} {kw we : WE}
theorem pd_dc (hc : X.calm = true) (hN : X.N.Nodup) (hi : PDI X tg iter wi ww) (ok : BlkOk X.N X.env.scope scope own)
    (hg : ∀ (s : Shared) (H : Hp) (C : Addr) (cl : List (Str × Addr)) (fp : List Addr), PG (X.blk s H scope (compEnvC scope cl C X.env) fp) tg g) (hgd : PDGc X.K g (own.map (·.2)) gw)
    (ht : ∀ (s : Shared) (H : Hp) (C : Addr) (cl : List (Str × Addr)) (fp : List Addr), PDTs (X.blk s H scope (compEnvC scope cl C X.env) fp) ifs tt cw)
    (hk : ∀ (s : Shared) (H : Hp) (C : Addr) (cl : List (Str × Addr)) (fp : List Addr), PDE (X.blk s H scope (compEnvC scope cl C X.env) fp) kx tk kw)
    (he : ∀ (s : Shared) (H : Hp) (C : Addr) (cl : List (Str × Addr)) (fp : List Addr), PDE (X.blk s H scope (compEnvC scope cl C X.env) fp) vx te we) (hs : ∀ x, foldedSetIterable iter X.env x = pure x := by intro _; rfl) :
    PDE X (.DictComp kx vx [⟨tg, iter, ifs, 0⟩] scope pos) (tDc wi g tt tk te (own.map (·.2))) (wDc ww gw cw kw we) :=
  ⟨pe_dc hc hN hi.pi ok hg (fun s H C cl fp => (ht s H C cl fp).pt) (fun s H C cl fp => (hk s H C cl fp).pe) (fun s H C cl fp => (he s H C cl fp).pe) hs, fun Γ M Q q =>
    dc_ok hgd.sd (ht X.s_0 X.H_0 0 [] []).sd (hk X.s_0 X.H_0 0 [] []).sd (he X.s_0 X.H_0 0 [] []).sd (hi.sd _ _ _ q)⟩
end
end D2

set_option maxRecDepth 100000
set_option maxHeartbeats 400000
namespace D2
open PySem PySem.Spec PyProof.Rows L2
/-! ### trees as data to compare -/
def pdT : Tr → PyData
  | .num n => .tuple [.str "num", .int n]
  | .name x => .tuple [.str "name", .str x]
  | .im => .tuple [.str "i"]
  | .root t => .tuple [.str "root", pdT t]
  | .neg t => .tuple [.str "neg", pdT t]
  | .pow t e => .tuple [.str "pow", pdT t, .int e]
  | .bin o l r => .tuple [.str o.tag, pdT l, pdT r]
theorem pd_T : ∀ t : Tr, Pd (encT t) (pdT t)
  | .num n => .tup (.cons (.str _) (.cons (.int _) .nil))
  | .name x => .tup (.cons (.str _) (.cons (.str _) .nil))
  | .im => .tup (.cons (.str _) .nil)
  | .root t | .neg t => .tup (.cons (.str _) (.cons (pd_T t) .nil))
  | .pow t e => .tup (.cons (.str _) (.cons (pd_T t) (.cons (.int _) .nil)))
  | .bin o l r => .tup (.cons (.str _) (.cons (pd_T l) (.cons (pd_T r) .nil)))
theorem name_strOk {x : Str} (h : nameB x = true) : PyData.strOk x = true := by
  unfold nameB at h
  simp only [Bool.and_eq_true] at h
  have h1 := h.2
  unfold PyData.strOk
  rw [← Array.all_toList]
  rw [List.all_eq_true] at h1 ⊢
  intro c hc
  have h2 := h1 c hc
  have h3 : ∀ c ∈ sgnsS.cps.toList, decide (c < 0x110000) = true := by decide +kernel
  exact h3 c (of_decide_eq_true h2)
theorem canLay_T : ∀ t : Tr, GoodT t → (pdT t).canLay0 = true
  | .num n, _ => by show (PyData.strOk "num" && (true && true)) = true; decide +kernel
  | .name x, h => by
    show (PyData.strOk "name" && (PyData.strOk x && true)) = true
    rw [name_strOk h]
    decide +kernel
  | .im, _ => by show (PyData.strOk "i" && true) = true; decide +kernel
  | .root t, h => by
    show (PyData.strOk "root" && ((pdT t).canLay0 && true)) = true
    rw [canLay_T t h]
    decide +kernel
  | .neg t, h => by
    show (PyData.strOk "neg" && ((pdT t).canLay0 && true)) = true
    rw [canLay_T t h]
    decide +kernel
  | .pow t e, h => by
    show (PyData.strOk "pow" && ((pdT t).canLay0 && (true && true))) = true
    rw [canLay_T t h.1]
    decide +kernel
  | .bin o l r, h => by
    show (PyData.strOk o.tag && ((pdT l).canLay0 && ((pdT r).canLay0 && true))) = true
    rw [canLay_T l h.1, canLay_T r h.2]
    cases o <;> decide +kernel
theorem depth_T : ∀ t : Tr, (pdT t).depth ≤ t.deep + 1
  | .num n => by simp [pdT, PyData.depth, PyData.depthAll]
  | .name n => by simp [pdT, PyData.depth, PyData.depthAll]
  | .im => by simp [pdT, PyData.depth, PyData.depthAll]
  | .root t | .neg t | .pow t e => by
    have := depth_T t
    simp only [pdT, PyData.depth, PyData.depthAll, Tr.deep]
    omega
  | .bin o l r => by
    have := depth_T l
    have := depth_T r
    simp only [pdT, PyData.depth, PyData.depthAll, Tr.deep]
    omega
theorem shaped_T {t : Tr} (h : GoodT t) (hd : t.deep ≤ 16) : SeqAt.shaped (pdT t) = true := by
  unfold SeqAt.shaped
  have := depth_T t
  rw [canLay_T t h, decide_eq_true (by omega)]
  rfl
theorem and_l {a b : Bool} (h : (a && b) = true) : a = true := by cases a <;> first | rfl | exact h
theorem and_r {a b : Bool} (h : (a && b) = true) : b = true := by
  cases a
  · exact Bool.noConfusion h
  · exact h
def argsT : Tr → List PyData
  | .num n => [.int n]
  | .name x => [.str x]
  | .im => []
  | .root t | .neg t => [pdT t]
  | .pow t e => [pdT t, .int e]
  | .bin o l r => [pdT l, pdT r]
theorem pdT_eq (t : Tr) : pdT t = .tuple (.str (tagT t) :: argsT t) := by cases t <;> rfl
theorem eqv_eq (a b : Tr) : PyData.eqv (pdT a) (pdT b) = (tagT a == tagT b && PyData.eqvAll (argsT a) (argsT b)) := by
  rw [pdT_eq a, pdT_eq b]
  simp only [PyData.eqv, PyData.eqvAll]
theorem tag_of {a b : Tr} (h : PyData.eqv (pdT a) (pdT b) = true) : tagT a = tagT b := by
  rw [eqv_eq] at h
  exact eq_of_beq (and_l h)
theorem args_of {a b : Tr} (h : PyData.eqv (pdT a) (pdT b) = true) : PyData.eqvAll (argsT a) (argsT b) = true := by
  rw [eqv_eq] at h
  exact and_r h
theorem tag_inj {a b : Bn} (h : a.tag = b.tag) : a = b := by
  cases a <;> cases b <;> first | rfl | exact absurd h (by decide)
theorem eqv_of : ∀ a b : Tr, PyData.eqv (pdT a) (pdT b) = true → a = b := by
  intro a
  induction a with
  | num n =>
    intro b h
    have ht := tag_of h
    have h2 := args_of h
    cases b with
    | num m => simp only [argsT, PyData.eqvAll, PyData.eqv, Bool.and_eq_true, beq_iff_eq, and_true] at h2; rw [h2]
    | bin o l r => cases o <;> (simp only [tagT, Bn.tag] at ht; exact absurd ht (by decide))
    | _ => simp only [tagT] at ht; exact absurd ht (by decide)
  | name n =>
    intro b h
    have ht := tag_of h
    have h2 := args_of h
    cases b with
    | name m => simp only [argsT, PyData.eqvAll, PyData.eqv, Bool.and_eq_true, beq_iff_eq, and_true] at h2; rw [h2]
    | bin o l r => cases o <;> (simp only [tagT, Bn.tag] at ht; exact absurd ht (by decide))
    | _ => simp only [tagT] at ht; exact absurd ht (by decide)
  | im =>
    intro b h
    have ht := tag_of h
    have h2 := args_of h
    cases b with
    | im => rfl
    | bin o l r => cases o <;> (simp only [tagT, Bn.tag] at ht; exact absurd ht (by decide))
    | _ => simp only [tagT] at ht; exact absurd ht (by decide)
  | root t ih =>
    intro b h
    have ht := tag_of h
    have h2 := args_of h
    cases b with
    | root u => simp only [argsT, PyData.eqvAll, Bool.and_eq_true, and_true] at h2; rw [ih u h2]
    | bin o l r => cases o <;> (simp only [tagT, Bn.tag] at ht; exact absurd ht (by decide))
    | _ => simp only [tagT] at ht; exact absurd ht (by decide)
  | neg t ih =>
    intro b h
    have ht := tag_of h
    have h2 := args_of h
    cases b with
    | neg u => simp only [argsT, PyData.eqvAll, Bool.and_eq_true, and_true] at h2; rw [ih u h2]
    | bin o l r => cases o <;> (simp only [tagT, Bn.tag] at ht; exact absurd ht (by decide))
    | _ => simp only [tagT] at ht; exact absurd ht (by decide)
  | pow t e ih =>
    intro b h
    have ht := tag_of h
    have h2 := args_of h
    cases b with
    | pow u f => simp only [argsT, PyData.eqvAll, Bool.and_eq_true, and_true] at h2; rw [ih u h2.1]; have h3 := h2.2; simp only [PyData.eqv, beq_iff_eq] at h3; rw [h3]
    | bin o l r => cases o <;> (simp only [tagT, Bn.tag] at ht; exact absurd ht (by decide))
    | _ => simp only [tagT] at ht; exact absurd ht (by decide)
  | bin o l r ih1 ih2 =>
    intro b h
    have ht := tag_of h
    have h2 := args_of h
    cases b with
    | bin o2 l2 r2 => simp only [argsT, PyData.eqvAll, Bool.and_eq_true, and_true] at h2; rw [ih1 l2 h2.1, ih2 r2 h2.2, tag_inj ht]
    | _ => cases o <;> (simp only [tagT, Bn.tag] at ht; exact absurd ht (by decide))
theorem and_i {a b : Bool} (h1 : a = true) (h2 : b = true) : (a && b) = true := by rw [h1, h2]; rfl
theorem eqv_refl (a : Tr) : PyData.eqv (pdT a) (pdT a) = true := by
  induction a with
  | _ => rw [eqv_eq]; refine and_i (beq_self_eq_true _) ?_; simp_all [argsT, PyData.eqvAll, PyData.eqv]
theorem eqv_T (a b : Tr) : PyData.eqv (pdT a) (pdT b) = decide (a = b) := by
  by_cases h : a = b
  · rw [decide_eq_true h, h, eqv_refl]
  · rw [decide_eq_false h]
    cases e : PyData.eqv (pdT a) (pdT b) with
    | false => rfl
    | true => exact absurd (eqv_of a b e) h

theorem pds_strs : ∀ l : List Str, Pds (l.map .str) (l.map .str)
  | [] => .nil
  | x :: l => .cons (.str x) (pds_strs l)
theorem shaped_strs (l : List Str) (h : ∀ x ∈ l, PyData.strOk x = true) : SeqAt.shaped (.list (l.map .str)) = true := by
  have h1 : PyData.canLayAll0 (l.map .str) = true := by
    induction l with
    | nil => rfl
    | cons x l ih =>
      show (PyData.strOk x && PyData.canLayAll0 (l.map .str)) = true
      rw [h x (List.mem_cons_self ..), ih fun y hy => h y (List.mem_cons_of_mem _ hy)]
      rfl
  have h2 : PyData.depthAll (l.map .str) = 0 := by
    clear h h1
    induction l with
    | nil => rfl
    | cons x l ih =>
      show max 0 (PyData.depthAll (l.map .str)) = 0
      rw [ih]
      rfl
  unfold SeqAt.shaped
  show (PyData.canLayAll0 (l.map .str) && decide (PyData.depthAll (l.map .str) + 1 ≤ 64)) = true
  rw [h1, h2]
  rfl
theorem eqv_nil (l : List Str) : PyData.eqv (.list (l.map .str)) (.list []) = l.isEmpty := by
  cases l <;> simp [PyData.eqv, PyData.eqvAll]
/-! ### tokens -/
def runS : Str := "abcdefghijklmnopqrstuvwxyzABCDEFGHIJKLMNOPQRSTUVWXYZ0123456789"
def runC (c : Nat) : Bool := decide (c ∈ runS.cps.toList)
/-- the tokens of a text, with their places -/
def tokF : Nat → Nat → List Nat → List (Str × Nat)
  | 0, _, _ => []
  | _ + 1, _, [] => []
  | n + 1, k, c :: cs =>
    if runC c then (⟨(c :: cs.takeWhile runC).toArray⟩, k) :: tokF n (k + 1 + (cs.takeWhile runC).length) (cs.drop (cs.takeWhile runC).length)
    else if c = 32 then tokF n (k + 1) cs else (⟨#[c]⟩, k) :: tokF n (k + 1) cs
def tokL (s : Str) : List (Str × Nat) := tokF (s.cps.toList.length + 1) 0 s.cps.toList
def RunW (w : Str) : Prop := w.cps.toList ≠ [] ∧ ∀ c ∈ w.cps.toList, runC c = true
/-- the signs of formulas -/
def symC (c : Nat) : Bool := decide (c ∈ [40, 41, 42, 43, 45, 47, 94])
theorem sym_run {c : Nat} (h : symC c = true) : runC c = false ∧ c ≠ 32 := by
  have h1 : c ∈ [40, 41, 42, 43, 45, 47, 94] := of_decide_eq_true h
  have : ∀ c ∈ [40, 41, 42, 43, 45, 47, 94], runC c = false ∧ c ≠ 32 := by decide +kernel
  exact this c h1
/-- tokens in a text with blanks: whether a run ends just before, and at the end -/
inductive Sp : Bool → List Str → List Nat → Bool → Prop
  | nil (b : Bool) : Sp b [] [] b
  | sp {b e : Bool} {ts : List Str} {cs : List Nat} : Sp false ts cs e → Sp b ts (32 :: cs) e
  | sym {b e : Bool} {ts : List Str} {cs : List Nat} (c : Nat) : symC c = true → Sp false ts cs e → Sp b (⟨#[c]⟩ :: ts) (c :: cs) e
  | run {e : Bool} {ts : List Str} {cs : List Nat} (w : Str) : RunW w → Sp true ts cs e → Sp false (w :: ts) (w.cps.toList ++ cs) e
theorem Sp.append {a b e : Bool} {t1 t2 : List Str} {c1 c2 : List Nat} (h : Sp a t1 c1 b) (g : Sp b t2 c2 e) : Sp a (t1 ++ t2) (c1 ++ c2) e := by
  induction h with
  | nil => exact g
  | sp h ih => exact .sp (ih g)
  | sym c hc h ih => exact .sym c hc (ih g)
  | run w hw h ih => rw [List.append_assoc]; exact .run w hw (ih g)
theorem Sp.weak {a e : Bool} {t : List Str} {c : List Nat} (h : Sp a t c e) (ha : a = true) (e' : Bool) : ∃ e', Sp false t c e' := by
  cases h with
  | nil => exact ⟨_, .nil false⟩
  | sp h => exact ⟨_, .sp h⟩
  | sym c hc h => exact ⟨_, .sym c hc h⟩
  | run w hw h => exact ⟨_, .run w hw h⟩
/-- behind a run no run starts -/
theorem Sp.head {t : List Str} {c : List Nat} {e : Bool} (h : Sp true t c e) : c.takeWhile runC = [] := by
  cases h with
  | nil => rfl
  | sp h => exact List.takeWhile_cons_of_neg (by decide +kernel)
  | sym c hc h => exact List.takeWhile_cons_of_neg (by rw [(sym_run hc).1]; exact Bool.noConfusion)
theorem takeWhile_run {l r : List Nat} (h : ∀ c ∈ l, runC c = true) (hr : r.takeWhile runC = []) : (l ++ r).takeWhile runC = l := by
  induction l with
  | nil => exact hr
  | cons a l ih =>
    rw [List.cons_append, List.takeWhile_cons_of_pos (h a (List.mem_cons_self ..)), ih fun c hc => h c (List.mem_cons_of_mem _ hc)]
theorem tok_sp {a e : Bool} {ts : List Str} {cs : List Nat} (h : Sp a ts cs e) : ∀ n k, cs.length < n → (tokF n k cs).map (·.1) = ts := by
  induction h with
  | nil => intro n k hn; cases n <;> rfl
  | @sp b e ts cs h ih =>
    intro n k hn
    cases n with
    | zero => exact absurd hn (Nat.not_lt_zero _)
    | succ n =>
      unfold tokF
      rw [if_neg (by decide +kernel), if_pos rfl]
      exact ih n _ (by simp only [List.length_cons] at hn; omega)
  | @sym b e ts cs c hc h ih =>
    intro n k hn
    cases n with
    | zero => exact absurd hn (Nat.not_lt_zero _)
    | succ n =>
      unfold tokF
      rw [if_neg (by rw [(sym_run hc).1]; exact Bool.noConfusion), if_neg (sym_run hc).2, List.map_cons, ih n _ (by simp only [List.length_cons] at hn; omega)]
  | @run e ts cs w hw h ih =>
    intro n k hn
    cases n with
    | zero => exact absurd hn (Nat.not_lt_zero _)
    | succ n =>
      obtain ⟨h1, h2⟩ := hw
      cases hl : w.cps.toList with
      | nil => exact absurd hl h1
      | cons c l =>
        rw [hl] at h2 hn
        have hc := h2 c (List.mem_cons_self ..)
        have hl2 : ∀ c ∈ l, runC c = true := fun x hx => h2 x (List.mem_cons_of_mem _ hx)
        show (tokF (n + 1) k (c :: (l ++ cs))).map (·.1) = _
        unfold tokF
        rw [if_pos hc, takeWhile_run hl2 h.head, List.drop_left, List.map_cons, ih n _ (by simp only [List.length_cons, List.length_append] at hn; omega)]
        congr 1
        show (⟨(c :: l).toArray⟩ : Str) = w
        rw [← hl]
theorem tokL_sp {ts : List Str} {s : Str} {e : Bool} (h : Sp false ts s.cps.toList e) : (tokL s).map (·.1) = ts := tok_sp h _ _ (Nat.lt_succ_self _)
end D2

set_option maxRecDepth 100000
set_option maxHeartbeats 400000
namespace D2
open PySem PySem.Spec PyProof.Rows L2
/-! ### formulas as tokens -/
abbrev numS (n : Int) : Str := Str.ofString (toString n)
/-- the tokens of a tree, with needless brackets; n bounds the brackets one in another, l is the least level -/
inductive Lo : Nat → Tr → Int → List Str → Prop
  | num {k : Nat} {l : Int} (n : Int) : Lo k (.num n) l [numS n]
  | name {k : Nat} {l : Int} (x : Str) : Lo k (.name x) l [x]
  | im {k : Nat} {l : Int} : Lo k .im l ["i"]
  | root {k : Nat} {l : Int} {t : Tr} {a : List Str} : Lo k t 1 a → Lo (k + 1) (.root t) l ("root" :: "(" :: (a ++ [(")" : Str)]))
  | pow {k : Nat} {l : Int} {t : Tr} {a : List Str} (e : Int) : l ≤ 3 → Lo k t 4 a → Lo k (.pow t e) l (a ++ [("^" : Str), numS e])
  | neg {k : Nat} {l : Int} {t : Tr} {a : List Str} : l ≤ 1 → Lo k t 2 a → Lo k (.neg t) l ("-" :: a)
  | bin {k : Nat} {l : Int} {x y : Tr} {a b : List Str} (o : Bn) : l ≤ o.lvl → Lo k x o.lvl a → Lo k y (o.lvl + 1) b → Lo k (.bin o x y) l (a ++ (o.tok :: b))
  | par {k : Nat} {l : Int} {t : Tr} {a : List Str} : Lo k t 1 a → Lo (k + 1) t l ("(" :: (a ++ [(")" : Str)]))
theorem Lo.mono {k : Nat} {t : Tr} {l : Int} {a : List Str} (h : Lo k t l a) : ∀ {m : Nat}, k ≤ m → Lo m t l a := by
  induction h with
  | num n => intro m _; exact .num n
  | name n => intro m _; exact .name n
  | im => intro m _; exact .im
  | root h ih =>
    intro m hm
    obtain ⟨m, rfl⟩ : ∃ j, m = j + 1 := ⟨m - 1, by omega⟩
    exact .root (ih (by omega))
  | pow e hl h ih => intro m hm; exact .pow e hl (ih hm)
  | neg hl h ih => intro m hm; exact .neg hl (ih hm)
  | bin o hl h g ih1 ih2 => intro m hm; exact .bin o hl (ih1 hm) (ih2 hm)
  | par h ih =>
    intro m hm
    obtain ⟨m, rfl⟩ : ∃ j, m = j + 1 := ⟨m - 1, by omega⟩
    exact .par (ih (by omega))
/-- a lower level asks less -/
theorem Lo.low {k : Nat} {t : Tr} {l : Int} {a : List Str} (h : Lo k t l a) : ∀ {m : Int}, m ≤ l → Lo k t m a := by
  cases h with
  | num n => intro m _; exact .num n
  | name n => intro m _; exact .name n
  | im => intro m _; exact .im
  | root h => intro m hm; exact .root h
  | pow e hl h => intro m hm; exact .pow e (by omega) h
  | neg hl h => intro m hm; exact .neg (by omega) h
  | bin o hl h g => intro m hm; exact .bin o (by omega) h g
  | par h => intro m hm; exact .par h
/-- n more brackets -/
def pars : Nat → List Str → List Str
  | 0, a => a
  | n + 1, a => "(" :: (pars n a ++ [(")" : Str)])
theorem Lo.pars {k : Nat} {t : Tr} {l : Int} {a : List Str} (hl : 1 ≤ l) (h : Lo k t l a) : ∀ n, Lo (k + n) t l (pars n a)
  | 0 => h
  | n + 1 => .par ((Lo.pars hl h n).low hl)
/-- a token of a formula -/
def TokOk (w : Str) : Prop := (∃ c, w = ⟨#[c]⟩ ∧ symC c = true) ∨ (RunW w ∧ w.length ≤ 40)
theorem digits_run {n : Int} (h0 : 0 ≤ n) : RunW (numS n) := by
  obtain ⟨m, rfl⟩ := Int.eq_ofNat_of_zero_le h0
  refine ⟨?_, fun c hc => ?_⟩
  · rw [show (numS (m : Int)).cps.toList = TL.numL m from TL.tl_num m]
    exact TL.numL_ne m
  · rw [show (numS (m : Int)).cps.toList = TL.numL m from TL.tl_num m] at hc
    have h := TL.numL_digits m c hc
    have : ∀ c, c < 58 → 48 ≤ c → runC c = true := by decide +kernel
    exact this c (by omega) h.1
theorem name_run {x : Str} (h : nameB x = true) : RunW x := by
  unfold nameB at h
  simp only [Bool.and_eq_true] at h
  have h1 := h.1.2
  have h2 := h.2
  refine ⟨fun e => by rw [e] at h1; exact Bool.noConfusion h1, fun c hc => ?_⟩
  rw [List.all_eq_true] at h2
  have h3 : ∀ c ∈ sgnsS.cps.toList, runC c = true := by decide +kernel
  exact h3 c (of_decide_eq_true (h2 c hc))
theorem tok_num {n : Int} (h0 : 0 ≤ n) (h1 : n < 10 ^ 40) : TokOk (numS n) := .inr ⟨digits_run h0, num_len40 h0 h1⟩
theorem tok_name {x : Str} (h : nameB x = true) : TokOk x := .inr ⟨name_run h, Nat.le_trans (name_len h) (by decide)⟩
theorem tok_i : TokOk "i" := .inr ⟨⟨by decide, by decide +kernel⟩, by decide⟩
theorem tok_root : TokOk "root" := .inr ⟨⟨by decide, by decide +kernel⟩, by decide⟩
theorem tok_op (o : Bn) : TokOk o.tok := by cases o <;> exact .inl ⟨_, rfl, by decide⟩
theorem tok_open : TokOk "(" := .inl ⟨_, rfl, by decide⟩
theorem tok_shut : TokOk ")" := .inl ⟨_, rfl, by decide⟩
theorem tok_hat : TokOk "^" := .inl ⟨_, rfl, by decide⟩
theorem tok_minus : TokOk "-" := .inl ⟨_, rfl, by decide⟩
theorem Lo.toks {k : Nat} {t : Tr} {l : Int} {a : List Str} (h : Lo k t l a) : GoodT t → ∀ w ∈ a, TokOk w := by
  induction h with
  | num n => intro g w hw; rw [List.mem_singleton.mp hw]; exact tok_num g.1 g.2
  | name n => intro g w hw; rw [List.mem_singleton.mp hw]; exact tok_name g
  | im => intro g w hw; rw [List.mem_singleton.mp hw]; exact tok_i
  | root h ih =>
    intro g w hw
    rcases List.mem_cons.mp hw with rfl | hw
    · exact tok_root
    rcases List.mem_cons.mp hw with rfl | hw
    · exact tok_open
    rcases List.mem_append.mp hw with hw | hw
    · exact ih g w hw
    · rw [List.mem_singleton.mp hw]; exact tok_shut
  | pow e hl h ih =>
    intro g w hw
    rcases List.mem_append.mp hw with hw | hw
    · exact ih g.1 w hw
    rcases List.mem_cons.mp hw with rfl | hw
    · exact tok_hat
    · rw [List.mem_singleton.mp hw]; exact tok_num g.2.1 (by have := g.2.2; omega)
  | neg hl h ih =>
    intro g w hw
    rcases List.mem_cons.mp hw with rfl | hw
    · exact tok_minus
    · exact ih g w hw
  | bin o hl h1 h2 ih1 ih2 =>
    intro g w hw
    rcases List.mem_append.mp hw with hw | hw
    · exact ih1 g.1 w hw
    rcases List.mem_cons.mp hw with rfl | hw
    · exact tok_op o
    · exact ih2 g.2 w hw
  | par h ih =>
    intro g w hw
    rcases List.mem_cons.mp hw with rfl | hw
    · exact tok_open
    rcases List.mem_append.mp hw with hw | hw
    · exact ih g w hw
    · rw [List.mem_singleton.mp hw]; exact tok_shut
theorem menu_cases {m : Str} (h : m ∈ (["add", "sub", "mul", "div", "pow", "neg", "root", "i"] : List Str)) (hn : m ≠ "i") : m = "root" ∨ m = "neg" ∨ m = "pow" ∨ ∃ o : Bn, m = o.tag := by
  simp only [List.mem_cons, List.not_mem_nil, or_false] at h
  rcases h with rfl | rfl | rfl | rfl | rfl | rfl | rfl | rfl
  · exact .inr (.inr (.inr ⟨.add, rfl⟩))
  · exact .inr (.inr (.inr ⟨.sub, rfl⟩))
  · exact .inr (.inr (.inr ⟨.mul, rfl⟩))
  · exact .inr (.inr (.inr ⟨.div, rfl⟩))
  · exact .inr (.inr (.inl rfl))
  · exact .inr (.inl rfl)
  · exact .inl rfl
  · exact absurd rfl hn
theorem pars_len (n : Nat) (a : List Str) : (pars n a).length = a.length + 2 * n := by
  induction n with
  | zero => rfl
  | succ n ih =>
    show (("(" : Str) :: (pars n a ++ [(")" : Str)])).length = _
    rw [List.length_cons, List.length_append, ih]
    show _ + 1 + 1 = _
    omega
theorem alnum1 : ∀ c : Nat, c < 128 → Txt.isalnum ⟨#[c]⟩ = runC c := by decide +kernel
theorem run_lt {c : Nat} (h : runC c = true) : c < 128 := by
  have h1 : c ∈ runS.cps.toList := of_decide_eq_true h
  have : ∀ c ∈ runS.cps.toList, c < 128 := by decide +kernel
  exact this c h1
theorem sym_lt {c : Nat} (h : symC c = true) : c < 128 := by
  have h1 : c ∈ [40, 41, 42, 43, 45, 47, 94] := of_decide_eq_true h
  have : ∀ c ∈ [40, 41, 42, 43, 45, 47, 94], c < 128 := by decide
  exact this c h1
/-- a token is a run -/
def isRun (w : Str) : Bool := runC (w.cps.toList.headD 0)
theorem cut_first {w : Str} {c : Nat} {l : List Nat} (h : w.cps.toList = c :: l) : cutS w none (some 1) = ⟨#[c]⟩ := by
  have hl : w.length = l.length + 1 := by rw [TL.len_tl]; show w.cps.toList.length = _; rw [h]; rfl
  unfold cutS
  have e1 : HT.sIx w.length 0 none = 0 := rfl
  have e2 : HT.sIx w.length w.length (some 1) = 1 := by
    rw [hl]
    simp [HT.sIx]
  rw [e1, e2, h]
  rfl
theorem cut_last {w : Str} {c : Nat} {l : List Nat} (h : w.cps.toList = l ++ [c]) : cutS w (some (-1)) none = ⟨#[c]⟩ := by
  have hl : w.length = l.length + 1 := by rw [TL.len_tl]; show w.cps.toList.length = _; rw [h]; simp
  unfold cutS
  have e1 : HT.sIx w.length 0 (some (-1)) = l.length := by
    rw [hl]
    unfold HT.sIx
    simp
    omega
  have e2 : HT.sIx w.length w.length none = l.length + 1 := by rw [hl]; rfl
  rw [e1, e2, h, List.drop_left, show l.length + 1 - l.length = 1 from by omega]
  rfl
theorem tok_first {w : Str} (h : TokOk w) : Txt.isalnum (cutS w none (some 1)) = isRun w := by
  rcases h with ⟨c, rfl, hc⟩ | ⟨⟨h1, h2⟩, _⟩
  · rw [cut_first (w := ⟨#[c]⟩) rfl, alnum1 c (sym_lt hc)]
    rfl
  · cases e : w.cps.toList with
    | nil => exact absurd e h1
    | cons c l =>
      rw [cut_first e, alnum1 c (run_lt (h2 c (by rw [e]; exact List.mem_cons_self ..)))]
      unfold isRun
      rw [e]
      rfl
theorem tok_last {w : Str} (h : TokOk w) : Txt.isalnum (cutS w (some (-1)) none) = isRun w := by
  rcases h with ⟨c, rfl, hc⟩ | ⟨⟨h1, h2⟩, _⟩
  · rw [cut_last (w := ⟨#[c]⟩) (l := []) rfl, alnum1 c (sym_lt hc)]
    rfl
  · have hr : isRun w = true := by
      unfold isRun
      cases e : w.cps.toList with
      | nil => exact absurd e h1
      | cons c l => exact h2 c (by rw [e]; exact List.mem_cons_self ..)
    obtain ⟨l, c, e⟩ : ∃ l c, w.cps.toList = l ++ [c] := ⟨w.cps.toList.dropLast, w.cps.toList.getLast h1, (List.dropLast_concat_getLast h1).symm⟩
    have hc := h2 c (by rw [e]; exact List.mem_append_right _ (List.mem_singleton.mpr rfl))
    rw [cut_last e, alnum1 c (run_lt hc), hr, hc]
theorem run_is {w : Str} (h : RunW w) : isRun w = true := by
  unfold isRun
  cases e : w.cps.toList with
  | nil => exact absurd e h.1
  | cons c l => exact h.2 c (by rw [e]; exact List.mem_cons_self ..)
theorem tok_len {w : Str} (h : TokOk w) : w.length ≤ 40 := by
  rcases h with ⟨c, rfl, hc⟩ | ⟨_, h⟩
  · show 1 ≤ 40; decide
  · exact h
/-- blanks -/
theorem blanks {z : Str} (h : z ∈ (["", " ", "  "] : List Str)) (e : Bool) : ∃ e', Sp e [] z.cps.toList e' ∧ (e = false → e' = false) ∧ z.length ≤ 2 := by
  simp only [List.mem_cons, List.not_mem_nil, or_false] at h
  rcases h with rfl | rfl | rfl
  · exact ⟨e, .nil e, fun h => h, by decide⟩
  · exact ⟨false, .sp (.nil false), fun _ => rfl, by decide⟩
  · exact ⟨false, .sp (.sp (.nil false)), fun _ => rfl, by decide⟩
theorem Sp.str {e b c : Bool} {t u : List Str} {x y : Str} (h : Sp e t x.cps.toList b) (g : Sp b u y.cps.toList c) : Sp e (t ++ u) (x ++ y).cps.toList c := by
  have := h.append g
  rw [show (x ++ y).cps.toList = x.cps.toList ++ y.cps.toList from TL.tl_append x y]
  exact this
/-- a token behind a blank, or where none is wanted -/
theorem Sp.tok {w : Str} (h : TokOk w) {e : Bool} (he : isRun w = true → e = false) : Sp e [w] w.cps.toList (isRun w) := by
  rcases h with ⟨c, rfl, hc⟩ | ⟨h, _⟩
  · rw [show isRun ⟨#[c]⟩ = false from (sym_run hc).1]
    exact .sym c hc (.nil false)
  · have hr := run_is h
    rw [he hr, hr]
    have := Sp.run w h (.nil true)
    rw [List.append_nil] at this
    exact this
theorem tag_bin {t : Tr} {o : Bn} (h : tagT t = o.tag) : ∃ x y, t = .bin o x y := by
  cases t with
  | bin p x y => exact ⟨x, y, by rw [tag_inj h]⟩
  | _ => cases o <;> (simp only [tagT, Bn.tag] at h; exact absurd h (by decide))
def S_l_twin (n : Nat) : SpD := fun ds M q => ∃ a js t, ds = [.ptr a, encT t] ∧ t.deep < n ∧ M a = some (.lst js) ∧ JarL js ∧ (GoodT t ∧ t.deep ≤ 16) ∧ ∀ t' js', GoodT t' → t'.deep ≤ t.deep + 1 → JarL js' → q (encT t') (M.put a (.lst js'))
/-- a tree over some names -/
def GoodN (syms : List Str) (t : Tr) : Prop := GoodT t ∧ ∀ x ∈ namesT t, x ∈ syms
theorem GoodN.bin {syms : List Str} {o : Bn} {x y : Tr} (h : GoodN syms x) (g : GoodN syms y) : GoodN syms (.bin o x y) := ⟨⟨h.1, g.1⟩, fun z hz => by
  rcases List.mem_append.mp hz with hz | hz
  · exact h.2 z hz
  · exact g.2 z (List.mem_filter.mp hz).1⟩
/-! what the law's makers promise -/
def S_l_tree (n : Nat) : SpD := fun ds M q => ∃ a js syms deep menu, ds = [.ptr a, .lst (List.map D.str syms), .int deep, .lst (List.map D.str menu)] ∧ deep.toNat < n ∧ 0 ≤ deep ∧ M a = some (.lst js) ∧ JarL js ∧ (∀ x ∈ syms, nameB x = true) ∧ syms.length ≤ 100 ∧
  (∀ m ∈ menu, m ∈ (["add", "sub", "mul", "div", "pow", "neg", "root", "i"] : List Str)) ∧ menu.length ≤ 100 ∧ (∃ m ∈ menu, m ≠ ("i" : Str)) ∧ ∀ t js', GoodN syms t → (t.deep : Int) ≤ deep → JarL js' → q (encT t) (M.put a (.lst js'))
def S_l_loose (n : Nat) : SpD := fun ds M q => ∃ a js t l, ds = [.ptr a, encT t, .int l] ∧ t.deep < n ∧ M a = some (.lst js) ∧ JarL js ∧ (GoodT t ∧ t.deep ≤ 12 ∧ 1 ≤ l ∧ l ≤ 4) ∧ ∀ (toks : List Str) js', Lo (4 * t.deep + 4) t l toks → toks.length ≤ 10 * t.sz → JarL js' → q (.lst (toks.map .str)) (M.put a (.lst js'))
def S_l_spaced : SpD := fun ds M q => ∃ a js toks, ds = [.ptr a, .lst (List.map D.str toks)] ∧ M a = some (.lst js) ∧ JarL js ∧ (∀ w ∈ toks, TokOk w) ∧ toks.length ≤ 100000 ∧ ∀ (z : Str) js' e, Sp false toks z.cps.toList e → z.length ≤ 4400002 → JarL js' → q (.str z) (M.put a (.lst js'))
end D2

set_option maxRecDepth 100000
set_option maxHeartbeats 400000
namespace D2
open PySem PySem.Spec PyProof.Rows L2
/-! ### tokens, one by one -/
theorem takeWhile_le (p : Nat → Bool) : ∀ l : List Nat, (l.takeWhile p).length ≤ l.length
  | [] => Nat.le_refl _
  | c :: l => by
    rw [List.takeWhile_cons]
    split
    · have := takeWhile_le p l
      simp only [List.length_cons]; omega
    · exact Nat.zero_le _
theorem take_tw (p : Nat → Bool) : ∀ l : List Nat, l.take (l.takeWhile p).length = l.takeWhile p
  | [] => rfl
  | c :: l => by
    rw [List.takeWhile_cons]
    split
    · rw [List.length_cons, List.take_succ_cons, take_tw p l]
    · rfl
theorem tw_step {p : Nat → Bool} : ∀ {l : List Nat} {j : Nat}, j ≤ (l.takeWhile p).length → ∀ {c : Nat}, l[j]? = some c → (p c = true ↔ j < (l.takeWhile p).length)
  | [], j, h, c, e => by cases e
  | d :: l, 0, h, c, e => by
    cases e
    rw [List.takeWhile_cons]
    cases hp : p d with
    | true => simp
    | false => simp
  | d :: l, j + 1, h, c, e => by
    rw [List.takeWhile_cons] at h ⊢
    cases hp : p d with
    | true =>
      rw [hp] at h
      simp only [if_true, List.length_cons] at h ⊢
      have := tw_step (p := p) (l := l) (j := j) (by omega) (c := c) (by simpa using e)
      exact this.trans Nat.succ_lt_succ_iff.symm
    | false =>
      rw [hp] at h
      simp at h
theorem tokF_fuel : ∀ (n : Nat) (cs : List Nat) (k m : Nat), cs.length < n → cs.length < m → tokF n k cs = tokF m k cs
  | 0, _, _, _, h, _ => absurd h (Nat.not_lt_zero _)
  | n + 1, [], k, 0, _, h => absurd h (Nat.not_lt_zero _)
  | n + 1, [], k, m + 1, _, _ => rfl
  | n + 1, c :: cs, k, 0, _, h => absurd h (Nat.not_lt_zero _)
  | n + 1, c :: cs, k, m + 1, h1, h2 => by
    simp only [List.length_cons] at h1 h2
    unfold tokF
    rw [tokF_fuel n (cs.drop (cs.takeWhile runC).length) _ m (by rw [List.length_drop]; omega) (by rw [List.length_drop]; omega), tokF_fuel n cs _ m (by omega) (by omega)]
def tokR (k : Nat) (cs : List Nat) : List (Str × Nat) := tokF (cs.length + 1) k cs
theorem tokR_nil (k : Nat) : tokR k [] = [] := rfl
theorem tokR_run {k c : Nat} {cs : List Nat} (h : runC c = true) : tokR k (c :: cs) = (⟨(c :: cs.takeWhile runC).toArray⟩, k) :: tokR (k + 1 + (cs.takeWhile runC).length) (cs.drop (cs.takeWhile runC).length) := by
  show tokF (cs.length + 1 + 1) k (c :: cs) = _
  rw [show tokF (cs.length + 1 + 1) k (c :: cs) = (if runC c then (⟨(c :: cs.takeWhile runC).toArray⟩, k) :: tokF (cs.length + 1) (k + 1 + (cs.takeWhile runC).length) (cs.drop (cs.takeWhile runC).length) else if c = 32 then tokF (cs.length + 1) (k + 1) cs else (⟨#[c]⟩, k) :: tokF (cs.length + 1) (k + 1) cs) from rfl, if_pos h]
  unfold tokR
  rw [tokF_fuel (cs.length + 1) (cs.drop (cs.takeWhile runC).length) _ ((cs.drop (cs.takeWhile runC).length).length + 1) (by rw [List.length_drop]; omega) (by omega)]
theorem tokR_sp {k : Nat} {cs : List Nat} : tokR k (32 :: cs) = tokR (k + 1) cs := by
  show tokF (cs.length + 1 + 1) k (32 :: cs) = _
  rw [show tokF (cs.length + 1 + 1) k (32 :: cs) = (if runC 32 then (⟨(32 :: cs.takeWhile runC).toArray⟩, k) :: tokF (cs.length + 1) (k + 1 + (cs.takeWhile runC).length) (cs.drop (cs.takeWhile runC).length) else if 32 = 32 then tokF (cs.length + 1) (k + 1) cs else (⟨#[32]⟩, k) :: tokF (cs.length + 1) (k + 1) cs) from rfl, if_neg (by decide +kernel), if_pos rfl]
  rfl
theorem tokR_sym {k c : Nat} {cs : List Nat} (h : runC c = false) (h2 : c ≠ 32) : tokR k (c :: cs) = (⟨#[c]⟩, k) :: tokR (k + 1) cs := by
  show tokF (cs.length + 1 + 1) k (c :: cs) = _
  rw [show tokF (cs.length + 1 + 1) k (c :: cs) = (if runC c then (⟨(c :: cs.takeWhile runC).toArray⟩, k) :: tokF (cs.length + 1) (k + 1 + (cs.takeWhile runC).length) (cs.drop (cs.takeWhile runC).length) else if c = 32 then tokF (cs.length + 1) (k + 1) cs else (⟨#[c]⟩, k) :: tokF (cs.length + 1) (k + 1) cs) from rfl, if_neg (by rw [h]; exact Bool.noConfusion), if_neg h2]
  rfl
theorem tokL_R (s : Str) : tokL s = tokR 0 s.cps.toList := rfl
theorem tokR_len : ∀ (n : Nat) (cs : List Nat) (k : Nat), cs.length ≤ n → (tokR k cs).length ≤ cs.length
  | n, [], k, _ => Nat.le_refl _
  | 0, c :: cs, k, h => by simp at h
  | n + 1, c :: cs, k, h => by
    simp only [List.length_cons] at h
    by_cases hr : runC c = true
    · rw [tokR_run hr, List.length_cons]
      have := tokR_len n (cs.drop (cs.takeWhile runC).length) (k + 1 + (cs.takeWhile runC).length) (by rw [List.length_drop]; omega)
      rw [List.length_drop] at this
      simp only [List.length_cons]
      omega
    · have hf : runC c = false := by simpa using hr
      have := tokR_len n cs (k + 1) (by omega)
      by_cases h2 : c = 32
      · subst h2
        rw [tokR_sp, List.length_cons]
        omega
      · rw [tokR_sym hf h2, List.length_cons, List.length_cons]
        omega
def tokD (x : Str × Nat) : D := .tup [.str x.1, .int x.2]
theorem sIx_nat {n d k : Nat} (h : k ≤ n) : HT.sIx n d (some (k : Int)) = k := by
  rw [HT.sIx_nat, Nat.min_eq_left h]
theorem cut_mid {z : Str} {a b : Nat} (h1 : a ≤ b) (h2 : b ≤ z.length) : cutS z (some (a : Int)) (some (b : Int)) = ⟨((z.cps.toList.drop a).take (b - a)).toArray⟩ := by
  unfold cutS
  rw [HT.sIx_nat, HT.sIx_nat, Nat.min_eq_left h2, Nat.min_eq_left (by omega)]
theorem in_signs (c : Nat) (z : Str) : inD (.str ⟨#[c]⟩) (signs z) = decide (c ∈ z.cps.toList) := by
  unfold inD signs
  generalize z.cps.toList = l
  induction l with
  | nil => simp
  | cons y l ih =>
    rw [List.map_cons, List.any_cons, ih]
    have e : eqF (.str ⟨#[y]⟩) (.str ⟨#[c]⟩) = decide (c = y) := by
      show ((⟨#[y]⟩ : Str) == ⟨#[c]⟩) = _
      by_cases h : c = y
      · subst h; simp
      · have : (⟨#[y]⟩ : Str) ≠ ⟨#[c]⟩ := fun q => by
          injection q with q
          simp at q
          exact h q.symm
        rw [decide_eq_false h]
        exact beq_false_of_ne this
    rw [e]
    by_cases h : c = y
    · simp [h]
    · simp [h]
theorem signs_flat (z : Str) : (signs z).all flatD = true := by
  rw [List.all_eq_true]
  intro d hd
  obtain ⟨x, _, rfl⟩ := List.mem_map.mp hd
  rfl
theorem one_ne {c : Nat} : decide ((⟨#[c]⟩ : Str) = " ") = decide (c = 32) := by
  by_cases h : c = 32
  · subst h; rfl
  · rw [decide_eq_false h]
    refine decide_eq_false fun q => h ?_
    have := congrArg (fun s : Str => s.cps.toList) q
    have e : ((" " : Str)).cps.toList = [32] := by decide +kernel
    simp only [e] at this
    simpa using this
def S_l_tokens : SpD := fun ds M q => ∃ z, ds = [.str z] ∧ z.length ≤ 7000000 ∧ q (.lst ((tokL z).map tokD)) M
def S_tokens : SpD := fun ds M q => ∃ z, ds = [.str z] ∧ z.length ≤ 7000000 ∧ q (.lst ((tokL z).map tokD)) M
end D2

set_option maxRecDepth 100000
set_option maxHeartbeats 400000
namespace D2
open PySem PySem.Spec PyProof.Rows L2
/-! ### sums and products, from the left -/
inductive Tail (l : Int) (k : Nat) : Tr → List Str → Tr → Prop
  | nil {t : Tr} : Tail l k t [] t
  | cons {x y t : Tr} {b c : List Str} (o : Bn) : o.lvl = l → Lo k y (l + 1) b → Tail l k (.bin o x y) c t → Tail l k x (o.tok :: (b ++ c)) t
theorem Tail.snoc {l : Int} {k : Nat} {x t z : Tr} {c b : List Str} (h : Tail l k x c t) (o : Bn) (ho : o.lvl = l) (g : Lo k z (l + 1) b) : Tail l k x (c ++ (o.tok :: b)) (.bin o t z) := by
  induction h with
  | @nil u =>
    have := Tail.cons (x := u) (t := .bin o u z) o ho g .nil
    rw [List.append_nil] at this
    exact this
  | cons o2 h1 h2 h3 ih =>
    have := Tail.cons o2 h1 h2 ih
    rw [List.cons_append, List.append_assoc]
    exact this
theorem Tail.good {l : Int} {k : Nat} {x t : Tr} {c : List Str} (h : Tail l k x c t) : GoodT t → GoodT x := by
  induction h with
  | nil => exact id
  | cons o h1 h2 h3 ih => intro g; exact (ih g).1
theorem Tail.deep {l : Int} {k : Nat} {x t : Tr} {c : List Str} (h : Tail l k x c t) : x.deep ≤ t.deep := by
  induction h with
  | nil => exact Nat.le_refl _
  | cons o h1 h2 h3 ih => simp only [Tr.deep] at ih; omega
theorem lvl_cases (o : Bn) : o.lvl = 1 ∨ o.lvl = 2 := by cases o <;> first | exact .inl rfl | exact .inr rfl
theorem Lo.power {k : Nat} {t : Tr} {l : Int} {a : List Str} (h : Lo k t l a) (hl : 3 ≤ l) : ∃ t0 a0, Lo k t0 4 a0 ∧ ((t = t0 ∧ a = a0) ∨ ∃ e, t = .pow t0 e ∧ a = a0 ++ [("^" : Str), numS e]) := by
  cases h with
  | num n => exact ⟨_, _, .num n, .inl ⟨rfl, rfl⟩⟩
  | name n => exact ⟨_, _, .name n, .inl ⟨rfl, rfl⟩⟩
  | im => exact ⟨_, _, .im, .inl ⟨rfl, rfl⟩⟩
  | root h => exact ⟨_, _, .root h, .inl ⟨rfl, rfl⟩⟩
  | pow e hl h => exact ⟨_, _, h, .inr ⟨e, rfl, rfl⟩⟩
  | neg hl h => omega
  | bin o hl h g => rcases lvl_cases o with q | q <;> omega
  | par h => exact ⟨_, _, .par h, .inl ⟨rfl, rfl⟩⟩
theorem Lo.product {k : Nat} {t : Tr} {l : Int} {a : List Str} (h : Lo k t l a) : 2 ≤ l → ∃ x a1 c, Lo k x 3 a1 ∧ Tail 2 k x c t ∧ a = a1 ++ c := by
  induction h with
  | num n => intro _; exact ⟨_, _, [], .num n, .nil, rfl⟩
  | name n => intro _; exact ⟨_, _, [], .name n, .nil, rfl⟩
  | im => intro _; exact ⟨_, _, [], .im, .nil, rfl⟩
  | root h _ => intro _; exact ⟨_, _, [], .root h, .nil, (List.append_nil _).symm⟩
  | pow e hl h _ => intro _; exact ⟨_, _, [], .pow e (by decide) h, .nil, (List.append_nil _).symm⟩
  | neg hl h _ => intro _; omega
  | @bin k l x y a b o hl h g ih1 ih2 =>
    intro hl2
    have ho : o.lvl = 2 := by rcases lvl_cases o with q | q <;> omega
    obtain ⟨x1, a1, c, h1, h2, rfl⟩ := ih1 (by omega)
    rw [ho] at g
    exact ⟨x1, a1, c ++ (o.tok :: b), h1, h2.snoc o ho g, List.append_assoc _ _ _⟩
  | par h _ => intro _; exact ⟨_, _, [], .par h, .nil, (List.append_nil _).symm⟩
theorem Lo.sum {k : Nat} {t : Tr} {l : Int} {a : List Str} (h : Lo k t l a) : (∃ x a1 c, Lo k x 2 a1 ∧ Tail 1 k x c t ∧ a = a1 ++ c) ∨ ∃ x a1 c, Lo k x 2 a1 ∧ Tail 1 k (.neg x) c t ∧ a = ("-" : Str) :: (a1 ++ c) := by
  induction h with
  | num n => exact .inl ⟨_, _, [], .num n, .nil, rfl⟩
  | name n => exact .inl ⟨_, _, [], .name n, .nil, rfl⟩
  | im => exact .inl ⟨_, _, [], .im, .nil, rfl⟩
  | root h _ => exact .inl ⟨_, _, [], .root h, .nil, (List.append_nil _).symm⟩
  | pow e hl h _ => exact .inl ⟨_, _, [], .pow e (by decide) h, .nil, (List.append_nil _).symm⟩
  | neg hl h _ => exact .inr ⟨_, _, [], h, .nil, by rw [List.append_nil]⟩
  | @bin k l x y a b o hl h g ih1 ih2 =>
    rcases lvl_cases o with ho | ho
    · rw [ho] at g
      rcases ih1 with ⟨x1, a1, c, h1, h2, rfl⟩ | ⟨x1, a1, c, h1, h2, rfl⟩
      · exact .inl ⟨x1, a1, c ++ (o.tok :: b), h1, h2.snoc o ho g, List.append_assoc _ _ _⟩
      · exact .inr ⟨x1, a1, c ++ (o.tok :: b), h1, h2.snoc o ho g, by rw [List.cons_append, List.append_assoc]⟩
    · refine .inl ⟨_, _, [], .bin o (by omega) h g, .nil, (List.append_nil _).symm⟩
  | par h _ => exact .inl ⟨_, _, [], .par h, .nil, (List.append_nil _).symm⟩
/-- a run is no sign -/
theorem run_not {w : Str} (h : RunW w) {c : Nat} (hc : runC c = false) : w ≠ ⟨#[c]⟩ := fun e => by
  subst e
  have := h.2 c (List.mem_singleton.mpr rfl)
  rw [hc] at this
  exact Bool.noConfusion this
theorem Lo.head {k : Nat} {t : Tr} {l : Int} {a : List Str} (h : Lo k t l a) : GoodT t → 2 ≤ l → ∃ w r, a = w :: r ∧ w ≠ ("-" : Str) := by
  induction h with
  | num n => intro g _; exact ⟨_, _, rfl, run_not (c := 45) (digits_run g.1) (by decide +kernel)⟩
  | name n => intro g _; exact ⟨_, _, rfl, run_not (c := 45) (name_run g) (by decide +kernel)⟩
  | im => intro g _; exact ⟨_, _, rfl, by decide⟩
  | root h ih => intro g _; exact ⟨_, _, rfl, by decide⟩
  | pow e hl h ih =>
    intro g _
    obtain ⟨w, r, rfl, hw⟩ := ih g.1 (by decide)
    exact ⟨w, _, rfl, hw⟩
  | neg hl h ih => intro g _; omega
  | bin o hl h1 h2 ih1 ih2 =>
    intro g hl2
    obtain ⟨w, r, rfl, hw⟩ := ih1 g.1 (by omega)
    exact ⟨w, _, rfl, hw⟩
  | par h ih => intro g _; exact ⟨_, _, rfl, by decide⟩
theorem num_head {n : Int} (h0 : 0 ≤ n) : ∃ c l, (numS n).cps.toList = c :: l ∧ 48 ≤ c ∧ c ≤ 57 := by
  obtain ⟨m, rfl⟩ := Int.eq_ofNat_of_zero_le h0
  have e : (numS (m : Int)).cps.toList = TL.numL m := TL.tl_num m
  cases h : TL.numL m with
  | nil => exact absurd h (TL.numL_ne m)
  | cons c l =>
    have := TL.numL_digits m c (by rw [h]; exact List.mem_cons_self ..)
    exact ⟨c, l, by rw [e, h], this.1, this.2⟩
theorem num_ne {n : Int} (h0 : 0 ≤ n) {w : Str} (hw : w.cps.toList.headD 0 < 48 ∨ 57 < w.cps.toList.headD 0) : numS n ≠ w := fun e => by
  obtain ⟨c, l, h, h1, h2⟩ := num_head h0
  rw [e] at h
  rw [h] at hw
  simp only [List.headD_cons] at hw
  omega
theorem name_head {x : Str} (h : nameB x = true) : ∃ c l, x.cps.toList = c :: l ∧ c ∈ letsS.cps.toList := by
  unfold nameB at h
  simp only [Bool.and_eq_true] at h
  have h1 := h.1.2
  cases e : x.cps.toList with
  | nil => rw [e] at h1; exact Bool.noConfusion h1
  | cons c l => rw [e] at h1; exact ⟨c, l, rfl, of_decide_eq_true h1⟩
theorem name_word {x w : Str} (h : nameB x = true) (hw : w ∈ wordsS) : x ≠ w := fun e => by
  subst e
  unfold nameB at h
  simp only [Bool.and_eq_true, Bool.not_eq_true'] at h
  have := h.1.1.2
  rw [List.contains_eq_mem, decide_eq_false_iff_not] at this
  exact this hw
theorem int_numS {n : Int} (h0 : 0 ≤ n) (h1 : n < 10 ^ 40) : PySem.intText? (numS n) = some n := by
  obtain ⟨m, rfl⟩ := Int.eq_ofNat_of_zero_le h0
  exact TL.int_num (Nat.le_trans (TL.numL_len (k := 40) (by decide) (by omega)) (by decide))
theorem tail_next {l : Int} {k : Nat} {x t : Tr} {c : List Str} (h : Tail l k x c t) {n : Str} {rest bad : List Str} (hn : n ∉ bad) (hb : ∀ o : Bn, o.lvl = l → o.tok ∉ bad) : ∃ h1 r1, c ++ n :: rest = h1 :: r1 ∧ h1 ∉ bad := by
  cases h with
  | nil => exact ⟨_, _, rfl, hn⟩
  | cons o ho g1 g2 => exact ⟨_, _, rfl, hb o ho⟩
theorem inD_no {h : Str} {ns : List Str} (hn : h ∉ ns) : inD (.str h) (ns.map .str) = false := by
  rw [inD_str, List.contains_eq_mem, decide_eq_false hn]
theorem app_cons (b : List Str) (n : Str) (r : List Str) : ∃ w s, b ++ n :: r = w :: s := by
  cases b with
  | nil => exact ⟨_, _, rfl⟩
  | cons w b => exact ⟨_, _, rfl⟩
/-! places in a list of tokens -/
theorem tl_step {TL : List (Str × Nat)} {i : Nat} {w : Str} {r : List Str} (h : (TL.drop i).map (·.1) = w :: r) : ∃ x, TL[i]? = some x ∧ x.1 = w ∧ (TL.drop (i + 1)).map (·.1) = r := by
  cases e : TL.drop i with
  | nil => rw [e] at h; cases h
  | cons x s =>
    rw [e] at h
    rw [List.map_cons] at h
    injection h with h1 h2
    have hx : TL[i]? = some x := by
      have := congrArg (fun l => l[0]?) e
      simpa using this
    refine ⟨x, hx, h1, ?_⟩
    rw [← List.tail_drop, e]
    exact h2
theorem tl_at {TL : List (Str × Nat)} {i : Nat} {x : Str × Nat} (h : TL[i]? = some x) {j : Int} (hj : j = (i : Int)) : atI (TL.map tokD) j = some (tokD x) := by
  subst hj
  have hl : i < TL.length := (List.getElem?_eq_some_iff.mp h).1
  unfold atI ixN
  rw [if_pos (by omega), List.length_map, if_pos (by omega)]
  show (TL.map tokD)[i]? = _
  rw [List.getElem?_map, h]
  rfl
def readS (name : List Str) (l : Int) (n : Nat) : SpD := fun ds M q => ∃ (TL : List (Str × Nat)) (p p2 : Addr) (j : Int) (i : Nat) (divs : List D) (k : Nat) (t : Tr) (a : List Str) (h : Str) (rest : List Str), ds = [.lst (TL.map tokD), .ptr p] ∧
  M p = some (.lst [.int j, .ptr p2]) ∧ M p2 = some (.lst divs) ∧ p2 ≠ p ∧ j = (i : Int) ∧ (TL.drop i).map (·.1) = a ++ h :: rest ∧ Lo k t l a ∧ k < n ∧ GoodT t ∧ h ∉ name ∧ divs.length + a.length ≤ 7000000 ∧
  ∀ j' divs', j' = ((i + a.length : Nat) : Int) → divs'.length ≤ divs.length + a.length → q (encT t) ((M.put p (.lst [.int j', .ptr p2])).put p2 (.lst divs'))
abbrev S_l_read_power (n : Nat) : SpD := readS ["^"] 3 n
abbrev S_l_read_product (n : Nat) : SpD := readS ["^", "*", "/"] 2 n
abbrev S_l_read_sum (n : Nat) : SpD := readS ["^", "*", "/", "+", "-"] 1 n
def S_l_grown : SpD := fun ds M q => ∃ z t k, ds = [.str z] ∧ z.length ≤ 6999999 ∧ Lo k t 1 ((tokL z).map (·.1)) ∧ k < 40 ∧ GoodT t ∧ ∀ x, q (.tup [encT t, x]) M
end D2

set_option maxRecDepth 100000
set_option maxHeartbeats 400000
namespace D2
open PySem PySem.Spec PyProof.Rows L2
theorem empty_app (x : Str) : Str.empty ++ x = x := TL.ext_tl (by rw [TL.tl_append]; rfl)
/-! ### the program's automaton -/
def digsS : Str := "0123456789"
def digB (w : Str) : Bool := match w.cps.toList with
  | [] => false
  | c :: _ => !(decide (c = 48) && !decide (w = "0")) && w.cps.toList.all fun c => decide (c ∈ digsS.cps.toList)
def nextS (s d : Int) (w : Str) : Int × Int :=
  if s ≤ 1 then
    if w = "(" then (0, d + 1) else if w = "root" then (2, d) else if w = "-" ∧ s = 0 then (1, d)
    else (if (decide (w = "i") || (nameB w || digB w)) = true then 4 else 6, d)
  else if s = 2 then (if w = "(" then 0 else 6, d + 1)
  else if s = 3 then (if digB w = true ∧ w.length ≤ 3 then 5 else 6, d)
  else if w = "^" then (if s = 4 then 3 else 6, d)
  else if w = "+" ∨ w = "-" ∨ w = "*" ∨ w = "/" then (1, d)
  else if w = ")" ∧ 0 < d then (4, d - 1)
  else (6, d)
def badF (n : Int) : List (Str × Nat) → Int → Int → Int
  | [], s, d => if 4 ≤ s ∧ d = 0 then -1 else n
  | (w, k) :: r, s, d => if (nextS s d w).1 = 6 then (k : Int) else badF n r (nextS s d w).1 (nextS s d w).2
/-- signs of a text, each told -/
def fchr (p : Nat → Bool) : D → Option D
  | .str x => some (.bl (p (x.cps.toList.headD 0)))
  | _ => none
theorem fm_chr (p : Nat → Bool) (z : Str) : (signs z).filterMap (fchr p) = (z.cps.toList.map p).map .bl := by
  unfold signs
  generalize z.cps.toList = l
  induction l with
  | nil => rfl
  | cons c l ih =>
    rw [List.map_cons, List.filterMap_cons, ih]
    rfl
theorem all_map (p : Nat → Bool) (l : List Nat) : (l.map p).all id = l.all p := by
  rw [List.all_map]
  rfl
theorem signs_mem {z : Str} {d : D} (h : d ∈ signs z) : ∃ c, d = .str ⟨#[c]⟩ ∧ c ∈ z.cps.toList := by
  obtain ⟨c, hc, rfl⟩ := List.mem_map.mp h
  exact ⟨c, rfl, hc⟩
def S_is_name : SpD := fun ds M q => ∃ w, ds = [.str w] ∧ w.length ≤ 7000000 ∧ q (.bl (nameB w)) M
def S_is_digits : SpD := fun ds M q => ∃ w, ds = [.str w] ∧ w.length ≤ 7000000 ∧ q (.bl (digB w)) M
def S_next_state : SpD := fun ds M q => ∃ s d w, ds = [.int s, .int d, .str w, .bl false] ∧ w.length ≤ 7000000 ∧ q (.tup [.int (nextS s d w).1, .int (nextS s d w).2]) M
def S_bad_place : SpD := fun ds M q => ∃ (TL : List (Str × Nat)) (n : Int), ds = [.lst (TL.map tokD), .int n, .bl false] ∧ (∀ x ∈ TL, x.1.length ≤ 7000000) ∧ q (.int (badF n TL 0 0)) M
/-- an operand's step -/
inductive OpStep : Str → Str → Step → Prop
  | pow (e : Int) : 0 ≤ e → e < 1000 → OpStep (numS e) "^" (.pow e)
  | im {b : Str} : b ≠ "^" → OpStep "i" b .im
  | num {b : Str} (n : Int) : b ≠ "^" → 0 ≤ n → n < 10 ^ 40 → OpStep (numS n) b (.num n)
  | name {b x : Str} : b ≠ "^" → nameB x = true → OpStep x b (.name x)
def S_operand_step : SpD := fun ds M q => ∃ w b st, ds = [.str w, .str b] ∧ OpStep w b st ∧ q (encS st) M
def S_around : SpD := fun ds M q => ∃ z l m, ds = [.str z, .int l, .int m] ∧ z.length ≤ 7000000 ∧ q (.str (brk (decide (l < m)) z)) M
end D2

set_option maxRecDepth 100000
set_option maxHeartbeats 400000
namespace D2
open PySem PySem.Spec PyProof.Rows L2
/-! ### a written dict of the module -/
structure KMap (K : W.Frag) (w : World) (d : Addr) (f : Str → Option D) : Prop where
  ex : ∃ es n, KDict K w d es n ∧ ∀ z : Str, ∃ r : Option Value, W.nsIn K d z = some r ∧ (f z = none → r = none) ∧ ∀ dv, f z = some dv → ∃ u v, r = some u ∧ RelV v u ∧ ∀ F, Is K F v dv
def tKGet2 (K : W.Frag) (w : World) (td ty tx : TE) : TE := fun σ H Q => td σ H fun x H1 => ∃ d es n, x = .ref d ∧ KDict K w d es n ∧ ty σ H1 fun y H2 => tx σ H2 fun z H3 => ∃ (k : Str) (r : Option Value) (v : V), y = .str k ∧ W.nsIn K d k = some r ∧ ((r = none ∧ v = z) ∨ ∃ u, r = some u ∧ RelV v u) ∧ Q v H3
section
variable {X : Cx} {o e x : Expr} {to te tx : TE} {we wx : WE} {apos cpos : Pos} {d : Addr} {f : Str → Option D}
theorem pe_kget2 (ho : PE X o to) (he : PE X e te) (hf : PE X x tx) (m : M2 X o "get" apos e x cpos) : PE X (.Call (.Attribute o "get" apos) [e, x] [] cpos) (tKGet2 X.K X.w to te tx) := by
  refine ⟨fun pins s σ H Q I h => ?_⟩
  refine wpAny_Call_method m.base m.few m.line PySem.F.plainAttrs_dict PySem.F.slot_dict_get PySem.F.type_dict_get (thn (ho.run pins s σ H _ I h) fun u s1 ⟨x, H1, I1, rx, d, es, n, ex, KD, q1⟩ => ?_)
  subst ex
  obtain rfl : u = Value.ref d := rx
  refine ⟨kd_type KD I1, fun b q => by cases q; exact ⟨_, I1.kIn _ _ KD.at_, rfl⟩, ?_⟩
  rw [m.trees]
  refine Calls.callWith_builtin rfl (Calls.evalArgs_plain (Calls.spliced_cons (thn (he.run pins s1 σ H1 _ I1 q1) fun iv s2 ⟨y, H2, I2, ry, q2⟩ =>
    Calls.spliced_cons (thn (hf.run pins s2 σ H2 _ I2 q2) fun fv s3 ⟨z, H3, I3, rz, k, r, v, ey, hn, hr, q3⟩ => Calls.spliced_nil ?_))))
  subst ey
  obtain ⟨t, rfl⟩ := ry
  refine call_meetsIn PySem.F.slot_dict_get (kd_type KD I3) PySem.F.entry_dict_get (PySem.F.args_dict_get_3 _ _ _) (meets_dict_get_default (strKind X.prog X.w) d (strKind_is X.prog X.w k t) KD.low fv) ⟨_, W.mapOf_K (prog := X.prog) I3.kIn KD.at_ KD.lit, ?_⟩
  rw [W.find_K KD.at_ hn]
  refine ⟨v, H3, I3.tok _, ?_, q3⟩
  rcases hr with ⟨rfl, rfl⟩ | ⟨u, rfl, ru⟩
  · exact rz
  · exact ru
def wKGet2 (f : Str → Option D) (we wx : WE) : WE := fun Γ M Q => we Γ M fun y Γ1 M1 => wx Γ1 M1 fun z Γ2 M2 => match y with
  | .str k => Q ((f k).getD z) Γ2 M2
  | _ => False
theorem pd_kget2 (KM : KMap X.K X.w d f) (ho : PDE X o to (wC (.ptr d))) (he : PDE X e te we) (hf : PDE X x tx wx) (h1 : attributeBase o "get" X.env (eval o X.env) = eval o X.env := by rfl)
    (h2 : ((backTo cpos (starEach [e, x] X.env)).all (fun x => !x.1) && (backToKw cpos (keywordEach [] X.env)).all (fun x => x.1.isSome)
    && decide (([e, x] : List Expr).length + ([] : List Keyword).length + (if ([] : List Keyword).isEmpty then 0 else 1) < 30)) = true := by rfl) (h3 : (apos.endLine == cpos.line) = true := by rfl) (h4 : backTo cpos (starEach [e, x] X.env) = [(false, eval e X.env), (false, eval x X.env)] := by rfl) :
    PDE X (.Call (.Attribute o "get" apos) [e, x] [] cpos) (tKGet2 X.K X.w to te tx) (wKGet2 f we wx) := ⟨pe_kget2 ho.pe he.pe hf.pe ⟨h1, h2, h3, h4⟩, fun Γ M Q q F σ H R s l k => by
  obtain ⟨es, n, KD, hall⟩ := KM.ex
  have q1 : DE X.K to Γ M fun y Γ1 M1 => y = .ptr d ∧ we Γ1 M1 fun y Γ1 M1 => wx Γ1 M1 fun z Γ2 M2 => match y with
    | .str k => Q ((f k).getD z) Γ2 M2
    | _ => False := ho.sd _ _ _ ⟨rfl, q⟩
  refine q1 F σ H _ s l fun F1 v1 H1 d1 Γ1 M1 e1 s1 l1 i1 ⟨ed, q2⟩ => ?_
  subst ed
  cases i1
  refine ⟨d, es, n, rfl, KD, ?_⟩
  refine he.sd _ _ _ q2 F1 σ H1 _ s1 l1 fun F2 v2 H2 d2 Γ2 M2 e2 s2 l2 i2 q3 => ?_
  refine hf.sd _ _ _ q3 F2 σ H2 _ s2 l2 fun F3 v3 H3 d3 Γ3 M3 e3 s3 l3 i3 q4 => ?_
  cases d2 with
  | str kk =>
    cases i2
    obtain ⟨r, hn, h0, hs⟩ := hall kk
    have q5 : Q ((f kk).getD d3) Γ3 M3 := q4
    cases hf : f kk with
    | none =>
      rw [hf] at q5
      exact ⟨kk, r, v3, rfl, hn, .inl ⟨h0 hf, rfl⟩, k F3 v3 H3 d3 Γ3 M3 ((e1.trans e2).trans e3) s3 l3 i3 q5⟩
    | some dv =>
      rw [hf] at q5
      obtain ⟨u, v, rfl, rv, iv⟩ := hs dv hf
      exact ⟨kk, _, v, rfl, hn, .inr ⟨u, rfl, rv⟩, k F3 v H3 dv Γ3 M3 ((e1.trans e2).trans e3) s3 l3 (iv F3) q5⟩
  | _ => exact q4.elim⟩
def wKIx (f : Str → Option D) (we : WE) : WE := fun Γ M Q => we Γ M fun y Γ1 M1 => match y with
  | .str k => match f k with
    | some d => Q d Γ1 M1
    | none => False
  | _ => False
theorem pd_kix {pos : Pos} (KM : KMap X.K X.w d f) (ho : PDE X o to (wC (.ptr d))) (he : PDE X e te we) (hs : PlainIx e) : PDE X (.Subscript o e pos) (tOp (rIxD X.K X.w) to te) (wKIx f we) := ⟨pe_ix ix_kdict ho.pe he.pe hs, fun Γ M Q q => de_op (by
  obtain ⟨es, n, KD, hall⟩ := KM.ex
  have q1 : DE X.K to Γ M fun y Γ1 M1 => y = .ptr d ∧ we Γ1 M1 fun y Γ1 M1 => match y with
    | .str k => match f k with
      | some d => Q d Γ1 M1
      | none => False
    | _ => False := ho.sd _ _ _ ⟨rfl, q⟩
  refine q1.imp fun x Γ1 M1 ⟨ex, q2⟩ => (he.sd _ _ _ q2).imp fun y Γ2 M2 q3 => ?_
  subst ex
  cases y with
  | str kk =>
    have q4 : (match f kk with
      | some d => Q d Γ2 M2
      | none => False) := q3
    split at q4
    · rename_i dv hf
      intro F σ H vx vy R s l ix iy k
      cases ix; cases iy
      obtain ⟨r, hn, _, hs⟩ := hall kk
      obtain ⟨u, v, rfl, rv, iv⟩ := hs dv hf
      exact ⟨d, kk, v, rfl, rfl, ⟨es, n, u, KD.at_, KD.lit, hn, rv⟩, k F v H dv Γ2 M2 (Same.refl F) s l (iv F) q4⟩
    · exact q4.elim
  | _ => exact q3.elim)⟩
end
/-- the ranks of tokens -/
def rankD (z : Str) : Option D := if z = ")" then some (.int 0) else if z = "+" ∨ z = "-" then some (.int 1) else if z = "*" ∨ z = "/" then some (.int 2) else none
end D2

set_option maxRecDepth 100000
set_option maxHeartbeats 400000
namespace D2
open PySem PySem.Spec PyProof.Rows L2
/-! ### the shunting yard -/
def wd (v : Int × Str) : D := .tup [.str v.2]
abbrev eP : Int × Str := (0, "(")
abbrev eR : Int × Str := (0, "root")
abbrev eN : Int × Str := (1, "neg")
inductive Post : List Str → List D → List (Int × Str) → Str → List D → Prop
  | done {o : List D} {W : List (Int × Str)} {b : Str} : Post [] o W b (o ++ W.map wd)
  | shutP {r : List Str} {o : List D} {V W : List (Int × Str)} {b : Str} {res : List D} : (∀ v ∈ V, 1 ≤ v.1) → Post r (o ++ V.map wd) W ")" res → Post (")" :: r) o (V ++ eP :: W) b res
  | shutR {r : List Str} {o : List D} {V W : List (Int × Str)} {b : Str} {res : List D} : (∀ v ∈ V, 1 ≤ v.1) → Post r (o ++ V.map wd ++ [encS .root]) W ")" res → Post (")" :: r) o (V ++ eR :: W) b res
  | openP {r : List Str} {o : List D} {W : List (Int × Str)} {b : Str} {res : List D} : b ≠ "root" → Post r o (eP :: W) "(" res → Post ("(" :: r) o W b res
  | openR {r : List Str} {o : List D} {W : List (Int × Str)} {res : List D} : Post r o (eR :: W) "(" res → Post ("(" :: r) o W "root" res
  | op {r : List Str} {o : List D} {V W : List (Int × Str)} {b : Str} {res : List D} (x : Bn) : (∀ v ∈ V, x.lvl ≤ v.1) → (∀ v ∈ W.head?, v.1 < x.lvl) → b ≠ "(" → r ≠ [] → Post r (o ++ V.map wd) ((x.lvl, x.tok) :: W) x.tok res → Post (x.tok :: r) o (V ++ W) b res
  | neg {r : List Str} {o : List D} {W : List (Int × Str)} {res : List D} : (∀ v ∈ W.head?, v.1 < 1) → r ≠ [] → Post r o (eN :: W) "-" res → Post ("-" :: r) o W "(" res
  | hat {r : List Str} {o : List D} {W : List (Int × Str)} {b : Str} {res : List D} : Post r o W "^" res → Post ("^" :: r) o W b res
  | root {r : List Str} {o : List D} {W : List (Int × Str)} {b : Str} {res : List D} : Post r o W "root" res → Post ("root" :: r) o W b res
  | arg {r : List Str} {o : List D} {W : List (Int × Str)} {b w : Str} {res : List D} {st : Step} : OpStep w b st → Post r (o ++ [encS st]) W w res → Post (w :: r) o W b res
theorem Post.to {r : List Str} {o o' : List D} {W W' : List (Int × Str)} {b : Str} {res : List D} (h : Post r o W b res) (e1 : o = o') (e2 : W = W') : Post r o' W' b res := by subst e1; subst e2; exact h
def plainB (b : Str) : Prop := b ≠ "(" ∧ b ≠ "^" ∧ b ≠ "root"
theorem num_plain {n : Int} (h : 0 ≤ n) : plainB (numS n) := ⟨num_ne h (by decide +kernel), num_ne h (by decide +kernel), num_ne h (by decide +kernel)⟩
theorem name_plain {x : Str} (h : nameB x = true) : plainB x := ⟨run_not (c := 40) (name_run h) (by decide +kernel), run_not (c := 94) (name_run h) (by decide +kernel), name_word h (by decide)⟩
theorem post_lo {k : Nat} {t : Tr} {l : Int} {a : List Str} (h : Lo k t l a) : ∀ {rest : List Str} {o : List D} {W : List (Int × Str)} {b : Str} {res : List D}, GoodT t → 1 ≤ l → (b = "(" ∨ 2 ≤ l) → b ≠ "^" → b ≠ "root" → (∀ v ∈ W.head?, v.1 < l) →
    (∀ (p : List D) (V : List (Int × Str)) (b' : Str), p ++ V.map wd = (stepsT t).map encS → (∀ v ∈ V, l ≤ v.1) → (3 ≤ l → V = []) → plainB b' → Post rest (o ++ p) (V ++ W) b' res) → Post (a ++ rest) o W b res := by
  induction h with
  | num n =>
    intro rest o W b res g hl hb h1 h2 hW hk
    exact .arg (.num n h1 g.1 g.2) (hk [encS (.num n)] [] _ rfl (fun _ h => nomatch h) (fun _ => rfl) (num_plain g.1))
  | name n =>
    intro rest o W b res g hl hb h1 h2 hW hk
    exact .arg (.name h1 g) (hk [encS (.name n)] [] _ rfl (fun _ h => nomatch h) (fun _ => rfl) (name_plain g))
  | im =>
    intro rest o W b res g hl hb h1 h2 hW hk
    exact .arg (.im h1) (hk [encS .im] [] _ rfl (fun _ h => nomatch h) (fun _ => rfl) ⟨by decide, by decide, by decide⟩)
  | @root k l t a h ih =>
    intro rest o W b res g hl hb h1 h2 hW hk
    show Post (("root" : Str) :: ("(" : Str) :: ((a ++ [(")" : Str)]) ++ rest)) o W b res
    rw [List.append_assoc]
    refine .root (.openR (ih g (by decide) (.inl rfl) (by decide) (by decide) (fun v hv => by cases hv; decide) fun p V b' e hV _ hb' => ?_))
    refine .shutR hV ((hk (p ++ V.map wd ++ [encS .root]) [] ")" ?_ (fun _ h => nomatch h) (fun _ => rfl) ⟨by decide, by decide, by decide⟩).to ?_ rfl)
    · rw [e]
      show _ = (stepsT t ++ [Step.root]).map encS
      rw [List.map_append]
      simp
    · simp only [List.append_assoc]
  | @pow k l t a e hl3 h ih =>
    intro rest o W b res g hl hb h1 h2 hW hk
    rw [List.append_assoc]
    refine ih g.1 (by decide) (.inr (by decide)) h1 h2 (fun v hv => by have := hW v hv; omega) fun p V b' e1 hV hV0 hb' => ?_
    have hV1 := hV0 (by decide)
    subst hV1
    refine .hat (.arg (.pow e g.2.1 g.2.2) ((hk (p ++ [encS (.pow e)]) [] _ ?_ (fun _ h => nomatch h) (fun _ => rfl) (num_plain g.2.1)).to ?_ rfl))
    · rw [List.map_nil, List.append_nil] at e1 ⊢
      rw [e1]
      show _ = (stepsT t ++ [Step.pow e]).map encS
      rw [List.map_append]
      rfl
    · simp only [List.append_assoc]
  | @neg k l t a hl1 h ih =>
    intro rest o W b res g hl hb h1 h2 hW hk
    have hb1 : b = "(" := by
      rcases hb with hb | hb
      · exact hb
      · omega
    subst hb1
    obtain ⟨w0, r0, ea, _⟩ := h.head g (by decide)
    refine .neg (fun v hv => by have := hW v hv; omega) (by rw [ea]; simp) (ih g (by decide) (.inr (by decide)) (by decide) (by decide) (fun v hv => by cases hv; decide) fun p V b' e1 hV hV0 hb' => ?_)
    refine (hk p (V ++ [eN]) b' ?_ (fun v hv => ?_) (fun z => by omega) hb').to rfl (List.append_assoc _ _ _)
    · rw [List.map_append, ← List.append_assoc, e1]
      show _ = (stepsT t ++ [Step.neg]).map encS
      rw [List.map_append]
      rfl
    · rcases List.mem_append.mp hv with hv | hv
      · have := hV v hv; omega
      · rw [List.mem_singleton.mp hv]; show l ≤ 1; omega
  | @bin k l x y a b2 o2 hlo h1' h2' ih1 ih2 =>
    intro rest o W b res g hl hb h1 h2 hW hk
    have hlv := lvl_cases o2
    rw [List.append_assoc]
    refine ih1 g.1 (by omega) (by rcases hb with hb | hb; exact .inl hb; exact .inr (by omega)) h1 h2 (fun v hv => by have := hW v hv; omega) fun p V b' e1 hV hV0 hb' => ?_
    obtain ⟨w0, r0, ea, _⟩ := h2'.head g.2 (by omega)
    refine .op o2 hV (fun v hv => by have := hW v hv; omega) hb'.1 (by rw [ea]; simp) ?_
    refine ih2 g.2 (by omega) (.inr (by omega)) (by cases o2 <;> decide) (by cases o2 <;> decide) (fun v hv => by cases hv; show o2.lvl < _; omega) fun p2 V2 b2' e2 hV2 _ hb2 => ?_
    refine (hk (p ++ V.map wd ++ p2) (V2 ++ [(o2.lvl, o2.tok)]) b2' ?_ (fun v hv => ?_) (fun z => by omega) hb2).to ?_ ?_
    · rw [List.map_append]
      have : p ++ V.map wd ++ p2 ++ (V2.map wd ++ [(o2.lvl, o2.tok)].map wd) = (p ++ V.map wd) ++ (p2 ++ V2.map wd) ++ [encS (.bin o2)] := by
        simp only [List.append_assoc]
        rfl
      rw [this, e1, e2]
      show _ = (stepsT x ++ stepsT y ++ [Step.bin o2]).map encS
      rw [List.map_append, List.map_append]
      rfl
    · rcases List.mem_append.mp hv with hv | hv
      · have := hV2 v hv; omega
      · rw [List.mem_singleton.mp hv]; exact hlo
    · simp only [List.append_assoc]
    · rw [List.append_assoc]; rfl
  | @par k l t a h ih =>
    intro rest o W b res g hl hb h1 h2 hW hk
    show Post (("(" : Str) :: ((a ++ [(")" : Str)]) ++ rest)) o W b res
    rw [List.append_assoc]
    refine .openP h2 (ih g (by decide) (.inl rfl) (by decide) (by decide) (fun v hv => by cases hv; decide) fun p V b' e hV _ hb' => ?_)
    refine .shutP hV ((hk (p ++ V.map wd) [] ")" ?_ (fun _ h => nomatch h) (fun _ => rfl) ⟨by decide, by decide, by decide⟩).to ?_ rfl)
    · rw [e]; simp
    · simp only [List.append_assoc]
theorem post_all {k : Nat} {t : Tr} {a : List Str} (h : Lo k t 1 a) (g : GoodT t) : Post a [] [] "(" ((stepsT t).map encS) := by
  have := post_lo h (rest := []) (o := []) (W := []) (b := "(") (res := (stepsT t).map encS) g (by decide) (.inl rfl) (by decide) (by decide) (fun v hv => nomatch hv) fun p V b' e _ _ _ => by
    have z := Post.done (o := [] ++ p) (W := V ++ []) (b := b')
    rw [List.append_nil, List.nil_append, e] at z
    exact z.to rfl (List.append_nil V).symm
  rw [List.append_nil] at this
  exact this
/-! ### three cells -/
theorem atI_any {α : Type} {l : List α} {j : Int} (h0 : -(l.length : Int) ≤ j) (h1 : j < l.length) : ∃ x, atI l j = some x := by
  unfold atI ixN
  by_cases h : 0 ≤ j
  · rw [if_pos h, if_pos h1]
    exact ⟨_, List.getElem?_eq_getElem (by omega)⟩
  · rw [if_neg h, if_pos h0]
    exact ⟨_, List.getElem?_eq_getElem (by omega)⟩
theorem thaw_ne {a b : Addr} {d : D} {Γ : Ga} {i : Nat} (h : Γ[i]? = some (some (.ptr b))) (hne : b ≠ a) : (thaw a d Γ)[i]? = some (some (.ptr b)) := by
  unfold thaw
  rw [List.getElem?_map, h]
  show some (if b = a then some d else some (D.ptr b)) = _
  rw [if_neg hne]
theorem Mem.at31 {M : Mem} {a b c : Addr} {x y z : MO} (h1 : c ≠ a) (h2 : b ≠ a) : (((M.put a x).put b y).put c z) a = some x := by rw [Mem.put_ne (Ne.symm h1), Mem.at2 h2]
theorem Mem.put31 {M : Mem} {a b c : Addr} {x y z x' : MO} (h1 : c ≠ a) (h2 : b ≠ a) : (((M.put a x).put b y).put c z).put a x' = ((M.put a x').put b y).put c z := by rw [Mem.put_comm (Ne.symm h1), Mem.put2 h2]
theorem Mem.put32 {M : Mem} {b c : Addr} {y z y' : MO} (h : c ≠ b) : ((M.put b y).put c z).put b y' = (M.put b y').put c z := Mem.put2 h
theorem last_at {α : Type} (l : List α) (x : α) : atI (l ++ [x]) (-1) = some x := by
  have hl : (l ++ [x]).length = l.length + 1 := by simp
  unfold atI ixN
  rw [if_neg (by decide), hl]
  split
  · rename_i h
    show (l ++ [x])[(-1 + ((l.length + 1 : Nat) : Int)).toNat]? = _
    rw [show (-1 + ((l.length + 1 : Nat) : Int)).toNat = l.length from by omega]
    simp
  · rename_i h
    omega
theorem pop_at {α : Type} (l : List α) (x : α) : (l ++ [x])[(l ++ [x]).length - 1]? = some x := by simp
/-! ### the automaton accepts -/
def runA : List Str → Int → Int → Option (Int × Int)
  | [], s, d => some (s, d)
  | w :: r, s, d => if (nextS s d w).1 = 6 then none else runA r (nextS s d w).1 (nextS s d w).2
theorem runA_bad {n : Int} : ∀ {TL : List (Str × Nat)} {s d : Int} {s' : Int}, runA (TL.map (·.1)) s d = some (s', 0) → 4 ≤ s' → badF n TL s d = -1
  | [], s, d, s', h, h4 => by
    cases h
    show (if 4 ≤ s ∧ (0 : Int) = 0 then (-1 : Int) else n) = -1
    rw [if_pos ⟨h4, rfl⟩]
  | (w, k) :: r, s, d, s', h, h4 => by
    show (if (nextS s d w).1 = 6 then (k : Int) else badF n r (nextS s d w).1 (nextS s d w).2) = -1
    have h' : (if (nextS s d w).1 = 6 then none else runA (r.map (·.1)) (nextS s d w).1 (nextS s d w).2) = some (s', 0) := h
    by_cases e : (nextS s d w).1 = 6
    · rw [if_pos e] at h'; cases h'
    · rw [if_neg e] at h' ⊢
      exact runA_bad h' h4
theorem numL_head : ∀ m : Nat, 0 < m → ∃ c l, TL.numL m = c :: l ∧ c ≠ 48 := by
  intro m
  induction m using Nat.strongRecOn with
  | _ m ih =>
    intro h0
    by_cases h : m < 10
    · exact ⟨48 + m, [], TL.numL_lt h, by omega⟩
    · obtain ⟨c, l, e, hc⟩ := ih (m / 10) (by omega) (by omega)
      exact ⟨c, l ++ [48 + m % 10], by rw [TL.numL_step (by omega), e]; rfl, hc⟩
theorem dig_num {n : Int} (h0 : 0 ≤ n) : digB (numS n) = true := by
  obtain ⟨m, rfl⟩ := Int.eq_ofNat_of_zero_le h0
  have e : (numS (m : Int)).cps.toList = TL.numL m := TL.tl_num m
  have hall : (TL.numL m).all (fun c => decide (c ∈ digsS.cps.toList)) = true := by
    rw [List.all_eq_true]
    intro c hc
    have := TL.numL_digits m c hc
    have h : ∀ c : Nat, c < 58 → 48 ≤ c → decide (c ∈ digsS.cps.toList) = true := by decide +kernel
    exact h c (by omega) this.1
  unfold digB
  split
  · rename_i z; rw [e] at z; exact absurd z (TL.numL_ne m)
  · rename_i c l z
    rw [e] at z ⊢
    rw [hall, Bool.and_true]
    by_cases hm : m = 0
    · subst hm
      have : numS ((0 : Nat) : Int) = "0" := by decide +kernel
      rw [decide_eq_true this]
      simp
    · obtain ⟨c2, l2, e2, hc2⟩ := numL_head m (by omega)
      rw [e2] at z
      injection z with z1 z2
      rw [decide_eq_false (show ¬ c = 48 by omega)]
      rfl
theorem next_arg {s d : Int} {w : Str} (hs : s = 0 ∨ s = 1) (h1 : w ≠ "(") (h2 : w ≠ "root") (h3 : w ≠ "-") (h4 : (decide (w = "i") || (nameB w || digB w)) = true) : nextS s d w = (4, d) := by
  unfold nextS
  rw [if_pos (show s ≤ 1 by omega), if_neg h1, if_neg h2, if_neg fun z => h3 z.1, h4, if_pos rfl]
theorem runA_cons {w : Str} {r : List Str} {s d s' d' : Int} (h : nextS s d w = (s', d')) (h6 : s' ≠ 6) : runA (w :: r) s d = runA r s' d' := by
  show (if (nextS s d w).1 = 6 then none else runA r (nextS s d w).1 (nextS s d w).2) = _
  rw [h, if_neg h6]
theorem next_op {s d : Int} (hs : s = 4 ∨ s = 5) (o : Bn) : nextS s d o.tok = (1, d) := by
  unfold nextS
  rw [if_neg (show ¬ s ≤ 1 by omega), if_neg (show ¬ s = 2 by omega), if_neg (show ¬ s = 3 by omega)]
  cases o
  all_goals
    rw [if_neg (by decide), if_pos (by decide)]
theorem next_shut {s d : Int} (hs : s = 4 ∨ s = 5) (hd : 0 < d) : nextS s d ")" = (4, d - 1) := by
  unfold nextS
  rw [if_neg (show ¬ s ≤ 1 by omega), if_neg (show ¬ s = 2 by omega), if_neg (show ¬ s = 3 by omega), if_neg (by decide), if_neg (by decide), if_pos ⟨rfl, hd⟩]
theorem next_open {s d : Int} (hs : s = 0 ∨ s = 1) : nextS s d "(" = (0, d + 1) := by
  unfold nextS
  rw [if_pos (show s ≤ 1 by omega), if_pos rfl]
theorem next_root {s d : Int} (hs : s = 0 ∨ s = 1) : nextS s d "root" = (2, d) := by
  unfold nextS
  rw [if_pos (show s ≤ 1 by omega), if_neg (by decide), if_pos rfl]
theorem next_rootP {d : Int} : nextS 2 d "(" = (0, d + 1) := by
  unfold nextS
  rw [if_neg (by decide), if_pos rfl, if_pos rfl]
theorem next_hat {d : Int} : nextS 4 d "^" = (3, d) := by
  unfold nextS
  rw [if_neg (by decide), if_neg (by decide), if_neg (by decide), if_pos rfl, if_pos rfl]
theorem next_minus {d : Int} : nextS 0 d "-" = (1, d) := by
  unfold nextS
  rw [if_pos (by decide), if_neg (by decide), if_neg (by decide), if_pos ⟨rfl, rfl⟩]
theorem next_exp {d e : Int} (h0 : 0 ≤ e) (h1 : e < 1000) : nextS 3 d (numS e) = (5, d) := by
  unfold nextS
  rw [if_neg (by decide), if_neg (by decide), if_pos rfl, if_pos ⟨dig_num h0, num_len3 h0 h1⟩]
theorem auto_lo {k : Nat} {t : Tr} {l : Int} {a : List Str} (h : Lo k t l a) : GoodT t → ∀ (s d : Int) (rest : List Str), (s = 0 ∨ s = 1) → (s = 1 → 2 ≤ l) → 0 ≤ d → 1 ≤ l → ∃ s', (s' = 4 ∨ s' = 5) ∧ (4 ≤ l → s' = 4) ∧ runA (a ++ rest) s d = runA rest s' d := by
  induction h with
  | num n =>
    intro g s d rest hs _ hd hl
    have := num_plain g.1
    exact ⟨4, .inl rfl, fun _ => rfl, runA_cons (next_arg hs this.1 this.2.2 (num_ne g.1 (by decide +kernel)) (by rw [dig_num g.1]; simp)) (by decide)⟩
  | name n =>
    intro g s d rest hs _ hd hl
    have := name_plain g
    exact ⟨4, .inl rfl, fun _ => rfl, runA_cons (next_arg hs this.1 this.2.2 (run_not (c := 45) (name_run g) (by decide +kernel)) (by rw [show nameB n = true from g]; simp)) (by decide)⟩
  | im =>
    intro g s d rest hs _ hd hl
    exact ⟨4, .inl rfl, fun _ => rfl, runA_cons (next_arg hs (by decide) (by decide) (by decide) (by rfl)) (by decide)⟩
  | @root k l t a h ih =>
    intro g s d rest hs _ hd hl
    obtain ⟨s', h1, h2, h3⟩ := ih g 0 (d + 1) ((")" : Str) :: rest) (.inl rfl) (fun z => by omega) (by omega) (by decide)
    refine ⟨4, .inl rfl, fun _ => rfl, ?_⟩
    show runA (("root" : Str) :: ("(" : Str) :: ((a ++ [(")" : Str)]) ++ rest)) s d = _
    rw [List.append_assoc, runA_cons (next_root hs) (by decide), runA_cons next_rootP (by decide)]
    refine h3.trans ?_
    rw [runA_cons (next_shut h1 (by omega)) (by decide), show d + 1 - 1 = d from by omega]
  | @pow k l t a e hl3 h ih =>
    intro g s d rest hs hsl hd hl
    obtain ⟨s', h1, h2, h3⟩ := ih g.1 s d (("^" : Str) :: numS e :: rest) hs (fun _ => by decide) hd (by decide)
    refine ⟨5, .inr rfl, fun z => by omega, ?_⟩
    rw [List.append_assoc]
    refine h3.trans ?_
    rw [h2 (by decide), runA_cons next_hat (by decide), runA_cons (next_exp g.2.1 g.2.2) (by decide)]
  | @neg k l t a hl1 h ih =>
    intro g s d rest hs hsl hd hl
    have hs0 : s = 0 := by
      rcases hs with hs | hs
      · exact hs
      · have := hsl hs; omega
    subst hs0
    obtain ⟨s', h1, h2, h3⟩ := ih g 1 d rest (.inr rfl) (fun _ => by decide) hd (by decide)
    refine ⟨s', h1, fun z => by omega, ?_⟩
    show runA (("-" : Str) :: (a ++ rest)) 0 d = _
    rw [runA_cons next_minus (by decide)]
    exact h3
  | @bin k l x y a b o hlo h1' h2' ih1 ih2 =>
    intro g s d rest hs hsl hd hl
    have hlv := lvl_cases o
    obtain ⟨s1, h1, _, h3⟩ := ih1 g.1 s d (o.tok :: (b ++ rest)) hs (fun z => by have := hsl z; omega) hd (by omega)
    obtain ⟨s2, h4, _, h5⟩ := ih2 g.2 1 d rest (.inr rfl) (fun _ => by omega) hd (by omega)
    refine ⟨s2, h4, fun z => by omega, ?_⟩
    rw [List.append_assoc]
    refine h3.trans ?_
    rw [runA_cons (next_op h1 o) (by decide)]
    exact h5
  | @par k l t a h ih =>
    intro g s d rest hs _ hd hl
    obtain ⟨s', h1, h2, h3⟩ := ih g 0 (d + 1) ((")" : Str) :: rest) (.inl rfl) (fun z => by omega) (by omega) (by decide)
    refine ⟨4, .inl rfl, fun _ => rfl, ?_⟩
    show runA (("(" : Str) :: ((a ++ [(")" : Str)]) ++ rest)) s d = _
    rw [List.append_assoc, runA_cons (next_open hs) (by decide)]
    refine h3.trans ?_
    rw [runA_cons (next_shut h1 (by omega)) (by decide), show d + 1 - 1 = d from by omega]
theorem bad_none {k : Nat} {t : Tr} {TL : List (Str × Nat)} (h : Lo k t 1 (TL.map (·.1))) (g : GoodT t) (n : Int) : badF n TL 0 0 = -1 := by
  obtain ⟨s', h1, _, h3⟩ := auto_lo h g 0 0 [] (.inl rfl) (fun z => by omega) (by decide) (by decide)
  rw [List.append_nil] at h3
  exact runA_bad (s' := s') h3 (by omega)
def wD (x : Int × Str × Int) : D := .tup [.int x.1, .str x.2.1, .int x.2.2]
def pr (x : Int × Str × Int) : Int × Str := (x.1, x.2.1)
/-- what a token does when the higher ranks are out -/
inductive Nx : Str → Str → List D → List (Int × Str × Int) → List Str → List D → Prop
  | shutP {b : Str} {o : List D} {W : List (Int × Str × Int)} {r : List Str} {res : List D} (pl : Int) : Post r o (W.map pr) ")" res → Nx ")" b o ((0, "(", pl) :: W) r res
  | shutR {b : Str} {o : List D} {W : List (Int × Str × Int)} {r : List Str} {res : List D} (pl : Int) : Post r (o ++ [encS .root]) (W.map pr) ")" res → Nx ")" b o ((0, "root", pl) :: W) r res
  | openP {b : Str} {o : List D} {W : List (Int × Str × Int)} {r : List Str} {res : List D} : b ≠ "root" → Post r o (eP :: W.map pr) "(" res → Nx "(" b o W r res
  | openR {o : List D} {W : List (Int × Str × Int)} {r : List Str} {res : List D} : Post r o (eR :: W.map pr) "(" res → Nx "(" "root" o W r res
  | op {b : Str} {o : List D} {W : List (Int × Str × Int)} {r : List Str} {res : List D} (x : Bn) : b ≠ "(" → r ≠ [] → Post r o ((x.lvl, x.tok) :: W.map pr) x.tok res → Nx x.tok b o W r res
  | neg {o : List D} {W : List (Int × Str × Int)} {r : List Str} {res : List D} : r ≠ [] → Post r o (eN :: W.map pr) "-" res → Nx "-" "(" o W r res
  | hat {b : Str} {o : List D} {W : List (Int × Str × Int)} {r : List Str} {res : List D} : Post r o (W.map pr) "^" res → Nx "^" b o W r res
  | root {b : Str} {o : List D} {W : List (Int × Str × Int)} {r : List Str} {res : List D} : Post r o (W.map pr) "root" res → Nx "root" b o W r res
  | arg {b w : Str} {o : List D} {W : List (Int × Str × Int)} {r : List Str} {res : List D} {st : Step} : OpStep w b st → Post r (o ++ [encS st]) (W.map pr) w res → Nx w b o W r res
theorem op_plain {w b : Str} {st : Step} (h : OpStep w b st) : rankD w = none ∧ w ≠ ")" ∧ w ≠ "(" ∧ w ≠ "^" ∧ w ≠ "root" := by
  have key : ∀ w : Str, (∀ c ∈ [40, 41, 42, 43, 45, 47, 94], w ≠ ⟨#[c]⟩) → w ≠ "root" → rankD w = none ∧ w ≠ ")" ∧ w ≠ "(" ∧ w ≠ "^" ∧ w ≠ "root" := by
    intro w h hr
    have h1 : w ≠ ")" := h 41 (by decide)
    have h2 : w ≠ "+" := h 43 (by decide)
    have h3 : w ≠ "-" := h 45 (by decide)
    have h4 : w ≠ "*" := h 42 (by decide)
    have h5 : w ≠ "/" := h 47 (by decide)
    refine ⟨?_, h1, h 40 (by decide), h 94 (by decide), hr⟩
    unfold rankD
    rw [if_neg h1, if_neg (fun z => z.elim h2 h3), if_neg (fun z => z.elim h4 h5)]
  have hns : ∀ c ∈ [40, 41, 42, 43, 45, 47, 94], runC c = false := by decide +kernel
  cases h with
  | pow e h0 h1 => exact key _ (fun c hc => run_not (digits_run h0) (hns c hc)) (num_ne h0 (by decide +kernel))
  | im => exact key _ (fun c hc => run_not (c := c) ⟨by decide, by decide +kernel⟩ (hns c hc)) (by decide)
  | num n hb h0 h1 => exact key _ (fun c hc => run_not (digits_run h0) (hns c hc)) (num_ne h0 (by decide +kernel))
  | name hb hn => exact key _ (fun c hc => run_not (name_run hn) (hns c hc)) (name_word hn (by decide))
theorem map_cut {W : List (Int × Str × Int)} {V W' : List (Int × Str)} (h : W.map pr = V ++ W') : ∃ V3 W3, W = V3 ++ W3 ∧ V3.map pr = V ∧ W3.map pr = W' := by
  obtain ⟨a, b, h1, h2, h3⟩ := List.map_eq_append_iff.mp h
  exact ⟨a, b, h1, h2, h3⟩
theorem map_one {W : List (Int × Str × Int)} {e : Int × Str} {W' : List (Int × Str)} (h : W.map pr = e :: W') : ∃ pl W3, W = (e.1, e.2, pl) :: W3 ∧ W3.map pr = W' := by
  obtain ⟨a, b, h1, h2, h3⟩ := List.map_eq_cons_iff.mp h
  obtain ⟨i, s, pl⟩ := a
  subst h2
  exact ⟨pl, b, h1, h3⟩
theorem post_step {w : Str} {r : List Str} {o : List D} {W3 : List (Int × Str × Int)} {b : Str} {res : List D} (h : Post (w :: r) o (W3.map pr) b res) : ∃ (rk : Int) (V W : List (Int × Str × Int)), (rankD w).getD (.int 3) = .int rk ∧ W3 = V ++ W ∧
    (∀ v ∈ V, rk < 3 ∧ (if rk > 1 then rk else 1) ≤ v.1) ∧ (rk < 3 → ∀ v ∈ W.head?, v.1 < (if rk > 1 then rk else 1)) ∧ Nx w b (o ++ V.map fun v => wd (pr v)) W r res := by
  generalize hL : w :: r = L at h
  generalize hW : W3.map pr = Wp at h
  have e0 : ∀ (o : List D), o ++ ([] : List (Int × Str × Int)).map (fun v => wd (pr v)) = o := fun o => List.append_nil o
  have mm : ∀ V : List (Int × Str × Int), (V.map pr).map wd = V.map fun v => wd (pr v) := fun V => List.map_map
  cases h with
  | done => cases hL
  | shutP hV hP =>
    injection hL with h1 h2
    subst h1; subst h2
    obtain ⟨V3, W1, rfl, rfl, hW1⟩ := map_cut hW
    obtain ⟨pl, W2, rfl, rfl⟩ := map_one hW1
    rw [mm] at hP
    exact ⟨0, V3, _, rfl, rfl, fun v hv => ⟨by decide, by have := hV (pr v) (List.mem_map_of_mem hv); exact this⟩, fun _ v hv => by cases hv; show (0 : Int) < 1; decide, .shutP pl hP⟩
  | shutR hV hP =>
    injection hL with h1 h2
    subst h1; subst h2
    obtain ⟨V3, W1, rfl, rfl, hW1⟩ := map_cut hW
    obtain ⟨pl, W2, rfl, rfl⟩ := map_one hW1
    rw [mm] at hP
    exact ⟨0, V3, _, rfl, rfl, fun v hv => ⟨by decide, by have := hV (pr v) (List.mem_map_of_mem hv); exact this⟩, fun _ v hv => by cases hv; show (0 : Int) < 1; decide, .shutR pl hP⟩
  | openP hb hP =>
    injection hL with h1 h2
    subst h1; subst h2; subst hW
    exact ⟨3, [], W3, rfl, rfl, fun v hv => (nomatch hv), fun z => by omega, (e0 _).symm ▸ .openP hb hP⟩
  | openR hP =>
    injection hL with h1 h2
    subst h1; subst h2; subst hW
    exact ⟨3, [], W3, rfl, rfl, fun v hv => (nomatch hv), fun z => by omega, (e0 _).symm ▸ .openR hP⟩
  | op x hV htop hb hr hP =>
    injection hL with h1 h2
    subst h1; subst h2
    obtain ⟨V3, W1, rfl, rfl, rfl⟩ := map_cut hW
    rw [mm] at hP
    have hx := lvl_cases x
    refine ⟨x.lvl, V3, W1, by cases x <;> rfl, rfl, fun v hv => ⟨by omega, ?_⟩, fun _ v hv => ?_, .op x hb hr hP⟩
    · have : x.lvl ≤ v.1 := hV (pr v) (List.mem_map_of_mem hv)
      rcases hx with hx | hx <;> rw [hx] at this ⊢ <;> exact this
    · have : v.1 < x.lvl := htop (pr v) (by show List.head? _ = some _; rw [List.head?_map, show List.head? _ = some v from hv]; rfl)
      rcases hx with hx | hx <;> rw [hx] at this ⊢ <;> exact this
  | neg htop hr hP =>
    injection hL with h1 h2
    subst h1; subst h2; subst hW
    refine ⟨1, [], W3, rfl, rfl, fun v hv => (nomatch hv), fun _ v hv => ?_, (e0 _).symm ▸ .neg hr hP⟩
    exact htop (pr v) (by show List.head? _ = some _; rw [List.head?_map, show List.head? _ = some v from hv]; rfl)
  | hat hP =>
    injection hL with h1 h2
    subst h1; subst h2; subst hW
    exact ⟨3, [], W3, rfl, rfl, fun v hv => (nomatch hv), fun z => by omega, (e0 _).symm ▸ .hat hP⟩
  | root hP =>
    injection hL with h1 h2
    subst h1; subst h2; subst hW
    exact ⟨3, [], W3, rfl, rfl, fun v hv => (nomatch hv), fun z => by omega, (e0 _).symm ▸ .root hP⟩
  | arg hs hP =>
    injection hL with h1 h2
    subst h1; subst h2; subst hW
    exact ⟨3, [], W3, by rw [(op_plain hs).1]; rfl, rfl, fun v hv => (nomatch hv), fun z => by omega, (e0 _).symm ▸ .arg hs hP⟩
def S_postfix : SpD := fun ds M q => ∃ (TL : List (Str × Nat)) (res : List D), ds = [.lst (TL.map tokD)] ∧ TL.length ≤ 7000000 ∧ Post (TL.map (·.1)) [] [] "(" res ∧ ∀ x, q (.tup [.lst res, x]) M
end D2

set_option maxRecDepth 100000
set_option maxHeartbeats 400000
namespace D2
open PySem PySem.Spec PyProof.Rows L2
/-! ### steps written out -/
def lvT : Tr → Int
  | .num _ | .name _ | .im | .root _ => 4
  | .pow _ _ => 3
  | .neg _ => 1
  | .bin o _ _ => o.lvl
def okL (z : Str) : Prop := z.length ≤ 6400000
inductive Ev : List Step → List (Str × Int) → Str → Prop
  | done {z : Str} {l : Int} {S : List (Str × Int)} : Ev [] ((z, l) :: S) z
  | num {r : List Step} {S : List (Str × Int)} {res : Str} (n : Int) : 0 ≤ n → n < 10 ^ 40 → Ev r ((numS n, 4) :: S) res → Ev (.num n :: r) S res
  | name {r : List Step} {S : List (Str × Int)} {res : Str} (x : Str) : okL x → Ev r ((x, 4) :: S) res → Ev (.name x :: r) S res
  | im {r : List Step} {S : List (Str × Int)} {res : Str} : Ev r (("i", 4) :: S) res → Ev (.im :: r) S res
  | root {r : List Step} {S : List (Str × Int)} {res z : Str} {l : Int} : okL (("root(" : Str) ++ z ++ (")" : Str)) → Ev r ((("root(" : Str) ++ z ++ (")" : Str), 4) :: S) res → Ev (.root :: r) ((z, l) :: S) res
  | pow {r : List Step} {S : List (Str × Int)} {res z : Str} {l : Int} (e : Int) : 0 ≤ e → e < 1000 → okL (brk (decide (l < 4)) z ++ ("^" : Str) ++ numS e) → okL z → Ev r ((brk (decide (l < 4)) z ++ ("^" : Str) ++ numS e, 3) :: S) res → Ev (.pow e :: r) ((z, l) :: S) res
  | neg {r : List Step} {S : List (Str × Int)} {res z : Str} {l : Int} : okL (("-" : Str) ++ brk (decide (l < 2)) z) → okL z → Ev r ((("-" : Str) ++ brk (decide (l < 2)) z, 1) :: S) res → Ev (.neg :: r) ((z, l) :: S) res
  | bin {r : List Step} {S : List (Str × Int)} {res z y : Str} {l h : Int} (o : Bn) : okL (brk (decide (h < o.lvl)) y ++ o.sgn ++ brk (decide (l < o.lvl + 1)) z) → okL z → okL y → Ev r ((brk (decide (h < o.lvl)) y ++ o.sgn ++ brk (decide (l < o.lvl + 1)) z, o.lvl) :: S) res → Ev (.bin o :: r) ((z, l) :: (y, h) :: S) res
theorem shown_brk (t : Tr) {l : Int} (h1 : 1 ≤ l) (h4 : l ≤ 4) : brk (decide (lvT t < l)) (shownT t 1) = shownT t l := by
  cases t with
  | num n => exact brk_f (decide_eq_false (by show ¬ (4 : Int) < l; omega))
  | name n => exact brk_f (decide_eq_false (by show ¬ (4 : Int) < l; omega))
  | im => exact brk_f (decide_eq_false (by show ¬ (4 : Int) < l; omega))
  | root t => exact brk_f (decide_eq_false (by show ¬ (4 : Int) < l; omega))
  | pow t e =>
    show brk (decide (3 < l)) (brk (decide ((3 : Int) < 1)) _) = brk (decide (3 < l)) _
    rw [brk_f (b := decide ((3 : Int) < 1)) (by decide)]
  | neg t =>
    show brk (decide (1 < l)) (brk (decide ((1 : Int) < 1)) _) = brk (decide (1 < l)) _
    rw [brk_f (b := decide ((1 : Int) < 1)) (by decide)]
  | bin o a b =>
    show brk (decide (o.lvl < l)) (brk (decide (o.lvl < 1)) _) = brk (decide (o.lvl < l)) _
    rw [brk_f (b := decide (o.lvl < 1)) (decide_eq_false (by rcases lvl_cases o with q | q <;> omega))]
theorem ev_T : ∀ (t : Tr) {r : List Step} {S : List (Str × Int)} {res : Str}, GoodT t → t.deep ≤ 16 → Ev r ((shownT t 1, lvT t) :: S) res → Ev (stepsT t ++ r) S res
  | .num n, r, S, res, g, hd, h => .num n g.1 g.2 h
  | .name x, r, S, res, g, hd, h => .name x (Nat.le_trans (name_len g) (by decide)) h
  | .im, r, S, res, g, hd, h => .im h
  | .root t, r, S, res, g, hd, h => by
    show Ev ((stepsT t ++ [Step.root]) ++ r) S res
    rw [List.append_assoc]
    exact ev_T t g (by simp only [Tr.deep] at hd; omega) (.root (shown_le (t := .root t) (l := 1) g hd) h)
  | .neg t, r, S, res, g, hd, h => by
    show Ev ((stepsT t ++ [Step.neg]) ++ r) S res
    rw [List.append_assoc]
    have hd' : t.deep ≤ 16 := by simp only [Tr.deep] at hd; omega
    have e : shownT (.neg t) 1 = ("-" : Str) ++ shownT t 2 := brk_f (by decide)
    refine ev_T t g hd' (.neg ?_ (shown_le g hd') ?_)
    · rw [shown_brk t (by decide) (by decide), ← e]; exact shown_le g hd
    · rw [shown_brk t (by decide) (by decide), ← e]; exact h
  | .pow t e, r, S, res, g, hd, h => by
    show Ev ((stepsT t ++ [Step.pow e]) ++ r) S res
    rw [List.append_assoc]
    have hd' : t.deep ≤ 16 := by simp only [Tr.deep] at hd; omega
    have e2 : shownT (.pow t e) 1 = shownT t 4 ++ ("^" : Str) ++ numS e := brk_f (by decide)
    refine ev_T t g.1 hd' (.pow e g.2.1 g.2.2 ?_ (shown_le g.1 hd') ?_)
    · rw [shown_brk t (by decide) (by decide), ← e2]; exact shown_le g hd
    · rw [shown_brk t (by decide) (by decide), ← e2]; exact h
  | .bin o a b, r, S, res, g, hd, h => by
    show Ev ((stepsT a ++ stepsT b ++ [Step.bin o]) ++ r) S res
    rw [List.append_assoc, List.append_assoc]
    have ha : a.deep ≤ 16 := by simp only [Tr.deep] at hd; omega
    have hb : b.deep ≤ 16 := by simp only [Tr.deep] at hd; omega
    have hl := lvl_cases o
    have e2 : shownT (.bin o a b) 1 = shownT a o.lvl ++ o.sgn ++ shownT b (o.lvl + 1) := brk_f (decide_eq_false (by omega))
    refine ev_T a g.1 ha (ev_T b g.2 hb (.bin o ?_ (shown_le g.2 hb) (shown_le g.1 ha) ?_))
    · rw [shown_brk a (by omega) (by omega), shown_brk b (by omega) (by omega), ← e2]; exact shown_le g hd
    · rw [shown_brk a (by omega) (by omega), shown_brk b (by omega) (by omega), ← e2]; exact h
theorem ev_all {t : Tr} (g : GoodT t) (hd : t.deep ≤ 16) : Ev (stepsT t) [] (shownT t 1) := by
  have := ev_T t (r := []) (S := []) g hd .done
  rw [List.append_nil] at this
  exact this
theorem sgn3 (x y : Str) {a b c s : Str} (h : a ++ b ++ c = s) : x ++ s ++ y = x ++ a ++ b ++ c ++ y := by
  subst h
  refine TL.ext_tl ?_
  simp only [TL.tl_append, List.append_assoc]
def sD (x : Str × Int) : D := .tup [.str x.1, .int x.2]
def S_written : SpD := fun ds M q => ∃ (st : List Step) (res : Str), ds = [.lst (st.map encS)] ∧ st.length ≤ 1000000 ∧ Ev st [] res ∧ q (.str res) M
/-! ### trees from steps: a tree is told by its steps -/
def evalS : List Step → List Tr → List Tr
  | [], S => S
  | .num n :: r, S => evalS r (.num n :: S)
  | .name x :: r, S => evalS r (.name x :: S)
  | .im :: r, S => evalS r (.im :: S)
  | .root :: r, t :: S => evalS r (.root t :: S)
  | .neg :: r, t :: S => evalS r (.neg t :: S)
  | .pow e :: r, t :: S => evalS r (.pow t e :: S)
  | .bin o :: r, y :: x :: S => evalS r (.bin o x y :: S)
  | _ :: r, S => evalS r S
theorem eval_T : ∀ (t : Tr) (r : List Step) (S : List Tr), evalS (stepsT t ++ r) S = evalS r (t :: S)
  | .num n, r, S => rfl
  | .name x, r, S => rfl
  | .im, r, S => rfl
  | .root t, r, S => by
    show evalS ((stepsT t ++ [Step.root]) ++ r) S = _
    rw [List.append_assoc, eval_T t]
    rfl
  | .neg t, r, S => by
    show evalS ((stepsT t ++ [Step.neg]) ++ r) S = _
    rw [List.append_assoc, eval_T t]
    rfl
  | .pow t e, r, S => by
    show evalS ((stepsT t ++ [Step.pow e]) ++ r) S = _
    rw [List.append_assoc, eval_T t]
    rfl
  | .bin o a b, r, S => by
    show evalS ((stepsT a ++ stepsT b ++ [Step.bin o]) ++ r) S = _
    rw [List.append_assoc, List.append_assoc, eval_T a, eval_T b]
    rfl
theorem steps_inj {t u : Tr} (h : stepsT t = stepsT u) : t = u := by
  have h1 := eval_T t [] []
  have h2 := eval_T u [] []
  rw [h, h2] at h1
  exact (List.cons.inj h1).1.symm
end D2

set_option maxRecDepth 100000
set_option maxHeartbeats 400000
namespace D2
open PySem PySem.Spec PyProof.Rows L2
/-! ### defs with defaults -/
structure FunAtD (K : W.Frag) (mg : Str → Option Value) (x : Str) (ps : List Str) (st : Stmt) (dvs : List V) : Prop where
  ex : ∃ f fd ds, FunD K x x (defArgs st) (defBody st) (defScope st) dvs [] f fd ∧ mg x = some (.ref f) ∧ Binds K fd ps ds ∧ Vals dvs ds
def FnAtD (P : Program) (w : World) (K : W.Frag) (mg : Str → Option Value) (base : Heap) (k : Nat) (x : Str) (S : SpD) (dvs : List V) : Prop :=
  ∃ f fd ps ds, FnOk P w K mg base CX0 k f fd ps (spT K S) ∧ mg x = some (.ref f) ∧ W.keepIn K (.ref f) = true ∧ Binds K fd ps ds ∧ Vals dvs ds
section
variable {P : Program} {w : World} {K : W.Frag} {mg : Str → Option Value} {base : Heap} {x : Str} {ps N : List Str} {st : Stmt} {S : SpD} {k : Nat} {dvs : List V}
theorem fnAtD_of (T : FunAtD K mg x ps st dvs) (sc : FnScope N ps (defScope st)) (len : ∀ ds M q, S ds M q → ds.length = ps.length) (hw : Walk P w K mg base N ps st k S x) : FnAtD P w K mg base (k + 1) x S dvs := by
  obtain ⟨f, fd, ds, F, hm, hb, hv⟩ := T.ex
  have hl : ∀ vs H Q E, spT K S vs H Q E → vs.length = ps.length := fun vs H Q E ⟨F, M, ds, q, _, ix, hp, _⟩ => ix.length.trans (len ds M q hp)
  refine ⟨f, fd, ps, ds, F.ok sc hl fun cdv A outer s H vs Q E hr h => ?_, hm, F.kp, hb, hv⟩
  obtain ⟨t, ww, pb, hbd⟩ := hw f cdv A outer s H E hr
  exact ⟨t, pb.ps.nox, fn_bodyT (by rw [hl _ _ _ _ h]) pb.sd h hbd⟩
end
section
variable {X : Cx} {k : Nat} {x : Str} {S : SpD} {p pos : Pos} {e : Expr} {es : List Expr} {t : TA} {wa : WA} {dvs : List V} {dd : List D}
theorem pd_callD (G : FnAtD X.prog X.w X.K X.mg X.base k x S dvs) (hd : ∀ F, IsAll X.K F dvs dd) (hr : Room k X.A) (hg : Gl X x) (ha : PDA X (e :: es) t wa) (hdb : (x == ("__debug__" : Str)) = false := by decide)
    (he : starEach (e :: es) X.env = (false, eval e X.env) :: starEach es X.env := by rfl) (hpl : (backTo pos (starEach es X.env)).any (·.1) = false := by rfl) :
    PDE X (.Call (.Name x p) (e :: es) [] pos) (tCall (spT X.K S) dvs E0 t) (wCallD S dd wa) := by
  obtain ⟨f, fd, ps, ds, F, hm, hk, hb, hv⟩ := G
  exact ⟨pe_call F hr hg hm hk hb hv pass0 ha.pa hdb he hpl, fun Γ M Q q => de_callT hd (ha.sd _ _ _ q)⟩
end

/-! ### own ==, str, repr -/
/-- the type of a value's data -/
def TyV (K : W.Frag) (M : Mem) (y : D) (tb : Value) : Prop := ∀ (F H : Hp) (v : V), Sat K F M H → Is K F v y → TyX K H v tb
def wEqO (K : W.Frag) (C : Addr) (S : SpD) : W2 := fun M x y k => (∃ gs, objD M x = some (C, gs)) ∧ (∃ tb, TyV K M y tb ∧ W.notFirst K C tb = true) ∧ S [x, y] M fun d M' => (∃ b, d = .bl b) ∧ M' = M ∧ k d
def wOne (C : Addr) (S : SpD) : WC := fun M xs k => match xs with
  | [x] => (∃ gs, objD M x = some (C, gs)) ∧ S [x] M fun d M' => (∃ z, d = .str z) ∧ M' = M ∧ k d
  | _ => False
section
variable {X : Cx} {C : Addr} {S : SpD} {k : Nat}
theorem po_eqO (G : MtAt X.prog X.w X.K X.mg X.base k C "__eq__" S) (hr : Room k X.A) : PDOp X (compareOp .Eq) (rEqO X.K C (spT X.K S)) (wEqO X.K C S) := by
  obtain ⟨f, fd, ps, F, c, hm, hb⟩ := G
  refine ⟨op_eqO F hm.at_ hm.fn hb pass0 hr, fun x y Γ M Q h F σ H vx vy R s l ix iy kk => ?_⟩
  obtain ⟨⟨gs, eo⟩, ⟨tb, ht, hn⟩, hS⟩ := h
  obtain ⟨a, dx, fs, rfl, ha, ifs⟩ := obj_is s ix eo
  refine ⟨a, dx, fs, tb, rfl, ha, ht F H vy s iy, hn, F, M, [x, y], _, s, .cons ix (.cons iy .nil), hS, ?_⟩
  rintro F' v H' d M' e s' i' ⟨⟨b, rfl⟩, rfl, hq⟩
  cases i'
  exact ⟨⟨b, rfl⟩, kk F' (.bl b) H' (.bl b) Γ M' e s' (l.mono e) (.bl b) hq⟩
theorem pc_strO (G : MtAt X.prog X.w X.K X.mg X.base k C "__str__" S) (hr : Room (k + 2) X.A) : PDCl X (.type "str") (rStrO C (spT X.K S)) (wOne C S) := by
  obtain ⟨f, fd, ps, F, c, hm, hb⟩ := G
  refine ⟨cg_strO F hm.at_ hm.fn hb (fun _ _ _ _ h => h) hr, fun x Γ M Q h F σ H vs R s l ix kk => ?_⟩
  unfold wOne at h
  split at h
  · rename_i x
    obtain ⟨⟨gs, eo⟩, hS⟩ := h
    cases ix with
    | cons ix inil =>
      cases inil
      obtain ⟨a, dx, fs, rfl, ha, ifs⟩ := obj_is s ix eo
      refine ⟨a, dx, fs, rfl, ha, F, M, [x], _, s, .cons ix .nil, hS, ?_⟩
      rintro F' v H' d M' e s' i' ⟨⟨z, rfl⟩, rfl, hq⟩
      cases i'
      exact ⟨⟨z, rfl⟩, kk F' (.str z) H' (.str z) Γ M' e s' (l.mono e) (.str z) hq⟩
  · exact h.elim
theorem pc_reprO (G : MtAt X.prog X.w X.K X.mg X.base k C "__repr__" S) (hr : Room (k + 1) X.A) : PDCl X (.builtin "repr") (rStrO C (spT X.K S)) (wOne C S) := by
  obtain ⟨f, fd, ps, F, c, hm, hb⟩ := G
  refine ⟨cg_reprO F hm.at_ hm.fn hb (fun _ _ _ _ h => h) hr, fun x Γ M Q h F σ H vs R s l ix kk => ?_⟩
  unfold wOne at h
  split at h
  · rename_i x
    obtain ⟨⟨gs, eo⟩, hS⟩ := h
    cases ix with
    | cons ix inil =>
      cases inil
      obtain ⟨a, dx, fs, rfl, ha, ifs⟩ := obj_is s ix eo
      refine ⟨a, dx, fs, rfl, ha, F, M, [x], _, s, .cons ix .nil, hS, ?_⟩
      rintro F' v H' d M' e s' i' ⟨⟨z, rfl⟩, rfl, hq⟩
      cases i'
      exact ⟨⟨z, rfl⟩, kk F' (.str z) H' (.str z) Γ M' e s' (l.mono e) (.str z) hq⟩
  · exact h.elim
end
end D2

set_option maxRecDepth 100000
set_option maxHeartbeats 400000
namespace D2
open PySem PySem.Spec PyProof.Rows L2
/-! ### a static def, called by the class -/
structure SmOf (K : W.Frag) (C : Addr) (m : Str) (f : Addr) : Prop where
  ga : W.specialIn K (.ref C) "__getattribute__" = some (some (.builtin "type.__getattribute__"))
  ex : ∃ mc p rest, W.typeIn K (.ref C) = some mc ∧ W.readsIn K C mc = true ∧ W.findCls K (.ref C) mc m = some (.get (.builtin "staticmethod.__get__") (.ref p) .none (.ref C)) ∧ W.recIn K p "staticmethod" = some (.ref f :: rest)
  hv : W.handedIn (.ref f) = true
  kp : W.keepIn K (.ref f) = true
def SmAt (P : Program) (w : World) (K : W.Frag) (mg : Str → Option Value) (base : Heap) (k : Nat) (C : Addr) (m : Str) (S : SpD) : Prop :=
  ∃ f fd ps, FnOk P w K mg base CX0 k f fd ps (spT K S) ∧ SmOf K C m f ∧ Binds K fd ps [] ∧ ∀ a, ps = [a] → ∀ (s : Shared) (u : Value), BindsTo s fd ⟨[], [(a, u)]⟩ [(a, u)]
section
variable {X : Cx} {k : Nat} {x m a : Str} {C f : Addr} {fd : FuncData} {ps : List Str} {S : SpD} {sp : L2.Sp} {p pos apos kpos : Pos} {e : Expr} {es : List Expr} {t : TA} {wa : WA} {te : TE} {we : WE}
theorem get_sm {pins : List (Addr × Obj)} {σ : L2.St} {H : Hp} {s : Shared} {pl : Sem Bool} {Q : Value × List Value → Shared → Prop} (sm : SmOf X.K C m f) (I : Inv X pins σ H s) (h : ∀ t, Inv X pins σ H { s with toks := t } → Q (.ref f, []) { s with toks := t }) :
    wpAny (model X.prog X.w) X.A (getMethod (.ref C) m pl) Q X.xe s := by
  obtain ⟨mc, q, rest, h1, h2, h3, h4⟩ := sm.ex
  obtain ⟨mm, hF⟩ := I.fr
  exact W.method_cls I.kIn sm.ga (W.cls_sm hF I.ok.mod.kin h1 h2 h3 h4 sm.hv (h _ (I.tok _)))
theorem pe_smeth {CX : CXT} {pl : Sem Bool} (sm : SmOf X.K C m f) (F : FnOk X.prog X.w X.K X.mg X.base CX k f fd ps sp) (hr : Room k X.A) (hb : Binds X.K fd ps []) (hx : Passes CX X E0) (hg : Gl X x) (hm : X.mg x = some (.ref C)) (ha : PA X (e :: es) t)
    (hst : starEach (e :: es) X.env = (false, eval e X.env) :: starEach es X.env := by rfl) (hpl : (backTo pos (starEach es X.env)).any (·.1) = false := by rfl) (hdb : (x == ("__debug__" : Str)) = false := by decide)
    (ht : eval (.Call (.Attribute (.Name x p) m apos) (e :: es) [] pos) X.env = (do
      let ov ← eval (.Name x p) X.env
      standAt apos.atName
      let (f, first) ← holding [ov] (getMethod ov m pl)
      callWith pos f first (backTo pos (starEach (e :: es) X.env)) (backToKw pos (keywordEach [] X.env))) := by rfl) :
    PE X (.Call (.Attribute (.Name x p) m apos) (e :: es) [] pos) (tCall sp [] E0 t) := by
  refine ⟨fun pins s σ H Q I h => ?_⟩
  refine W.methodCall_KW (pl := pl) (thn ((pe_glob (pos := p) (v := .ref C) hg hm rfl (hd := hdb)).run pins s σ H (fun v H1 => v = .ref C ∧ H1 = H) I ⟨rfl, rfl⟩) fun u s1 ⟨v, H1, I1, rv, ev, eH⟩ => ?_) ht
  subst ev; subst eH
  obtain rfl : u = Value.ref C := rv
  refine get_sm sm I1 fun tk I2 => ?_
  refine W.callWith_K (first := []) (h₀ := X.base) I2.ok.mod.kin sm.kp (thn (ha.run pos pins _ σ _ _ I2 h) fun us s2 ⟨vs, H2, I3, r, q⟩ => ⟨I3.kIn, ?_⟩) hst hpl
  exact run_fn (us := us) (vs := vs) F hr hb .nil hx I3 r q
theorem pd_sm {pl : Sem Bool} (G : SmAt X.prog X.w X.K X.mg X.base k C m S) (hr : Room k X.A) (hg : Gl X x) (hm : X.mg x = some (.ref C)) (ha : PDA X (e :: es) t wa)
    (hst : starEach (e :: es) X.env = (false, eval e X.env) :: starEach es X.env := by rfl) (hpl : (backTo pos (starEach es X.env)).any (·.1) = false := by rfl) (hdb : (x == ("__debug__" : Str)) = false := by decide)
    (ht : eval (.Call (.Attribute (.Name x p) m apos) (e :: es) [] pos) X.env = (do
      let ov ← eval (.Name x p) X.env
      standAt apos.atName
      let (f, first) ← holding [ov] (getMethod ov m pl)
      callWith pos f first (backTo pos (starEach (e :: es) X.env)) (backToKw pos (keywordEach [] X.env))) := by rfl) :
    PDE X (.Call (.Attribute (.Name x p) m apos) (e :: es) [] pos) (tCall (spT X.K S) [] E0 t) (wCall S wa) := by
  obtain ⟨f, fd, ps, F, sm, hb, _⟩ := G
  refine ⟨pe_smeth sm F hr hb pass0 hg hm ha.pa hst hpl hdb ht, fun Γ M Q q => de_callT (fun _ => .nil) ((ha.sd _ _ _ q).imp fun ds Γ1 M1 q => ?_)⟩
  rw [List.append_nil]
  exact q
end
end D2

set_option maxRecDepth 100000
set_option maxHeartbeats 400000
namespace D2
open PySem PySem.Spec PyProof.Rows L2
/-! ### one keyword -/
/-- how a def of self and a takes a by its name -/
def KwOne (fd : FuncData) (a : Str) : Prop := ∀ (s : Shared) (u0 u1 : Value), BindsTo s fd ⟨[u0], [(a, u1)]⟩ [("self", u0), (a, u1)]
def MkAtK (P : Program) (w : World) (K : W.Frag) (mg : Str → Option Value) (base : Heap) (k : Nat) (x : Str) (C : Addr) (a : Str) (S : SpD) : Prop :=
  ∃ f fd, FnOk P w K mg base CX0 k f fd ["self", a] (spT K S) ∧ Mk K C f ∧ mg x = some (.ref C) ∧ KwOne fd a
def MtAtK (P : Program) (w : World) (K : W.Frag) (mg : Str → Option Value) (base : Heap) (k : Nat) (C : Addr) (m a : Str) (S : SpD) : Prop :=
  ∃ f fd, FnOk P w K mg base CX0 k f fd ["self", a] (spT K S) ∧ Cls K C ∧ Meth K C m f ∧ KwOne fd a
structure MkFnK (K : W.Frag) (mg : Str → Option Value) (x : Str) (C : Addr) (qual a : Str) (st : Stmt) : Prop where
  ex : ∃ f fd, Fun K "__init__" qual st f fd ∧ Mk K C f ∧ mg x = some (.ref C) ∧ KwOne fd a
structure MtFnK (K : W.Frag) (C : Addr) (m qual a : Str) (st : Stmt) : Prop where
  ex : ∃ f fd, Fun K m qual st f fd ∧ Cls K C ∧ Meth K C m f ∧ KwOne fd a
section
variable {P : Program} {w : World} {K : W.Frag} {mg : Str → Option Value} {base : Heap} {x qual m a : Str} {N : List Str} {st : Stmt} {S : SpD} {k : Nat} {C : Addr}
theorem mkAtK_of (T : MkFnK K mg x C qual a st) (sc : FnScope N ["self", a] (defScope st)) (len : ∀ ds M q, S ds M q → ds.length = 2) (hw : Walk P w K mg base N ["self", a] st k S qual) : MkAtK P w K mg base (k + 1) x C a S := by
  obtain ⟨f, fd, F, hc, hm, hb⟩ := T.ex
  exact ⟨f, fd, fn_okT F sc len (hw f), hc, hm, hb⟩
theorem mtAtK_of (T : MtFnK K C m qual a st) (sc : FnScope N ["self", a] (defScope st)) (len : ∀ ds M q, S ds M q → ds.length = 2) (hw : Walk P w K mg base N ["self", a] st k S qual) : MtAtK P w K mg base (k + 1) C m a S := by
  obtain ⟨f, fd, F, hc, hm, hb⟩ := T.ex
  exact ⟨f, fd, fn_okT F sc len (hw f), hc, hm, hb⟩
theorem smAt_of {ps : List Str} (T : SmFn K C m qual ps st) (hs : ∀ f, (∃ p rest, W.findIn K (.ref C) m = some (some (.ref p)) ∧ W.recIn K p "staticmethod" = some (.ref f :: rest)) → SmOf K C m f) (hk : ∀ f fd, Fun K m qual st f fd → ∀ a, ps = [a] → ∀ (s : Shared) (u : Value), BindsTo s fd ⟨[], [(a, u)]⟩ [(a, u)])
    (sc : FnScope N ps (defScope st)) (len : ∀ ds M q, S ds M q → ds.length = ps.length) (hw : Walk P w K mg base N ps st k S qual) : SmAt P w K mg base (k + 1) C m S := by
  obtain ⟨p, f, fd, F, h1, ⟨rest, h2⟩, hb⟩ := T.ex
  exact ⟨f, fd, ps, fn_okT F sc len (hw f), hs f ⟨p, rest, h1, h2⟩, hb, hk f fd F⟩
end
section
variable {X : Cx} {k : Nat} {x m a : Str} {C : Addr} {S : SpD} {p pos apos kpos : Pos} {e o : Expr} {te to : TE} {we wo : WE}
theorem pd_make1K (G : MkAtK X.prog X.w X.K X.mg X.base k x C a S) (hr : Room (k + 1) X.A) (hg : Gl X x) (he : PDE X e te we) (hdb : (x == ("__debug__" : Str)) = false := by decide) (hall : (backToKw pos (keywordEach [⟨some a, e, kpos⟩] X.env)).all (·.1.isSome) = true := by rfl)
    (hks : (backToKw pos (keywordEach [⟨some a, e, kpos⟩] X.env)).filterMap (·.1) = [a] := by rfl) (hpl : ((backTo pos (starEach [] X.env)).any (·.1) || (backToKw pos (keywordEach [⟨some a, e, kpos⟩] X.env)).any (·.1.isNone)) = false := by rfl) :
    PDE X (.Call (.Name x p) [] [⟨some a, e, kpos⟩] pos) (tMake1K C (spT X.K S) te) (wMake C S [] (wCons we wNil)) := by
  obtain ⟨f, fd, F, mk, hm, hb⟩ := G
  refine ⟨pe_make1K mk F hr hg hm hb pass0 he.pe hdb hall hks hpl, fun Γ M Q q F σ H R s l kk => ?_⟩
  refine he.sd _ _ _ q F σ H _ s l fun F1 v H1 d Γ1 M1 e1 s1 l1 i1 q => ⟨rfl, rfl, ?_⟩
  intro x dx nx ndx ne
  have hM := (s1.none_of nx).2
  have hF := (s1.none_of nx).1
  have hFd := (s1.none_of ndx).1
  have hMd := (s1.none_of ndx).2
  have s2 : Sat X.K F1 M1 (upd H1 dx (.own x)) := s1.laid (o := .own x) ndx |> fun z => ⟨fun b u e => by rw [upd_ne (ne_of_none e hFd)]; exact s1.sub b u e, fun a m e => by
    obtain ⟨h1, h2⟩ := s1.cell a m e
    have ne' : a ≠ dx := fun z => by rw [z, hMd] at e; cases e
    exact ⟨h1, h2.mono (Same.refl _) (upd_ne ne')⟩⟩
  have nx2 : upd H1 dx (.own x) x = none := by rw [upd_ne ne.symm]; exact nx
  have s3 : Sat X.K F1 (M1.put x (.ins C [])) (upd (upd H1 dx (.own x)) x (.ins C dx [])) := s2.newCell nx2 ⟨dx, [], upd_same, .nil⟩
  show spT X.K S [V.ref x, v] _ _ _
  have q2 : S [.ptr x, d] (M1.put x (.ins C [])) _ := q x hM
  refine ⟨F1, M1.put x (.ins C []), [.ptr x, d], _, s3, .cons (.ptr x) (.cons i1 .nil), q2, fun F' v H' d M' e s' i' hp => ?_⟩
  obtain ⟨rfl, hp⟩ := hp
  cases i'
  refine ⟨rfl, ?_⟩
  rcases hp with ⟨gs, M3, hM3, rfl, hq⟩ | hq
  · obtain ⟨hn, dx', fs, ho, ifs⟩ := s'.cell x _ Mem.put_same
    have sm : Same F' (upd F' x (.ins C dx' fs)) := same_upd hn
    have z := s'.freeze ho hn
    rw [Mem.put_del hM3] at z
    exact kk _ (.ref x) H' (.obj C gs) Γ1 M3 ((e1.trans e).trans sm) z ((l1.mono e).mono sm) (.obj upd_same (ifs.mono sm)) hq
  · exact kk F' (.ref x) H' (.ptr x) Γ1 M' (e1.trans e) s' (l1.mono e) (.ptr x) hq
theorem pd_meth1K {pl : Sem Bool} (G : MtAtK X.prog X.w X.K X.mg X.base k C m a S) (hr : Room k X.A) (ho : PDE X o to wo) (he : PDE X e te we)
    (hall : (backToKw pos (keywordEach [⟨some a, e, kpos⟩] X.env)).all (·.1.isSome) = true := by rfl) (hks : (backToKw pos (keywordEach [⟨some a, e, kpos⟩] X.env)).filterMap (·.1) = [a] := by rfl)
    (hpl : ((backTo pos (starEach [] X.env)).any (·.1) || (backToKw pos (keywordEach [⟨some a, e, kpos⟩] X.env)).any (·.1.isNone)) = false := by rfl)
    (ht : eval (.Call (.Attribute o m apos) [] [⟨some a, e, kpos⟩] pos) X.env = (do
      let ov ← eval o X.env
      standAt apos.atName
      let (f, first) ← holding [ov] (getMethod ov m pl)
      callWith pos f first (backTo pos (starEach [] X.env)) (backToKw pos (keywordEach [⟨some a, e, kpos⟩] X.env))) := by rfl) :
    PDE X (.Call (.Attribute o m apos) [] [⟨some a, e, kpos⟩] pos) (tMeth1K C m (spT X.K S) to te) (wMeth C m S wo (wCons we wNil)) := by
  obtain ⟨f, fd, F, c, hm, hb⟩ := G
  refine ⟨pe_meth1K ho.pe c hm F hr hb pass0 he.pe hall hks hpl ht, fun Γ M Q q F σ H R s l kk => ?_⟩
  refine ho.sd _ _ _ q F σ H _ s l fun F1 v H1 x Γ1 M1 e1 s1 l1 is q => ?_
  obtain ⟨⟨gs, eo, ln⟩, q⟩ := q
  obtain ⟨b, dx, fs, rfl, hb2, ifs⟩ := obj_is s1 is eo
  refine ⟨b, dx, fs, rfl, hb2, isFs_none ifs ln, ?_⟩
  refine he.sd _ _ _ q F1 σ H1 _ s1 l1 fun F2 v2 H2 d Γ2 M2 e2 s2 l2 i2 q => ?_
  exact ⟨F2, M2, [x, d], _, s2, .cons (is.mono e2) (.cons i2 .nil), q, fun F' v H' d M' e s' i' hp => kk F' v H' d Γ2 M' ((e1.trans e2).trans e) s' (l2.mono e) i' hp⟩
theorem pd_sm1K {pl : Sem Bool} {m : Str} (G : SmAt X.prog X.w X.K X.mg X.base k C m S) (ha : ∃ f fd, FnOk X.prog X.w X.K X.mg X.base CX0 k f fd [a] (spT X.K S) ∧ SmOf X.K C m f ∧ ∀ (s : Shared) (u : Value), BindsTo s fd ⟨[], [(a, u)]⟩ [(a, u)]) (hr : Room k X.A) (hg : Gl X x) (hm : X.mg x = some (.ref C)) (he : PDE X e te we)
    (hdb : (x == ("__debug__" : Str)) = false := by decide) (hall : (backToKw pos (keywordEach [⟨some a, e, kpos⟩] X.env)).all (·.1.isSome) = true := by rfl) (hks : (backToKw pos (keywordEach [⟨some a, e, kpos⟩] X.env)).filterMap (·.1) = [a] := by rfl)
    (hpl : ((backTo pos (starEach [] X.env)).any (·.1) || (backToKw pos (keywordEach [⟨some a, e, kpos⟩] X.env)).any (·.1.isNone)) = false := by rfl)
    (ht : eval (.Call (.Attribute (.Name x p) m apos) [] [⟨some a, e, kpos⟩] pos) X.env = (do
      let ov ← eval (.Name x p) X.env
      standAt apos.atName
      let (f, first) ← holding [ov] (getMethod ov m pl)
      callWith pos f first (backTo pos (starEach [] X.env)) (backToKw pos (keywordEach [⟨some a, e, kpos⟩] X.env))) := by rfl) :
    PDE X (.Call (.Attribute (.Name x p) m apos) [] [⟨some a, e, kpos⟩] pos) (tCall (spT X.K S) [] E0 (tCons te tNil)) (wCall S (wCons we wNil)) := by
  obtain ⟨f, fd, F, sm, hb⟩ := ha
  refine ⟨⟨fun pins s σ H Q I h => ?_⟩, fun Γ M Q q => de_callT (fun _ => .nil) (da_cons ((he.sd _ _ _ q).imp fun x Γ1 M1 q => da_nil (by rw [List.append_nil]; exact q)))⟩
  refine W.methodCall_KW (pl := pl) (thn ((pe_glob (pos := p) (v := .ref C) hg hm rfl (hd := hdb)).run pins s σ H (fun v H1 => v = .ref C ∧ H1 = H) I ⟨rfl, rfl⟩) fun u s1 ⟨v, H1, I1, rv, ev, eH⟩ => ?_) ht
  subst ev; subst eH
  obtain rfl : u = Value.ref C := rv
  refine get_sm sm I1 fun tk I2 => ?_
  refine W.callWith_KW0 (first := []) (h₀ := X.base) I2.ok.mod.kin sm.kp hall (thn ((pk_cons (nm := some a) (kpos := kpos) he.pe pk_nil).run pos pins _ σ _ _ I2 h) fun us s2 ⟨vs, H2, I3, r, q⟩ => ⟨I3.kIn, ?_⟩) hpl
  rw [hks]
  have q1 : spT X.K S (vs ++ []) H2 Q E0 := q
  rw [List.append_nil] at q1
  have hl := F.len _ _ _ _ q1
  obtain ⟨u, rfl⟩ : ∃ u, us = [u] := by
    have z := r.length.symm.trans hl
    match us, z with
    | [u], _ => exact ⟨u, rfl⟩
  refine wpAny_call (codeAny_mono (F.run X.A X.stack s2 H2 ⟨[], [(a, u)]⟩ [u] vs Q E0 hr I3.env0 (hb s2 u) r q1) fun r s' hq => ?_)
  match r, hq with
  | .error er, hq => exact hq.elim
  | .ok (.ret v), hq => exact I3.after hq
  | .ok .next, hq => exact False.elim hq
  | .ok .brk, hq => exact False.elim hq
  | .ok .cont, hq => exact False.elim hq
end
/-- a static def of one parameter -/
structure SmFn2 (K : W.Frag) (C : Addr) (m qual a : Str) (st : Stmt) : Prop where
  ex : ∃ f fd, Fun K m qual st f fd ∧ SmOf K C m f ∧ Binds K fd [a] [] ∧ ∀ (s : Shared) (u : Value), BindsTo s fd ⟨[], [(a, u)]⟩ [(a, u)]
section
variable {P : Program} {w : World} {K : W.Frag} {mg : Str → Option Value} {base : Heap} {qual m a : Str} {N : List Str} {st : Stmt} {S : SpD} {k : Nat} {C : Addr}
def SmAt2 (P : Program) (w : World) (K : W.Frag) (mg : Str → Option Value) (base : Heap) (k : Nat) (C : Addr) (m a : Str) (S : SpD) : Prop :=
  ∃ f fd, FnOk P w K mg base CX0 k f fd [a] (spT K S) ∧ SmOf K C m f ∧ Binds K fd [a] [] ∧ ∀ (s : Shared) (u : Value), BindsTo s fd ⟨[], [(a, u)]⟩ [(a, u)]
theorem smAt2_of (T : SmFn2 K C m qual a st) (sc : FnScope N [a] (defScope st)) (len : ∀ ds M q, S ds M q → ds.length = [a].length) (hw : Walk P w K mg base N [a] st k S qual) : SmAt2 P w K mg base (k + 1) C m a S := by
  obtain ⟨f, fd, F, sm, hb, hk⟩ := T.ex
  exact ⟨f, fd, fn_okT F sc len (hw f), sm, hb, hk⟩
theorem SmAt2.at_ (G : SmAt2 P w K mg base k C m a S) : SmAt P w K mg base k C m S := by
  obtain ⟨f, fd, F, sm, hb, hk⟩ := G
  exact ⟨f, fd, [a], F, sm, hb, fun b e => by injection e with e _; subst e; exact hk⟩
theorem SmAt2.kw (G : SmAt2 P w K mg base k C m a S) : ∃ f fd, FnOk P w K mg base CX0 k f fd [a] (spT K S) ∧ SmOf K C m f ∧ ∀ (s : Shared) (u : Value), BindsTo s fd ⟨[], [(a, u)]⟩ [(a, u)] := by
  obtain ⟨f, fd, F, sm, hb, hk⟩ := G
  exact ⟨f, fd, F, sm, hk⟩
end
theorem pd_glR {X : Cx} {x : Str} {C : Addr} {pos : Pos} (hg : Gl X x) (hm : X.mg x = some (.ref C)) (hd : (x == ("__debug__" : Str)) = false := by decide) : PDE X (.Name x pos) (tC (.ref C)) (wC (.ptr C)) := pd_c (pe_glob (v := .ref C) hg hm rfl (hd := hd)) fun _ => .ptr _
/-- the formula made of a tree -/
def frmD (C : Addr) (t : Tr) : D := .obj C [("_steps", .lst ((stepsT t).map encS)), ("_text", .str (shownT t 1))]
def S_read_steps : SpD := fun ds M q => ∃ z t k, ds = [.str z, .bl false] ∧ z.length ≤ 6999999 ∧ Lo k t 1 ((tokL z).map (·.1)) ∧ GoodT t ∧ ∀ x, q (.tup [.lst ((stepsT t).map encS), x]) M
end D2

set_option maxRecDepth 100000
set_option maxHeartbeats 400000
namespace D2
open PySem PySem.Spec PyProof.Rows L2
/-! ### steps by their tags -/
def tagS : Step → Str
  | .num _ => "number" | .name _ => "name" | .im => "i" | .root => "root" | .neg => "neg" | .pow _ => "^" | .bin o => o.tok
theorem encS_tag (s : Step) : ∃ r, encS s = .tup (.str (tagS s) :: r) := by cases s <;> exact ⟨_, rfl⟩
def ftag (tg : Str) : D → Option D
  | .tup (.str s :: r) => if s = tg then some (.tup (.str s :: r)) else none
  | _ => none
def fbtag (tg : Str) : D → Option D
  | .tup (.str s :: _) => some (.bl (decide (s = tg)))
  | _ => none
theorem fm_tag (tg : Str) (L : List Step) : (L.map encS).filterMap (ftag tg) = (L.filter fun s => decide (tagS s = tg)).map encS := by
  induction L with
  | nil => rfl
  | cons s L ih =>
    obtain ⟨r, e⟩ := encS_tag s
    rw [List.map_cons, List.filterMap_cons, List.filter_cons, e]
    by_cases h : tagS s = tg
    · rw [show ftag tg (.tup (.str (tagS s) :: r)) = some (.tup (.str (tagS s) :: r)) from if_pos h, decide_eq_true h, if_pos rfl, List.map_cons, e, ih]
    · rw [show ftag tg (.tup (.str (tagS s) :: r)) = none from if_neg h, decide_eq_false h, ih]
      rfl
theorem fm_btag (tg : Str) (L : List Step) : (L.map encS).filterMap (fbtag tg) = (L.map fun s => decide (tagS s = tg)).map .bl := by
  induction L with
  | nil => rfl
  | cons s L ih =>
    obtain ⟨r, e⟩ := encS_tag s
    rw [List.map_cons, List.filterMap_cons, e]
    show D.bl (decide (tagS s = tg)) :: _ = _
    rw [ih]
    rfl
theorem many_root : ∀ t : Tr, ((stepsT t).filter fun s => decide (tagS s = "root")).length = manyT "root" t
  | .num n => rfl
  | .name n => rfl
  | .im => rfl
  | .root t => by
    show ((stepsT t ++ [Step.root]).filter _).length = 1 + manyT "root" t
    rw [List.filter_append, List.length_append, many_root t]
    show manyT "root" t + 1 = _
    omega
  | .neg t => by
    show ((stepsT t ++ [Step.neg]).filter _).length = 0 + manyT "root" t
    rw [List.filter_append, List.length_append, many_root t]
    show manyT "root" t + 0 = _
    omega
  | .pow t e => by
    show ((stepsT t ++ [Step.pow e]).filter _).length = 0 + manyT "root" t
    rw [List.filter_append, List.length_append, many_root t]
    show manyT "root" t + 0 = _
    omega
  | .bin o l r => by
    show ((stepsT l ++ stepsT r ++ [Step.bin o]).filter _).length = (if o.tag = "root" then 1 else 0) + (manyT "root" l + manyT "root" r)
    rw [List.filter_append, List.filter_append, List.length_append, List.length_append, many_root l, many_root r]
    have h1 : ([Step.bin o].filter fun s => decide (tagS s = "root")).length = 0 := by cases o <;> rfl
    have h2 : (if o.tag = ("root" : Str) then 1 else 0) = 0 := by cases o <;> rfl
    rw [h1, h2]
    omega
theorem any_i : ∀ t : Tr, (stepsT t).any (fun s => decide (tagS s = "i")) = decide (0 < manyT "i" t)
  | .num n => rfl
  | .name n => rfl
  | .im => rfl
  | .root t => by
    show (stepsT t ++ [Step.root]).any _ = decide (0 < 0 + manyT "i" t)
    rw [List.any_append, any_i t, Nat.zero_add]
    exact Bool.or_false _
  | .neg t => by
    show (stepsT t ++ [Step.neg]).any _ = decide (0 < 0 + manyT "i" t)
    rw [List.any_append, any_i t, Nat.zero_add]
    exact Bool.or_false _
  | .pow t e => by
    show (stepsT t ++ [Step.pow e]).any _ = decide (0 < 0 + manyT "i" t)
    rw [List.any_append, any_i t, Nat.zero_add]
    exact Bool.or_false _
  | .bin o l r => by
    show (stepsT l ++ stepsT r ++ [Step.bin o]).any _ = decide (0 < (if o.tag = "i" then 1 else 0) + (manyT "i" l + manyT "i" r))
    rw [List.any_append, List.any_append, any_i l, any_i r]
    have h1 : ([Step.bin o].any fun s => decide (tagS s = "i")) = false := by cases o <;> rfl
    have h2 : (if o.tag = ("i" : Str) then 1 else 0) = 0 := by cases o <;> rfl
    rw [h1, h2, Bool.or_false, Nat.zero_add]
    by_cases a : 0 < manyT "i" l <;> by_cases b : 0 < manyT "i" r <;> simp [a, b] <;> omega
end D2

set_option maxRecDepth 100000
set_option maxHeartbeats 400000
namespace D2
open PySem PySem.Spec PyProof.Rows L2
theorem dc_by {g : WG} {c : WT} {wk we : WE} {Γ : Ga} {k : List (Key × D) → Mem → Prop} {p : Addr} (I : List D → List (Key × D) → Mem → Prop) (h0 : ∀ acc M, I [] acc M → k acc M)
    (hs : ∀ d ds acc M, I (d :: ds) acc M → (∀ acc' M', I ds acc' M' → dcL g c wk we Γ k p ds acc' M') → g d Γ (M.put p (.dct acc)) fun Γ2 M2 => c Γ2 M2 fun b Γ3 M3 => wite b (wk Γ3 M3 fun y Γ4 M4 => we Γ4 M4 fun z _ M5 => match keyD y with
      | some kk => ∃ M6 : Mem, M6 p = none ∧ M5 = M6.put p (.dct acc) ∧ dcL g c wk we Γ k p ds (putKD acc kk z) M6
      | none => False)
      (∃ M5 : Mem, M5 p = none ∧ M3 = M5.put p (.dct acc) ∧ dcL g c wk we Γ k p ds acc M5)) :
    ∀ ds acc M, I ds acc M → dcL g c wk we Γ k p ds acc M
  | [], acc, M, h => h0 acc M h
  | d :: ds, acc, M, h => hs d ds acc M h (dc_by I h0 hs ds)
/-! ### names, in the order of their first places -/
def addN (L : List Str) (x : Str) : List Str := if L.contains x then L else L ++ [x]
def namesS : List Step → List Str → List Str
  | [], L => L
  | .name x :: r, L => namesS r (addN L x)
  | .num _ :: r, L | .im :: r, L | .root :: r, L | .neg :: r, L | .pow _ :: r, L | .bin _ :: r, L => namesS r L
theorem namesS_app : ∀ (a b : List Step) (L : List Str), namesS (a ++ b) L = namesS b (namesS a L)
  | [], b, L => rfl
  | .name x :: r, b, L => namesS_app r b _
  | .num _ :: r, b, L | .im :: r, b, L | .root :: r, b, L | .neg :: r, b, L | .pow _ :: r, b, L | .bin _ :: r, b, L => namesS_app r b L
theorem names_T : ∀ (t : Tr) (L : List Str), namesS (stepsT t) L = L ++ (namesT t).filter fun s => !L.contains s
  | .num n, L => (List.append_nil L).symm
  | .im, L => (List.append_nil L).symm
  | .name x, L => by
    show addN L x = L ++ [x].filter _
    unfold addN
    cases h : L.contains x with
    | true =>
      rw [if_pos rfl, List.filter_cons_of_neg (by rw [h]; exact Bool.noConfusion)]
      exact (List.append_nil L).symm
    | false =>
      rw [if_neg Bool.noConfusion, List.filter_cons_of_pos (by rw [h]; rfl)]
      rfl
  | .root t, L => by
    show namesS (stepsT t ++ [Step.root]) L = _
    rw [namesS_app, names_T t]
    rfl
  | .neg t, L => by
    show namesS (stepsT t ++ [Step.neg]) L = _
    rw [namesS_app, names_T t]
    rfl
  | .pow t e, L => by
    show namesS (stepsT t ++ [Step.pow e]) L = _
    rw [namesS_app, names_T t]
    rfl
  | .bin o l r, L => by
    show namesS (stepsT l ++ stepsT r ++ [Step.bin o]) L = L ++ (namesT l ++ (namesT r).filter fun s => !(namesT l).contains s).filter fun s => !L.contains s
    rw [namesS_app, namesS_app, names_T l, names_T r, List.append_assoc, List.filter_append]
    show L ++ ((namesT l).filter (fun s => !L.contains s) ++ _) = _
    congr 2
    rw [List.filter_filter]
    apply List.filter_congr
    intro x _
    rw [Bool.eq_iff_iff]
    simp only [List.contains_eq_mem, Bool.not_eq_true', Bool.and_eq_true, decide_eq_false_iff_not, List.mem_append, List.mem_filter, decide_eq_true_eq]
    constructor
    · intro h
      exact ⟨fun hl => h (.inl hl), fun hr => by
        by_cases hl : x ∈ L
        · exact h (.inl hl)
        · exact h (.inr ⟨hr, hl⟩)⟩
    · rintro ⟨h1, h2⟩ (h | ⟨h, _⟩)
      · exact h1 h
      · exact h2 h
theorem names_steps (t : Tr) : namesS (stepsT t) [] = namesT t := by
  rw [names_T t]
  show (namesT t).filter _ = _
  exact all_free (namesT t)
def nmD (L : List Str) : List (Key × D) := L.map fun x => (.inr x, .bl true)
theorem put_nm (L : List Str) (x : Str) : putKD (nmD L) (.inr x) (.bl true) = nmD (addN L x) := by
  have ha : ((nmD L).any fun kv => decide (kv.1 = Sum.inr x)) = L.contains x := by
    unfold nmD
    rw [List.any_map]
    induction L with
    | nil => rfl
    | cons y L ih =>
      rw [List.any_cons, ih, List.contains_cons]
      congr 1
      show decide ((Sum.inr y : Key) = Sum.inr x) = (x == y)
      by_cases h : y = x
      · subst h; simp
      · rw [decide_eq_false fun z => h (Sum.inr.inj z)]
        exact (beq_false_of_ne fun z => h z.symm).symm
  unfold putKD addN
  rw [ha]
  cases L.contains x with
  | true =>
    rw [if_pos rfl, if_pos rfl]
    unfold nmD
    rw [List.map_map]
    apply List.map_congr_left
    intro y _
    show (if (Sum.inr y : Key) = Sum.inr x then ((Sum.inr y : Key), D.bl true) else (Sum.inr y, D.bl true)) = _
    split <;> rfl
  | false =>
    rw [if_neg Bool.noConfusion, if_neg Bool.noConfusion]
    unfold nmD
    rw [List.map_append]
    rfl
theorem nm_keys (L : List Str) : (nmD L).map (fun kv => dKey kv.1) = L.map .str := by
  unfold nmD
  rw [List.map_map]
  rfl
end D2

set_option maxRecDepth 100000
set_option maxHeartbeats 400000
namespace D2
open PySem PySem.Spec PyProof.Rows L2
/-! ### name = {k: v for ..} -/
section
variable {X : Cx} {kx vx tg iter : Expr} {ifs : List Expr} {scope : Scope} {own : List (Str × Nat)} {pos : Pos} {wi : TI} {g : TG} {tt : TT} {tk te : TE} {ww : WA} {gw : WG} {cw : WT} {kw we : WE}
theorem swD {gs : List Comprehension} {cpos py : Pos} {y : Str} {l : Nat} {env : Env} (hk : env.scope.kind = .function) (hy : env.scope.names.lookup y = some .local) (hl : (py.line == cpos.line) = true)
    (ha : (scope.names.any fun (n, k) => n == y && (k == .local || k == .cell)) = false) : swapsWith (.DictComp kx vx gs scope cpos) (some (.Name y py)) l env = pure true := by
  have q1 : env.kindOf y = some .local := hy
  have q2 : env.blockKind = .function := by unfold Env.blockKind; rw [hk]; rfl
  unfold swapsWith
  simp only [q2, q1, ha, Expr.pos, hl]
  rfl
theorem pds_setDc {i : Nat} {y : Str} {py spos : Pos} (hc : X.calm = true) (hN : X.N.Nodup) (hy : X.N[i]? = some y) (hyl : X.env.scope.names.lookup y = some .local)
    (hsw : swapsWith (.DictComp kx vx [⟨tg, iter, ifs, 0⟩] scope pos) (some (.Name y py)) spos.line X.env = pure true) (hi : PDI X tg iter wi ww) (ok : BlkOk X.N X.env.scope scope own)
    (hg : ∀ (s : Shared) (H : Hp) (C : Addr) (cl : List (Str × Addr)) (fp : List Addr), PG (X.blk s H scope (compEnvC scope cl C X.env) fp) tg g) (hgd : PDGc X.K g (own.map (·.2)) gw)
    (ht : ∀ (s : Shared) (H : Hp) (C : Addr) (cl : List (Str × Addr)) (fp : List Addr), PDTs (X.blk s H scope (compEnvC scope cl C X.env) fp) ifs tt cw)
    (hkk : ∀ (s : Shared) (H : Hp) (C : Addr) (cl : List (Str × Addr)) (fp : List Addr), PDE (X.blk s H scope (compEnvC scope cl C X.env) fp) kx tk kw)
    (he : ∀ (s : Shared) (H : Hp) (C : Addr) (cl : List (Str × Addr)) (fp : List Addr), PDE (X.blk s H scope (compEnvC scope cl C X.env) fp) vx te we) (hs : ∀ x, foldedSetIterable iter X.env x = pure x := by intro _; rfl) :
    PDS X (.Assign [.Name y py] (.DictComp kx vx [⟨tg, iter, ifs, 0⟩] scope pos) spos) (tAsg (tDc wi g tt tk te (own.map (·.2))) (gName i)) (wAsg (wDc ww gw cw kw we) (gN i)) :=
  ⟨⟨fun pins s σ H D I h => by
    rw [exec_Assign_Name_used _ _ _ _ hsw]
    refine wpAny_bind (wpAny_standAt (wpAny_bind ?_))
    show wpAny _ X.A (do let _ ← comprehension (.DictComp kx vx [⟨tg, iter, ifs, 0⟩] scope pos) scope X.env (firstIterPos [⟨tg, iter, ifs, 0⟩] pos) newDict false (eval iter X.env) (some (assign (.Name y py) X.env))) _ _ s
    have h' : tDc wi g tt tk te (own.map (·.2)) σ H (fun x H1 => gName i x σ H1 D.nx) := h
    refine wpAny_bind (thn (dc_core (Qf := fun _ s' => SP X pins D .next s') hc hN I hi.pi ok hg (fun s H C cl fp => (ht s H C cl fp).pt) (fun s H C cl fp => (hkk s H C cl fp).pe) (fun s H C cl fp => (he s H C cl fp).pe) hs h' fun DD C s' m H' I' q hn f => ?_) fun _ s' hq => wpAny_pure (wpAny_pure hq))
    show wpAny _ _ (assign (.Name y py) X.env (.ref DD)) _ _ _
    refine wpAny_assign_Name (store_ok2 (v := V.ref DD) I' hN hy (.inl hyl) rfl (fun s2 I2 ⟨a, sb, ha⟩ => ?_) (.inr hyl))
    obtain ⟨f0, f1, f2, f3, f4, f5⟩ := f
    have hne : C ≠ a := by
      rcases ha with z | z
      · exact fun e => f1 (by rw [← z]; exact e)
      · exact fun e => f4 y a z e.symm
    exact ⟨m, hn.sameBut sb hne, fun h3 sb3 => ⟨_, H', I2.turned (t' := s2.toks) (fun b o hb e => (sb3.2 b hb).trans e) f0 f1 f3 f4 f5, q⟩⟩⟩, fun Γ M P q =>
    ds_set (dc_ok hgd.sd (ht X.s_0 X.H_0 0 [] []).sd (hkk X.s_0 X.H_0 0 [] []).sd (he X.s_0 X.H_0 0 [] []).sd (hi.sd _ _ _ q))⟩
end
end D2

set_option maxRecDepth 100000
set_option maxHeartbeats 400000
namespace D2
open PySem PySem.Spec PyProof.Rows L2
/-! ### list(d) of a dict, changed later -/
def wLsDP (wa : WE) : WE := fun Γ M Q => wa Γ M fun x Γ1 M1 => match dctD M1 x with
  | some es => ∀ p, M1 p = none → Q (.ptr p) Γ1 (M1.put p (.lst (es.map fun kv => dKey kv.1)))
  | none => False
theorem pd_lsDP {X : Cx} {e : Expr} {te : TE} {we : WE} {p pos : Pos} (hc : X.calm = true) (hg : Gl X "list") (hm : X.mg "list" = none) (he : PDE X e te we)
    (h1 : starEach [e] X.env = (false, eval e X.env) :: starEach [] X.env := by rfl) (hpl : (backTo pos (starEach [] X.env)).any (·.1) = false := by rfl) :
    PDE X (.Call (.Name "list" p) [e] [] pos) (tCB rdLD (tCons te tNil)) (wLsDP we) :=
  ⟨pe_callTy (call_listD hc) hg hm (by decide +kernel) (pa_cons he.pe pa_nil h1) (by decide) (by decide) h1 hpl, fun Γ M Q q F σ H R s l k => by
    refine he.sd _ _ _ q F σ H _ s l fun F1 v H1 d Γ1 M1 e1 s1 l1 i1 q => ?_
    split at q
    · rename_i es hes
      obtain ⟨a, kvs, rfl, hp, ik⟩ := dct_is s1 i1 hes
      refine ⟨a, kvs, rfl, .inl hp, fun r hr => ?_⟩
      have g1 : (kvs.map fun kv => kV kv.1) = (kvs.map (·.1)).map kV := by rw [List.map_map]; rfl
      have g2 : (es.map fun kv => dKey kv.1) = (es.map (·.1)).map dKey := by rw [List.map_map]; rfl
      rw [g2] at q
      rw [g1, isKs_keys ik]
      exact k F1 _ _ _ Γ1 _ e1 (new_cell s1 l1 hr (keys_all (K := X.K) (F := F1) (es.map (·.1)))) l1 (.ptr r) (q r (s1.none_of hr).2)
    · exact q.elim⟩
end D2

set_option maxRecDepth 100000
set_option maxHeartbeats 400000
namespace D2
open PySem PySem.Spec PyProof.Rows L2
/-! ### comprehensions over a list that is changed later -/
structure WalksP (K : W.Frag) (J : It) (F : Hp) (a : Addr) (ds : List D) : Prop where
  go : ∀ F' M H i d, Same F F' → Sat K F' M H → M a = some (.lst ds) → ds[i]? = some d → J.go i H ∧ ∀ x H', J.yld i H x H' → ∃ F'', Same F' F'' ∧ Sat K F'' M H' ∧ Is K F'' x d
  stop : ∀ F' M H, Same F F' → Sat K F' M H → M a = some (.lst ds) → J.stop ds.length H
def DIP (K : W.Frag) (wi : TI) (Γ : Ga) (M : Mem) (Q : Addr → List D → Ga → Mem → Prop) : Prop :=
  ∀ (F : Hp) (σ : L2.St) (H : Hp) (R : It → Hp → Prop), Sat K F M H → Loc K F σ Γ →
    (∀ F' J H' a ds Γ' M', Same F F' → Sat K F' M' H' → Loc K F' σ Γ' → M' a = some (.lst ds) → WalksP K J F' a ds → Q a ds Γ' M' → R J H') → wi σ H R
theorem dip_list {K : W.Frag} {Γ : Ga} {M : Mem} {tl : TE} {Q : Addr → List D → Ga → Mem → Prop} (h : DE K tl Γ M fun d Γ' M' => ∃ a ds, d = .ptr a ∧ M' a = some (.lst ds) ∧ Q a ds Γ' M') : DIP K (iList K tl) Γ M Q := fun F σ H R s l k => by
  refine h F σ H _ s l fun F1 v H1 d Γ1 M1 e s1 l1 is q => ?_
  obtain ⟨a, ds, rfl, hm, q⟩ := q
  cases is
  obtain ⟨_, xs, h1, h2⟩ := s1.cell a _ hm
  refine ⟨a, rfl, ⟨xs, SqL.of h1⟩, k F1 _ H1 a ds Γ1 M1 e s1 l1 hm ⟨fun F' M' H' i d e' s' hm' hd => ?_, fun F' M' H' e' s' hm' => ?_⟩ q⟩
  · obtain ⟨_, ys, g1, g2⟩ := s'.cell a _ hm'
    have q : SqL K H' a ys := SqL.of g1
    obtain ⟨x, hx, ix⟩ := g2.get hd
    refine ⟨⟨ys, x, q, hx⟩, fun y H'' z => ?_⟩
    obtain ⟨rfl, z⟩ := z
    have z' := (z ys q).symm.trans hx
    cases z'
    exact ⟨F', Same.refl F', s', ix⟩
  · obtain ⟨_, ys, g1, g2⟩ := s'.cell a _ hm'
    exact ⟨ys, SqL.of g1, by rw [g2.length]; exact Nat.le_refl _⟩
def lcLP (a : Addr) (src : List D) (g : WG) (c : WT) (we : WE) (Γ : Ga) (k : List D → Mem → Prop) (p : Addr) : List D → List D → Mem → Prop
  | [], acc, M => M a = some (.lst src) ∧ k acc M
  | d :: ds, acc, M => M a = some (.lst src) ∧ g d Γ (M.put p (.lst acc)) fun Γ2 M2 => c Γ2 M2 fun b Γ3 M3 => wite b (we Γ3 M3 (fun y _ M4 => ∃ M5 : Mem, M5 p = none ∧ M4 = M5.put p (.lst acc) ∧ lcLP a src g c we Γ k p ds (acc ++ [y]) M5))
      (∃ M5 : Mem, M5 p = none ∧ M3 = M5.put p (.lst acc) ∧ lcLP a src g c we Γ k p ds acc M5)
theorem lcLP_src {a : Addr} {src : List D} {g : WG} {c : WT} {we : WE} {Γ : Ga} {k : List D → Mem → Prop} {p : Addr} {ds acc : List D} {M : Mem} (h : lcLP a src g c we Γ k p ds acc M) : M a = some (.lst src) := by
  cases ds with
  | nil => exact h.1
  | cons d ds => exact h.1
abbrev WIP := Ga → Mem → (Addr → List D → Ga → Mem → Prop) → Prop
def wItP (wa : WE) : WIP := fun Γ M Q => wa Γ M fun d Γ1 M1 => match d with
  | .ptr a => match M1 a with
    | some (.lst ds) => Q a ds Γ1 M1
    | _ => False
  | _ => False
structure PDIP (X : Cx) (tg iter : Expr) (t : TI) (w : WIP) : Prop where
  pi : PI X tg iter t
  sd : ∀ Γ M Q, w Γ M Q → DIP X.K t Γ M Q
theorem pi_p {X : Cx} {tg e : Expr} {te : TE} {we : WE} (h : PDE X e te we) : PDIP X tg e (iList X.K te) (wItP we) := ⟨pi_list h.pe, fun Γ M Q q => dip_list ((h.sd _ _ _ q).imp fun d Γ1 M1 q => by
  split at q
  · rename_i a
    split at q
    · rename_i ds hm; exact ⟨a, ds, rfl, hm, q⟩
    · exact q.elim
  · exact q.elim)⟩
def wLcP (wi : WIP) (g : WG) (c : WT) (we : WE) : WE := fun Γ M Q => wi Γ M fun a src Γ1 M1 => src.length ≤ sizeLine ∧ ∀ p, M1 p = none → lcLP a src g c we Γ1 (fun acc M' => Q (.lst acc) Γ1 M') p src [] M1
section
variable {K : W.Frag} {Γ : Ga} {M : Mem} {Q : KE} {wi : TI} {g : TG} {tt : TT} {te : TE} {vs : List Nat} {gw : WG} {cw : WT} {we : WE}
theorem lcP_ok (sg : ∀ d Γ M Q, gw d Γ M Q → DGc K g vs d Γ M Q) (sc : ∀ Γ M Q, cw Γ M Q → DT K tt Γ M Q) (se : ∀ Γ M Q, we Γ M Q → DE K te Γ M Q)
    (h : DIP K wi Γ M fun a src Γ1 M1 => src.length ≤ sizeLine ∧ ∀ p, M1 p = none → lcLP a src gw cw we Γ1 (fun acc M' => Q (.lst acc) Γ1 M') p src [] M1) : DE K (tLc wi g tt te vs) Γ M Q := fun F σ H R s l k => by
  refine h F σ H _ s l fun F1 J H1 a ds Γ1 M1 e1 s1 l1 hsrc w q p hp => ?_
  obtain ⟨hz, q⟩ := q
  have hM := (s1.none_of hp).2
  have hap : a ≠ p := fun e => by rw [e, hM] at hsrc; cases hsrc
  have q0 := q p hM
  have start : Sat K F1 (M1.put p (.lst [])) (upd H1 p (.lst [])) := s1.newCell hp ⟨[], upd_same, .nil⟩
  refine ⟨fun i m H' => m = ds.length - i ∧ i ≤ ds.length ∧ ∃ F' acc M', Same F1 F' ∧ M' p = none ∧ Sat K F' (M'.put p (.lst acc)) H' ∧ acc.length ≤ i ∧ lcLP a ds gw cw we Γ1 (fun acc M' => Q (.lst acc) Γ1 M') p (ds.drop i) acc M', ⟨_, rfl, Nat.zero_le _, F1, [], M1, Same.refl F1, hM, start, Nat.le_refl _, q0⟩, ?_⟩
  rintro i m H' ⟨rfl, hi, F', acc, M', e', hM', s', ha, iv⟩
  have hs' : (M'.put p (.lst acc)) a = some (.lst ds) := by rw [Mem.put_ne hap]; exact lcLP_src iv
  by_cases hlt : i < ds.length
  · have hd : ds[i]? = some ds[i] := List.getElem?_eq_getElem hlt
    have e2 : ds.drop i = ds[i] :: ds.drop (i + 1) := List.drop_eq_getElem_cons hlt
    rw [e2] at iv
    obtain ⟨hg, hy⟩ := w.go F' _ H' i _ e' s' hs' hd
    refine .inr ⟨hg, fun H2 => ∃ F' acc M', Same F1 F' ∧ M' p = none ∧ Sat K F' (M'.put p (.lst acc)) H2 ∧ acc.length ≤ i + 1 ∧ lcLP a ds gw cw we Γ1 (fun acc M' => Q (.lst acc) Γ1 M') p (ds.drop (i + 1)) acc M', fun H2 ⟨F2, acc2, M2, a, b, c, d, e⟩ => ⟨ds.length - (i + 1), by omega, rfl, hlt, F2, acc2, M2, a, b, c, d, e⟩, fun x H2 yl => ?_⟩
    obtain ⟨F2, e2, s2, is2⟩ := hy x H2 yl
    refine sg _ _ _ _ iv.2 F2 σ H2 x _ s2 (l1.mono (e'.trans e2)) is2 fun F3 σ3 H3 Γ3 M3 e3 s3 l3 hw q3 => ⟨hw, ?_⟩
    refine sc _ _ _ q3 F3 σ3 H3 _ s3 l3 fun F4 b H4 Γ4 M4 e4 s4 l4 q4 => ?_
    have e14 : Same F1 F4 := ((e'.trans e2).trans e3).trans e4
    cases b with
    | true =>
      refine se _ _ _ ((if_and q4).1 rfl) F4 σ3 H4 _ s4 l4 fun F5 y H5 dy Γ5 M5 e5 s5 l5 iy q5 => ?_
      obtain ⟨M6, hM6, rfl, q6⟩ := q5
      obtain ⟨hF, xs, hx, ix⟩ := s5.cell p _ Mem.put_same
      have hlen : xs.length = acc.length := ix.length
      refine ⟨xs, hx, by rw [hlen]; omega, F5, acc ++ [dy], M6, e14.trans e5, hM6, ?_, by rw [List.length_append]; show acc.length + 1 ≤ i + 1; omega, q6⟩
      have z := s5.put (o := .lst (xs ++ [y])) (m' := .lst (acc ++ [dy])) Mem.put_same ⟨_, upd_same, ix.append (.cons iy .nil)⟩
      rw [Mem.put_put] at z
      exact z
    | false =>
      obtain ⟨M6, hM6, rfl, q6⟩ := (if_and q4).2 rfl
      exact ⟨F4, acc, M6, e14, hM6, s4, by omega, q6⟩
  · have ei : i = ds.length := by omega
    subst ei
    rw [List.drop_length] at iv
    obtain ⟨hn, xs, ho, hx⟩ := s'.cell p _ Mem.put_same
    have sm : Same F' (upd F' p (.lst xs)) := same_upd hn
    have z := s'.freeze ho hn
    rw [Mem.put_del hM'] at z
    exact .inl ⟨w.stop F' _ H' e' s' hs', k _ (.ref p) H' (.lst acc) Γ1 _ ((e1.trans e').trans sm) z ((l1.mono e').mono sm) (.lst upd_same (hx.mono sm)) iv.2⟩
/-- the list stays a cell -/
theorem lcC_ok (sg : ∀ d Γ M Q, gw d Γ M Q → DGc K g vs d Γ M Q) (sc : ∀ Γ M Q, cw Γ M Q → DT K tt Γ M Q) (se : ∀ Γ M Q, we Γ M Q → DE K te Γ M Q)
    (h : DI K wi Γ M fun ds Γ1 M1 => ds.length ≤ sizeLine ∧ ∀ p, M1 p = none → lcL gw cw we Γ1 (fun acc M' => Q (.ptr p) Γ1 (M'.put p (.lst acc))) p ds [] M1) : DE K (tLc wi g tt te vs) Γ M Q := fun F σ H R s l k => by
  refine h F σ H _ s l fun F1 J H1 ds Γ1 M1 e1 s1 l1 w q p hp => ?_
  obtain ⟨hz, q⟩ := q
  have hM := (s1.none_of hp).2
  have q0 := q p hM
  have start : Sat K F1 (M1.put p (.lst [])) (upd H1 p (.lst [])) := s1.newCell hp ⟨[], upd_same, .nil⟩
  refine ⟨fun i m H' => m = ds.length - i ∧ i ≤ ds.length ∧ ∃ F' acc M', Same F1 F' ∧ M' p = none ∧ Sat K F' (M'.put p (.lst acc)) H' ∧ acc.length ≤ i ∧ lcL gw cw we Γ1 (fun acc M' => Q (.ptr p) Γ1 (M'.put p (.lst acc))) p (ds.drop i) acc M', ⟨_, rfl, Nat.zero_le _, F1, [], M1, Same.refl F1, hM, start, Nat.le_refl _, q0⟩, ?_⟩
  rintro i m H' ⟨rfl, hi, F', acc, M', e', hM', s', ha, iv⟩
  by_cases hlt : i < ds.length
  · have hd : ds[i]? = some ds[i] := List.getElem?_eq_getElem hlt
    have e2 : ds.drop i = ds[i] :: ds.drop (i + 1) := List.drop_eq_getElem_cons hlt
    rw [e2] at iv
    obtain ⟨hg, hy⟩ := w.go F' _ H' i _ e' s' hd
    refine .inr ⟨hg, fun H2 => ∃ F' acc M', Same F1 F' ∧ M' p = none ∧ Sat K F' (M'.put p (.lst acc)) H2 ∧ acc.length ≤ i + 1 ∧ lcL gw cw we Γ1 (fun acc M' => Q (.ptr p) Γ1 (M'.put p (.lst acc))) p (ds.drop (i + 1)) acc M', fun H2 ⟨F2, acc2, M2, a, b, c, d, e⟩ => ⟨ds.length - (i + 1), by omega, rfl, hlt, F2, acc2, M2, a, b, c, d, e⟩, fun x H2 yl => ?_⟩
    obtain ⟨F2, e2, s2, is2⟩ := hy x H2 yl
    refine sg _ _ _ _ iv F2 σ H2 x _ s2 (l1.mono (e'.trans e2)) is2 fun F3 σ3 H3 Γ3 M3 e3 s3 l3 hw q3 => ⟨hw, ?_⟩
    refine sc _ _ _ q3 F3 σ3 H3 _ s3 l3 fun F4 b H4 Γ4 M4 e4 s4 l4 q4 => ?_
    have e14 : Same F1 F4 := ((e'.trans e2).trans e3).trans e4
    cases b with
    | true =>
      refine se _ _ _ ((if_and q4).1 rfl) F4 σ3 H4 _ s4 l4 fun F5 y H5 dy Γ5 M5 e5 s5 l5 iy q5 => ?_
      obtain ⟨M6, hM6, rfl, q6⟩ := q5
      obtain ⟨hF, xs, hx, ix⟩ := s5.cell p _ Mem.put_same
      have hlen : xs.length = acc.length := ix.length
      refine ⟨xs, hx, by rw [hlen]; omega, F5, acc ++ [dy], M6, e14.trans e5, hM6, ?_, by rw [List.length_append]; show acc.length + 1 ≤ i + 1; omega, q6⟩
      have z := s5.put (o := .lst (xs ++ [y])) (m' := .lst (acc ++ [dy])) Mem.put_same ⟨_, upd_same, ix.append (.cons iy .nil)⟩
      rw [Mem.put_put] at z
      exact z
    | false =>
      obtain ⟨M6, hM6, rfl, q6⟩ := (if_and q4).2 rfl
      exact ⟨F4, acc, M6, e14, hM6, s4, by omega, q6⟩
  · have ei : i = ds.length := by omega
    subst ei
    rw [List.drop_length] at iv
    exact .inl ⟨w.stop F' _ H' e' s', k F' (.ref p) H' (.ptr p) Γ1 _ (e1.trans e') s' (l1.mono e') (.ptr p) iv⟩
end
def wLcC (wi : WA) (g : WG) (c : WT) (we : WE) : WE := fun Γ M Q => wi Γ M fun ds Γ1 M1 => ds.length ≤ sizeLine ∧ ∀ p, M1 p = none → lcL g c we Γ1 (fun acc M' => Q (.ptr p) Γ1 (M'.put p (.lst acc))) p ds [] M1
section
variable {X : Cx} {elt tg iter : Expr} {ifs : List Expr} {scope : Scope} {own : List (Str × Nat)} {pos : Pos} {wi : TI} {g : TG} {tt : TT} {te : TE} {ww : WA} {wp : WIP} {gw : WG} {cw : WT} {we : WE}
theorem pd_lcP (hc : X.calm = true) (hN : X.N.Nodup) (hi : PDIP X tg iter wi wp) (ok : BlkOk X.N X.env.scope scope own)
    (hg : ∀ (s : Shared) (H : Hp) (C : Addr) (cl : List (Str × Addr)) (fp : List Addr), PG (X.blk s H scope (compEnvC scope cl C X.env) fp) tg g) (hgd : PDGc X.K g (own.map (·.2)) gw)
    (ht : ∀ (s : Shared) (H : Hp) (C : Addr) (cl : List (Str × Addr)) (fp : List Addr), PDTs (X.blk s H scope (compEnvC scope cl C X.env) fp) ifs tt cw)
    (he : ∀ (s : Shared) (H : Hp) (C : Addr) (cl : List (Str × Addr)) (fp : List Addr), PDE (X.blk s H scope (compEnvC scope cl C X.env) fp) elt te we) (hs : ∀ x, foldedSetIterable iter X.env x = pure x := by intro _; rfl) :
    PDE X (.ListComp elt [⟨tg, iter, ifs, 0⟩] scope pos) (tLc wi g tt te (own.map (·.2))) (wLcP wp gw cw we) :=
  ⟨pe_lc hc hN hi.pi ok hg (fun s H C cl fp => (ht s H C cl fp).pt) (fun s H C cl fp => (he s H C cl fp).pe) hs, fun Γ M Q q =>
    lcP_ok hgd.sd (ht X.s_0 X.H_0 0 [] []).sd (he X.s_0 X.H_0 0 [] []).sd (hi.sd _ _ _ q)⟩
theorem pds_setLcC {i : Nat} {y : Str} {py : Pos} {spos : Pos} (hc : X.calm = true) (hN : X.N.Nodup) (hy : X.N[i]? = some y) (hyl : X.env.scope.names.lookup y = some .local)
    (hsw : swapsWith (.ListComp elt [⟨tg, iter, ifs, 0⟩] scope pos) (some (.Name y py)) spos.line X.env = pure true) (hi : PDI X tg iter wi ww) (ok : BlkOk X.N X.env.scope scope own)
    (hg : ∀ (s : Shared) (H : Hp) (C : Addr) (cl : List (Str × Addr)) (fp : List Addr), PG (X.blk s H scope (compEnvC scope cl C X.env) fp) tg g) (hgd : PDGc X.K g (own.map (·.2)) gw)
    (ht : ∀ (s : Shared) (H : Hp) (C : Addr) (cl : List (Str × Addr)) (fp : List Addr), PDTs (X.blk s H scope (compEnvC scope cl C X.env) fp) ifs tt cw)
    (he : ∀ (s : Shared) (H : Hp) (C : Addr) (cl : List (Str × Addr)) (fp : List Addr), PDE (X.blk s H scope (compEnvC scope cl C X.env) fp) elt te we) (hs : ∀ x, foldedSetIterable iter X.env x = pure x := by intro _; rfl) :
    PDS X (.Assign [.Name y py] (.ListComp elt [⟨tg, iter, ifs, 0⟩] scope pos) spos) (tAsg (tLc wi g tt te (own.map (·.2))) (gName i)) (wAsg (wLcC ww gw cw we) (gN i)) :=
  ⟨ps_setLc hc hN hy hyl hsw hi.pi ok hg (fun s H C cl fp => (ht s H C cl fp).pt) (fun s H C cl fp => (he s H C cl fp).pe) hs, fun Γ M P q =>
    ds_set (lcC_ok hgd.sd (ht X.s_0 X.H_0 0 [] []).sd (he X.s_0 X.H_0 0 [] []).sd (hi.sd _ _ _ q))⟩
end
theorem lcP_by {a : Addr} {src : List D} {g : WG} {c : WT} {we : WE} {Γ : Ga} {k : List D → Mem → Prop} {p : Addr} (I : List D → List D → Mem → Prop) (hm : ∀ r acc M, I r acc M → M a = some (.lst src)) (h0 : ∀ acc M, I [] acc M → k acc M)
    (hs : ∀ d ds acc M, I (d :: ds) acc M → (∀ acc' M', I ds acc' M' → lcLP a src g c we Γ k p ds acc' M') → g d Γ (M.put p (.lst acc)) fun Γ2 M2 => c Γ2 M2 fun b Γ3 M3 => wite b (we Γ3 M3 (fun y _ M4 => ∃ M5 : Mem, M5 p = none ∧ M4 = M5.put p (.lst acc) ∧ lcLP a src g c we Γ k p ds (acc ++ [y]) M5))
      (∃ M5 : Mem, M5 p = none ∧ M3 = M5.put p (.lst acc) ∧ lcLP a src g c we Γ k p ds acc M5)) :
    ∀ ds acc M, I ds acc M → lcLP a src g c we Γ k p ds acc M
  | [], acc, M, h => ⟨hm _ _ _ h, h0 acc M h⟩
  | d :: ds, acc, M, h => ⟨hm _ _ _ h, hs d ds acc M h (lcP_by I hm h0 hs ds)⟩
/-! ### repr of a list that is changed later -/
def wRepr : WC := fun M xs k => match xs with
  | [.ptr a] => match M a with
    | some (.lst ds) => ∃ ps, Pds ds ps ∧ PyData.showable (.list ps) = true ∧ PyData.hasDict (.list ps) = false ∧ PyData.depth (.list ps) ≤ 60 ∧ (PyData.shown (.list ps)).length ≤ sizeLine ∧ k (.str (PyData.shown (.list ps)))
    | _ => False
  | _ => False
theorem pc_repr {X : Cx} (hg : X.A.guards = some []) (hu : X.A.units + 64 < cLine) : PDCl X (.builtin "repr") (rReprD X.K) wRepr := ⟨cg_repr hg hu, fun x Γ M Q h F σ H vs R s l ix kk => by
  unfold wRepr at h
  split at h
  · rename_i a
    split at h
    · rename_i ds hm
      obtain ⟨ps, h1, hs, hn, hp, hz, q⟩ := h
      obtain ⟨v, rfl, i1⟩ := one_is ix
      cases i1
      obtain ⟨_, xs, g1, g2⟩ := s.cell a _ hm
      have d1 : Dp X.K H (.ref a) (.list ps) := dp_of (Same.refl H) (.lst h1) (.lst g1 (g2.mono s.sub))
      exact ⟨_, .list ps, rfl, d1, hs, hn, hp, hz, kk F _ H _ Γ M (Same.refl F) s l (.str _) q⟩
    · exact h.elim
  · exact h.elim⟩
end D2

set_option maxRecDepth 100000
set_option maxHeartbeats 400000
namespace D2
open PySem PySem.Spec PyProof.Rows L2
/-! ### the one form, read -/
theorem lo_brk {t : Tr} {k : Nat} {a : List Str} {s : Str} {e : Bool} {l l0 : Int} (h : Lo k t l0 a) (h1 : 1 ≤ l0) (sp : Sp false a s.cps.toList e) : ∃ toks e', Lo (k + 1) t l toks ∧ Sp false toks (brk (decide (l0 < l)) s).cps.toList e' := by
  by_cases hl : l0 < l
  · refine ⟨"(" :: (a ++ [(")" : Str)]), false, .par (h.low h1), ?_⟩
    rw [brk_t (decide_eq_true hl)]
    have s1 : Sp false ["("] ("(" : Str).cps.toList false := .sym 40 (by decide) (.nil false)
    have s2 : Sp e [")"] (")" : Str).cps.toList false := .sym 41 (by decide) (.nil false)
    have := (s1.str sp).str s2
    rw [List.append_assoc] at this
    exact this
  · exact ⟨a, e, (h.low (by omega)).mono (Nat.le_succ _), by rw [brk_f (decide_eq_false hl)]; exact sp⟩
theorem sgn_sp (o : Bn) (e : Bool) : Sp e [o.tok] o.sgn.cps.toList false := by
  cases o with
  | add => exact .sp (.sym 43 (by decide) (.sp (.nil false)))
  | sub => exact .sp (.sym 45 (by decide) (.sp (.nil false)))
  | mul => exact .sym 42 (by decide) (.nil false)
  | div => exact .sym 47 (by decide) (.nil false)
theorem lo_shown : ∀ (t : Tr) (l : Int), GoodT t → ∃ toks e, Lo t.deep t l toks ∧ Sp false toks (shownT t l).cps.toList e
  | .num n, l, g => ⟨[numS n], _, .num n, Sp.tok (tok_num g.1 g.2) fun _ => rfl⟩
  | .name x, l, g => ⟨[x], _, .name x, Sp.tok (tok_name g) fun _ => rfl⟩
  | .im, l, g => ⟨["i"], _, .im, Sp.tok tok_i fun _ => rfl⟩
  | .root t, l, g => by
    obtain ⟨a, e, h, sp⟩ := lo_shown t 1 g
    have s1 : Sp false ["root", "("] ("root(" : Str).cps.toList false := .run "root" ⟨by decide, by decide +kernel⟩ (.sym 40 (by decide) (.nil false))
    have s2 : Sp e [")"] (")" : Str).cps.toList false := .sym 41 (by decide) (.nil false)
    have := (s1.str sp).str s2
    rw [List.append_assoc] at this
    exact ⟨_, _, .root h, this⟩
  | .pow t x, l, g => by
    obtain ⟨a, e, h, sp⟩ := lo_shown t 4 g.1
    have s1 : Sp e ["^"] ("^" : Str).cps.toList false := .sym 94 (by decide) (.nil false)
    have s2 : Sp false [numS x] (numS x).cps.toList _ := Sp.tok (tok_num g.2.1 (by have := g.2.2; omega)) fun _ => rfl
    have := (sp.str s1).str s2
    rw [List.append_assoc] at this
    exact lo_brk (l := l) (.pow (l := 3) x (by decide) h) (by decide) this
  | .neg t, l, g => by
    obtain ⟨a, e, h, sp⟩ := lo_shown t 2 g
    have s1 : Sp false ["-"] ("-" : Str).cps.toList false := .sym 45 (by decide) (.nil false)
    have := s1.str sp
    exact lo_brk (l := l) (.neg (l := 1) (by decide) h) (by decide) this
  | .bin o x y, l, g => by
    obtain ⟨a, e, h, sp⟩ := lo_shown x o.lvl g.1
    obtain ⟨b, e2, h2, sp2⟩ := lo_shown y (o.lvl + 1) g.2
    have hl := lvl_cases o
    have := (sp.str (sgn_sp o e)).str sp2
    rw [List.append_assoc] at this
    exact lo_brk (l := l) (.bin (l := o.lvl) o (Int.le_refl _) (h.mono (m := max x.deep y.deep) (by omega)) (h2.mono (by omega))) (by omega) this
theorem shown_toks {t : Tr} (g : GoodT t) : Lo t.deep t 1 ((tokL (shownT t 1)).map (·.1)) := by
  obtain ⟨a, e, h, sp⟩ := lo_shown t 1 g
  rw [tokL_sp sp]
  exact h

/-! ### tokens tell the tree -/
theorem op_det {w b : Str} {s u : Step} (h : OpStep w b s) (k : OpStep w b u) : s = u := by
  have nn : ∀ {n : Int} {x : Str}, 0 ≤ n → nameB x = true → numS n = x → False := fun {n x} h0 hx e => by
    obtain ⟨c, l, e1, h1, h2⟩ := num_head h0
    obtain ⟨d, m, e2, h3⟩ := name_head hx
    rw [e, e2] at e1
    injection e1 with e1 _
    subst e1
    have : ∀ c ∈ letsS.cps.toList, ¬ c ≤ 57 := by decide +kernel
    exact this d h3 h2
  have ni : ∀ {n : Int}, 0 ≤ n → numS n ≠ "i" := fun h0 => num_ne h0 (by decide +kernel)
  have xi : ∀ {x : Str}, nameB x = true → x ≠ "i" := fun hx => name_word hx (by decide)
  have inj : ∀ {n m : Int}, 0 ≤ n → n < 10 ^ 40 → 0 ≤ m → m < 10 ^ 40 → numS n = numS m → n = m := fun h0 h1 h2 h3 e => by
    have a := int_numS h0 h1
    rw [e, int_numS h2 h3] at a
    exact (Option.some.inj a).symm
  generalize hw : w = w' at k
  cases h with
  | pow e h0 h1 =>
    cases k with
    | pow f h2 h3 => rw [inj h0 (by omega) h2 (by omega) hw]
    | im hb => exact absurd rfl hb
    | num n hb => exact absurd rfl hb
    | name hb => exact absurd rfl hb
  | im hb =>
    cases k with
    | pow f h2 h3 => exact absurd rfl hb
    | im => rfl
    | num n _ h2 h3 => exact absurd hw.symm (ni h2)
    | name _ h2 => exact absurd hw.symm (xi h2)
  | num n hb h0 h1 =>
    cases k with
    | pow f h2 h3 => exact absurd rfl hb
    | im => exact absurd hw (ni h0)
    | num m _ h2 h3 => rw [inj h0 h1 h2 h3 hw]
    | name _ h2 => exact (nn h0 h2 hw).elim
  | name hb hn =>
    cases k with
    | pow f h2 h3 => exact absurd rfl hb
    | im => exact absurd hw (xi hn)
    | num m _ h2 h3 => exact (nn h2 hn hw.symm).elim
    | name _ h2 => rw [hw]
open Classical in
noncomputable def stF (w b : Str) : Step := if h : ∃ st, OpStep w b st then h.choose else .im
theorem stF_of {w b : Str} {s : Step} (h : OpStep w b s) : stF w b = s := by
  unfold stF
  rw [dif_pos ⟨s, h⟩]
  exact op_det (Exists.choose_spec (⟨s, h⟩ : ∃ st, OpStep w b st)) h
def opT (w : Str) : Option Bn := if w = "+" then some .add else if w = "-" then some .sub else if w = "*" then some .mul else if w = "/" then some .div else none
noncomputable def postF : List Str → List D → List (Int × Str) → Str → List D
  | [], o, W, _ => o ++ W.map wd
  | w :: r, o, W, b =>
    if w = ")" then
      match W.dropWhile (fun v => decide (1 ≤ v.1)) with
      | [] => []
      | e :: W' => postF r (o ++ (W.takeWhile fun v => decide (1 ≤ v.1)).map wd ++ (if e.2 = "root" then [encS .root] else [])) W' ")"
    else if w = "(" then postF r o ((if b = "root" then eR else eP) :: W) "("
    else if w = "^" then postF r o W "^"
    else if w = "root" then postF r o W "root"
    else match opT w with
      | some x => if b = "(" then postF r o (eN :: W) "-" else postF r (o ++ (W.takeWhile fun v => decide (x.lvl ≤ v.1)).map wd) ((x.lvl, x.tok) :: W.dropWhile fun v => decide (x.lvl ≤ v.1)) x.tok
      | none => postF r (o ++ [encS (stF w b)]) W w
theorem tw_cut {α : Type} {p : α → Bool} : ∀ {V W : List α}, (∀ v ∈ V, p v = true) → (∀ v ∈ W.head?, p v = false) → (V ++ W).takeWhile p = V ∧ (V ++ W).dropWhile p = W
  | [], [], _, _ => ⟨rfl, rfl⟩
  | [], w :: W, _, h => by
    have := h w rfl
    exact ⟨List.takeWhile_cons_of_neg (by rw [this]; exact Bool.noConfusion), List.dropWhile_cons_of_neg (by rw [this]; exact Bool.noConfusion)⟩
  | v :: V, W, h, g => by
    have h1 := h v (List.mem_cons_self ..)
    obtain ⟨a, b⟩ := tw_cut (V := V) (W := W) (fun u hu => h u (List.mem_cons_of_mem _ hu)) g
    exact ⟨by rw [List.cons_append, List.takeWhile_cons_of_pos h1, a], by rw [List.cons_append, List.dropWhile_cons_of_pos h1, b]⟩
theorem op_T (o : Bn) : opT o.tok = some o ∧ o.tok ≠ ")" ∧ o.tok ≠ "(" ∧ o.tok ≠ "^" ∧ o.tok ≠ "root" := by cases o <;> decide +kernel
theorem op_none {w b : Str} {st : Step} (h : OpStep w b st) : opT w = none := by
  have h1 := (op_plain h).1
  unfold rankD at h1
  unfold opT
  by_cases a : w = "+"
  · subst a; exact absurd h1 (by decide)
  by_cases b : w = "-"
  · subst b; exact absurd h1 (by decide)
  by_cases c : w = "*"
  · subst c; exact absurd h1 (by decide)
  by_cases d : w = "/"
  · subst d; exact absurd h1 (by decide)
  rw [if_neg a, if_neg b, if_neg c, if_neg d]
theorem post_F {L : List Str} {o : List D} {W : List (Int × Str)} {b : Str} {res : List D} (h : Post L o W b res) : res = postF L o W b := by
  induction h with
  | done => rfl
  | @shutP r o V W b res hV h ih =>
    obtain ⟨h1, h2⟩ := tw_cut (p := fun v : Int × Str => decide (1 ≤ v.1)) (V := V) (W := eP :: W) (fun v hv => decide_eq_true (hV v hv)) (fun v hv => by cases hv; rfl)
    unfold postF
    rw [if_pos rfl, h1, h2, ih]
    show _ = postF r (o ++ V.map wd ++ []) W ")"
    rw [List.append_nil]
  | @shutR r o V W b res hV h ih =>
    obtain ⟨h1, h2⟩ := tw_cut (p := fun v : Int × Str => decide (1 ≤ v.1)) (V := V) (W := eR :: W) (fun v hv => decide_eq_true (hV v hv)) (fun v hv => by cases hv; rfl)
    unfold postF
    rw [if_pos rfl, h1, h2, ih]
    rfl
  | openP hb h ih =>
    unfold postF
    rw [if_neg (by decide), if_pos rfl, if_neg hb, ih]
  | openR h ih =>
    unfold postF
    rw [if_neg (by decide), if_pos rfl, if_pos rfl, ih]
  | @op r o V W b res x hV htop hb hr h ih =>
    obtain ⟨h1, h2⟩ := tw_cut (p := fun v : Int × Str => decide (x.lvl ≤ v.1)) (V := V) (W := W) (fun v hv => decide_eq_true (hV v hv)) (fun v hv => decide_eq_false (by have := htop v hv; omega))
    obtain ⟨a1, a2, a3, a4, a5⟩ := op_T x
    unfold postF
    rw [if_neg a2, if_neg a3, if_neg a4, if_neg a5, a1, ih]
    show _ = if b = "(" then _ else _
    rw [if_neg hb, h1, h2]
  | neg htop hr h ih =>
    unfold postF
    rw [if_neg (by decide), if_neg (by decide), if_neg (by decide), if_neg (by decide), ih]
    rfl
  | hat h ih =>
    unfold postF
    rw [if_neg (by decide), if_neg (by decide), if_pos rfl, ih]
  | root h ih =>
    unfold postF
    rw [if_neg (by decide), if_neg (by decide), if_neg (by decide), if_pos rfl, ih]
  | arg hs h ih =>
    obtain ⟨_, a2, a3, a4, a5⟩ := op_plain hs
    unfold postF
    rw [if_neg a2, if_neg a3, if_neg a4, if_neg a5, op_none hs, stF_of hs, ih]
theorem encS_inj {s u : Step} (h : encS s = encS u) : s = u := by
  cases s with
  | bin o => cases u with
    | bin p => cases o <;> cases p <;> first | rfl | (simp only [encS, Bn.tok] at h; exact absurd h (by simp; try decide))
    | num n => cases o <;> simp [encS] at h
    | name n => cases o <;> simp [encS] at h
    | pow n => cases o <;> simp [encS] at h
    | _ => cases o <;> (simp only [encS, Bn.tok, D.tup.injEq, List.cons.injEq, D.str.injEq, and_true] at h; exact absurd h (by decide))
  | _ => cases u with
    | bin p => cases p <;> first | (simp [encS] at h; done) | (simp only [encS, Bn.tok, D.tup.injEq, List.cons.injEq, D.str.injEq, and_true] at h; exact absurd h (by decide))
    | _ => first | rfl | (simp only [encS, D.tup.injEq, List.cons.injEq, D.str.injEq, D.int.injEq, and_true, true_and] at h; first | (subst h; rfl) | exact absurd h (by decide) | exact absurd h.1 (by decide)) | (simp [encS] at h; done)
theorem map_encS_inj : ∀ {a b : List Step}, a.map encS = b.map encS → a = b
  | [], [], _ => rfl
  | [], b :: _, h => by cases h
  | a :: _, [], h => by cases h
  | a :: as, b :: bs, h => by
    injection h with h1 h2
    rw [encS_inj h1, map_encS_inj h2]
theorem lo_inj {k m : Nat} {t u : Tr} {a : List Str} (h : Lo k t 1 a) (g : Lo m u 1 a) (gt : GoodT t) (gu : GoodT u) : t = u := by
  have h1 := post_F (post_all h gt)
  have h2 := post_F (post_all g gu)
  exact steps_inj (map_encS_inj (h1.trans h2.symm))
theorem shown_inj {t u : Tr} (gt : GoodT t) (gu : GoodT u) : decide (shownT t 1 = shownT u 1) = decide (t = u) := by
  by_cases h : t = u
  · rw [decide_eq_true h, h, decide_eq_true rfl]
  · rw [decide_eq_false h]
    refine decide_eq_false fun e => h ?_
    have h1 := shown_toks gt
    rw [e] at h1
    exact lo_inj h1 (shown_toks gu) gt gu

/-! ### formulas put in -/
def putS (f : Str → Option Tr) : Step → List Step
  | .name x => match f x with
    | some u => stepsT u
    | none => [.name x]
  | s => [s]
theorem steps_put (f : Str → Option Tr) : ∀ t : Tr, stepsT (putT f t) = (stepsT t).flatMap (putS f)
  | .num n => rfl
  | .im => rfl
  | .name x => by
    show stepsT ((f x).getD (.name x)) = (match f x with
      | some u => stepsT u
      | none => [Step.name x]) ++ []
    rw [List.append_nil]
    cases f x <;> rfl
  | .root t => by
    show stepsT (putT f t) ++ [Step.root] = (stepsT t ++ [Step.root]).flatMap (putS f)
    rw [List.flatMap_append, steps_put f t]
    rfl
  | .neg t => by
    show stepsT (putT f t) ++ [Step.neg] = (stepsT t ++ [Step.neg]).flatMap (putS f)
    rw [List.flatMap_append, steps_put f t]
    rfl
  | .pow t e => by
    show stepsT (putT f t) ++ [Step.pow e] = (stepsT t ++ [Step.pow e]).flatMap (putS f)
    rw [List.flatMap_append, steps_put f t]
    rfl
  | .bin o l r => by
    show stepsT (putT f l) ++ stepsT (putT f r) ++ [Step.bin o] = (stepsT l ++ stepsT r ++ [Step.bin o]).flatMap (putS f)
    rw [List.flatMap_append, List.flatMap_append, steps_put f l, steps_put f r]
    rfl
theorem good_put {f : Str → Option Tr} (hf : ∀ x u, f x = some u → GoodT u) : ∀ t : Tr, GoodT t → GoodT (putT f t)
  | .num n, g => g
  | .im, g => g
  | .name x, g => by
    show GoodT ((f x).getD (.name x))
    cases e : f x with
    | none => exact g
    | some u => exact hf x u e
  | .root t, g => good_put hf t g
  | .neg t, g => good_put hf t g
  | .pow t e, g => ⟨good_put hf t g.1, g.2⟩
  | .bin o l r, g => ⟨good_put hf l g.1, good_put hf r g.2⟩
theorem deep_put {f : Str → Option Tr} {d : Nat} (hf : ∀ x u, f x = some u → u.deep ≤ d) : ∀ t : Tr, (putT f t).deep ≤ t.deep + d
  | .num n => Nat.zero_le _
  | .im => Nat.zero_le _
  | .name x => by
    show ((f x).getD (.name x)).deep ≤ 0 + d
    cases e : f x with
    | none => exact Nat.zero_le _
    | some u => rw [Nat.zero_add]; exact hf x u e
  | .root t => by
    have := deep_put hf t
    show (putT f t).deep + 1 ≤ t.deep + 1 + d
    omega
  | .neg t => by
    have := deep_put hf t
    show (putT f t).deep + 1 ≤ t.deep + 1 + d
    omega
  | .pow t e => by
    have := deep_put hf t
    show (putT f t).deep + 1 ≤ t.deep + 1 + d
    omega
  | .bin o l r => by
    have := deep_put hf l
    have := deep_put hf r
    show max (putT f l).deep (putT f r).deep + 1 ≤ max l.deep r.deep + 1 + d
    omega
theorem putT_none : ∀ t : Tr, putT (fun _ => none) t = t
  | .num n => rfl
  | .im => rfl
  | .name x => rfl
  | .root t => congrArg Tr.root (putT_none t)
  | .neg t => congrArg Tr.neg (putT_none t)
  | .pow t e => by show Tr.pow _ _ = _; rw [putT_none t]
  | .bin o l r => by show Tr.bin _ _ _ = _; rw [putT_none l, putT_none r]
/-! ### rows shown -/
def GoodS : Step → Prop
  | .num n => 0 ≤ n ∧ n < 10 ^ 40
  | .name x => nameB x = true
  | .pow e => 0 ≤ e ∧ e < 1000
  | _ => True
theorem good_steps : ∀ t : Tr, GoodT t → ∀ s ∈ stepsT t, GoodS s
  | .num n, g, s, h => by rw [List.mem_singleton.mp h]; exact g
  | .name n, g, s, h => by rw [List.mem_singleton.mp h]; exact g
  | .im, g, s, h => by rw [List.mem_singleton.mp h]; exact trivial
  | .root t, g, s, h => by
    rcases List.mem_append.mp h with h | h
    · exact good_steps t g s h
    · rw [List.mem_singleton.mp h]; exact trivial
  | .neg t, g, s, h => by
    rcases List.mem_append.mp h with h | h
    · exact good_steps t g s h
    · rw [List.mem_singleton.mp h]; exact trivial
  | .pow t e, g, s, h => by
    rcases List.mem_append.mp h with h | h
    · exact good_steps t g.1 s h
    · rw [List.mem_singleton.mp h]; exact g.2
  | .bin o l r, g, s, h => by
    rcases List.mem_append.mp h with h | h
    · rcases List.mem_append.mp h with h | h
      · exact good_steps l g.1 s h
      · exact good_steps r g.2 s h
    · rw [List.mem_singleton.mp h]; exact trivial
end D2

set_option maxRecDepth 100000
set_option maxHeartbeats 400000
namespace D2
open PySem PySem.Spec PyProof.Rows L2
/-! ### rows shown -/
def rowP : Step → List PyData
  | .num n => [.str "number", .int n]
  | .name x => [.str "name", .str x]
  | .im => [.str "i"]
  | .root => [.str "root"]
  | .neg => [.str "neg"]
  | .pow e => [.str "^", .int e]
  | .bin o => [.str o.tok]
theorem row_pds {s : Step} {xs : List D} (e : encS s = .tup xs) : Pds xs (rowP s) := by
  cases s <;> cases e
  · exact .cons (.str _) (.cons (.int _) .nil)
  · exact .cons (.str _) (.cons (.str _) .nil)
  · exact .cons (.str _) .nil
  · exact .cons (.str _) .nil
  · exact .cons (.str _) .nil
  · exact .cons (.str _) (.cons (.int _) .nil)
  · exact .cons (.str _) .nil
structure ShOk (ps : List PyData) (d b : Nat) : Prop where
  sh : PyData.showableAll ps = true
  nd : PyData.hasDictAll ps = false
  dp : PyData.depthAll ps ≤ d
  lv : PyData.leavesShortAll 40 ps = true
  bk : PyData.bulkAll ps ≤ b
theorem ShOk.nil {d b : Nat} : ShOk [] d b := ⟨rfl, rfl, Nat.zero_le _, rfl, Nat.zero_le _⟩
theorem ShOk.str {x : Str} {ps : List PyData} {d b : Nat} (hx : (x.cps.toList.all fun c => decide (c < 16 ^ 8)) = true) (h : ShOk ps d b) : ShOk (.str x :: ps) d (x.length + 1 + b) where
  sh := by show (true && PyData.showableAll ps) = true; rw [h.sh]; rfl
  nd := by show (false || PyData.hasDictAll ps) = false; rw [h.nd]; rfl
  dp := by show max 0 (PyData.depthAll ps) ≤ d; have := h.dp; omega
  lv := by show ((x.cps.toList.all fun c => decide (c < 16 ^ 8)) && PyData.leavesShortAll 40 ps) = true; rw [hx, h.lv]; rfl
  bk := by show x.cps.size + 1 + PyData.bulkAll ps ≤ x.length + 1 + b; have := h.bk; have e : x.length = x.cps.size := rfl; omega
theorem ShOk.int {n : Int} {ps : List PyData} {d b : Nat} (h0 : 0 ≤ n) (h1 : n < 10 ^ 40) (h : ShOk ps d b) : ShOk (.int n :: ps) d (1 + b) where
  sh := by show (decide (n.natAbs.log2 < 1920) && PyData.showableAll ps) = true; rw [decide_eq_true (log40 h0 h1), h.sh]; rfl
  nd := by show (false || PyData.hasDictAll ps) = false; rw [h.nd]; rfl
  dp := by show max 0 (PyData.depthAll ps) ≤ d; have := h.dp; omega
  lv := by
    have := num_len40 h0 h1
    show (decide ((PyData.shown (.int n)).length ≤ 40) && PyData.leavesShortAll 40 ps) = true
    rw [PyData.shown_int, decide_eq_true (by exact this), h.lv]
    rfl
  bk := by show 0 + 1 + PyData.bulkAll ps ≤ 1 + b; have := h.bk; omega
theorem ShOk.mono {ps : List PyData} {d b b' : Nat} (h : ShOk ps d b) (e : b ≤ b') : ShOk ps d b' := ⟨h.sh, h.nd, h.dp, h.lv, Nat.le_trans h.bk e⟩
theorem name_short {x : Str} (h : nameB x = true) : (x.cps.toList.all fun c => decide (c < 16 ^ 8)) = true := by
  unfold nameB at h
  simp only [Bool.and_eq_true] at h
  have h1 := h.2
  rw [List.all_eq_true] at h1 ⊢
  intro c hc
  have h2 := h1 c hc
  have h3 : ∀ c ∈ sgnsS.cps.toList, decide (c < 16 ^ 8) = true := by decide +kernel
  exact h3 c (of_decide_eq_true h2)
theorem row_sh {s : Step} (g : GoodS s) : ShOk (rowP s) 0 15 := by
  cases s with
  | num n => exact ((ShOk.nil (d := 0) (b := 0)).int g.1 g.2 |>.str (x := "number") (by decide +kernel)).mono (by decide)
  | name x => exact ((ShOk.nil (d := 0) (b := 0)).str (name_short g) |>.str (x := "name") (by decide +kernel)).mono (by have := name_len g; show 4 + 1 + (x.length + 1 + 0) ≤ 15; omega)
  | pow e => exact ((ShOk.nil (d := 0) (b := 0)).int g.1 (by have := g.2; omega) |>.str (x := "^") (by decide +kernel)).mono (by decide)
  | bin o => exact ((ShOk.nil (d := 0) (b := 0)).str (x := o.tok) (by cases o <;> decide +kernel)).mono (by cases o <;> decide)
  | im => exact ((ShOk.nil (d := 0) (b := 0)).str (x := "i") (by decide +kernel)).mono (by decide)
  | root => exact ((ShOk.nil (d := 0) (b := 0)).str (x := "root") (by decide +kernel)).mono (by decide)
  | neg => exact ((ShOk.nil (d := 0) (b := 0)).str (x := "neg") (by decide +kernel)).mono (by decide)
/-- rows as tuples or lists -/
def RowOf' (s : Step) (d : D) : Prop := ∃ xs, encS s = .tup xs ∧ (d = .tup xs ∨ d = .lst xs)
theorem shown_row {s : Step} {d : D} (g : GoodS s) (h : RowOf' s d) {ds : List D} {ps : List PyData} {b : Nat} (q : Pds ds ps) (k : ShOk ps 1 b) : ∃ p, Pd d p ∧ Pds (d :: ds) (p :: ps) ∧ ShOk (p :: ps) 1 (16 + b) := by
  obtain ⟨xs, e, hd⟩ := h
  have r := row_pds e
  have o := row_sh g
  rcases hd with rfl | rfl
  · refine ⟨_, .tup r, .cons (.tup r) q, ?_⟩
    exact ⟨by show (PyData.showableAll (rowP s) && _) = true; rw [o.sh, k.sh]; rfl, by show (PyData.hasDictAll (rowP s) || _) = false; rw [o.nd, k.nd]; rfl, by show max (PyData.depthAll (rowP s) + 1) _ ≤ 1; have := o.dp; have := k.dp; omega,
      by show (PyData.leavesShortAll 40 (rowP s) && _) = true; rw [o.lv, k.lv]; rfl, by show PyData.bulkAll (rowP s) + 1 + _ ≤ _; have := o.bk; have := k.bk; omega⟩
  · refine ⟨_, .lst r, .cons (.lst r) q, ?_⟩
    exact ⟨by show (PyData.showableAll (rowP s) && _) = true; rw [o.sh, k.sh]; rfl, by show (PyData.hasDictAll (rowP s) || _) = false; rw [o.nd, k.nd]; rfl, by show max (PyData.depthAll (rowP s) + 1) _ ≤ 1; have := o.dp; have := k.dp; omega,
      by show (PyData.leavesShortAll 40 (rowP s) && _) = true; rw [o.lv, k.lv]; rfl, by show PyData.bulkAll (rowP s) + 1 + _ ≤ _; have := o.bk; have := k.bk; omega⟩
theorem sh_list {ps : List PyData} {b : Nat} (k : ShOk ps 1 b) (hb : b ≤ 200000) : PyData.showable (.list ps) = true ∧ PyData.hasDict (.list ps) = false ∧ PyData.depth (.list ps) ≤ 60 ∧ (PyData.shown (.list ps)).length ≤ sizeLine := by
  refine ⟨k.sh, k.nd, by show PyData.depthAll ps + 1 ≤ 60; have := k.dp; omega, ?_⟩
  have h := PyData.shown_le_bulk 40 (by decide) (.list ps) k.lv
  have e : PyData.bulk (.list ps) = PyData.bulkAll ps := rfl
  rw [e] at h
  have := k.bk
  unfold sizeLine
  omega

/-! ### the law's def -/
def S_law3 : SpD := fun ds _ q => ∃ cs : List Int, ds = [.scr (cs.map .int)] ∧ ∀ M', q (.bl true) M'
section
variable {P : Program} {w : World} {K : W.Frag} {mg : Str → Option Value} {a qual : Str} {N : List Str} {st : Stmt} {f : Addr} {fd : FuncData}
theorem runsT {S : SpD} (F : Fun K a qual st f fd) (hb : Binds K fd ["script"] []) (sc : FnScope N ["script"] (defScope st)) (len : ∀ ds M q, S ds M q → ds.length = 1)
    (hw : ∀ (base : Heap) (cdv : Value) (s : Shared) (H : Hp), ∃ t ww, PDB (cxOf CX0 P w K mg base N qual (defScope st) f cdv callerA [] s H no3).nox (defBody st) t ww ∧ ∀ ds M q, S ds M q → ww (ds.map some ++ List.replicate (N.length - 1) none) M { nx := fun _ _ => False, rt := fun d M' => Rt q d M' }) : Runs P w K mg CX0 f (spT K S) := by
  obtain ⟨oc, od, kV, doc, pm, an, cdv, ct, osl, eD, lk, hcd⟩ := F.ex
  rw [eD] at lk hb
  intro base s H a' e0 hs
  have kin : K.In s.heap := e0.mod.kin.keeps fun b o q => (e0.bs b o q).1
  have nl : s.heap.NoLimit := e0.mod.nolimit.keeps fun b o q => (e0.bs b o q).1
  have own : ∀ y ∈ [(("script" : Str), Value.ref a')], (defScope st).names.lookup y.1 = some .local ∨ ((defScope st).names.lookup y.1 = some .cell ∧ ((cellsFrom (s.heap.objs.size + 1) (defScope st).names []).lookup y.1).isSome = true) := fun y hy => by
    rw [List.mem_singleton.mp hy]
    rcases sc.par "script" (List.mem_singleton.mpr rfl) with q | q
    · exact .inl q
    · exact .inr ⟨q, W.cellsFrom_some _ _ _ (.inl q)⟩
  have dep : (callerA).depth < recursionLimit := by decide +kernel
  have hbt : BindsTo s (W.fnOf a qual (defArgs st) (defBody st) (defScope st) .none kV doc pm an cdv ct) ⟨[.ref a'], []⟩ [(("script" : Str), Value.ref a')] := hb s [.ref a'] kin rfl
  refine codeAny_call_function dep (kin f _ lk) rfl sc.co sc.gen rfl (W.codeRec_of kin hcd) (hbt _ _ _ _ ?_)
  refine wpAny_newFunctionEnv_cells sc.kind own fun env he s1 hx => ?_
  cases he
  refine ⟨nl.keeps hx.toInCall.keep, codeAny_func ?_⟩
  obtain ⟨t, ww, pb, hw⟩ := hw base cdv s H
  have I : Inv (cxOf CX0 P w K mg base N qual (defScope st) f cdv callerA [] s H no3) [] (start N [.ref a']) H s1 := inv_start sc rfl e0 rfl (.cons rfl .nil) hx
  obtain ⟨F', M, ds, q, s', ix, hp, k⟩ := hs
  have hl : ds.length = 1 := len ds M q hp
  have run : t { nx := fun _ _ => False, rt := yes } (start N [.ref a']) H := by
    have e : start N [V.ref a'] = [V.ref a'].map some ++ List.replicate (N.length - 1) none := rfl
    rw [e]
    refine pb.sd _ _ _ (hw ds M q hp) F' _ H _ s' (Loc.start _ ix) ⟨fun _ _ _ _ _ _ _ _ q => q.elim, fun F2 v H' d M' e s' i q => ?_, fun _ _ _ _ _ _ _ _ q => q.elim, fun _ _ _ _ _ _ _ _ q => q.elim⟩
    obtain ⟨M'', le, q⟩ := q.ex
    exact k F2 v H' d M'' e (s'.less le) i q
  refine wpAny_mono (pb.ps.nox.run [] s1 _ H _ I run) (fun fl s' z => ?_) fun e s' z => z
  cases fl with
  | ret u =>
    obtain ⟨v, _, H', J, rv, q⟩ := z
    exact ⟨v, H', J.os, J.bare, J.base, J.hok, rv, q⟩
  | next => obtain ⟨_, _, _, q⟩ := z; exact q.elim
  | brk => obtain ⟨_, _, _, q⟩ := z; exact False.elim q
  | cont => obtain ⟨_, _, _, q⟩ := z; exact False.elim q
end
theorem isAll_ints3 {K : W.Frag} {F : Hp} : ∀ ns : List Int, IsAll K F (ns.map V.int) (ns.map D.int)
  | [] => .nil
  | n :: ns => .cons (.int n) (isAll_ints3 ns)
/-- the goal that k_head leaves -/
theorem walk3 {l : W.OpenLaw} {n : Nat} {q : Program} {loose : List Str} {XP : (Str → Option Value) → Heap → Prop} {YP : World → Heap → Prop} {d : DefRec} {K : Params → W.Frag} (hn : l.most = some n) (hn2 : n ≤ sizeLine) (hdf : d.params.defaults = []) (hY : ∀ (w : World) (h : Heap), YP w h → (K w.params).In h)
    (F : ∀ (w : World) (mg : Str → Option Value) (fa : Addr) (h : Heap), (K w.params).In h → h.Ns mainGlobals mg → mg d.name = some (.ref fa) → Runs l.prog w (K w.params) mg CX0 fa (spT (K w.params) S_law3)) :
    W.WalkO q loose XP YP l.row.toRowW d [] (fun f vs => PySem.call f vs) := by
  refine Att.attach_call hn hdf fun w s₀ s₁ mg mb fa o pm cd doc a vs ns G Y ho hd hcd hmg hobj hints hlen hg => ?_
  have KX := hY w _ Y
  refine law_ends KX G.T.g G.T.b G.T.builtins G.T.nolimit hg hobj hints (Nat.le_trans hlen hn2) (F w mg fa _ KX G.T.g hmg) (fun H hO hS => ?_) fun H e s' z => z.elim
  refine ⟨H, fun _ => none, [.scr (ns.map .int)], fun d _ => d = .bl true, ⟨Same.refl H, fun a m z => nomatch z⟩, .cons (.scr hS (isAll_ints3 ns)) .nil, ⟨ns, rfl, fun _ => rfl⟩, fun F' v H' d M' _ _ is hp => ?_⟩
  have e : d = .bl true := hp
  subst e
  cases is
  rfl
end D2

set_option maxRecDepth 100000
set_option maxHeartbeats 400000
namespace D2
open PySem PySem.Spec PyProof.Rows L2
/-! ### facts of the text, from what stands in the heap -/
/-- how the arguments of a def bind -/
def BindH (x qual : Str) (st : Stmt) (ps : List Str) : Prop := ∀ (kV doc pm : Value) (an : Option Addr) (cdv ct : Value) (us : List Value), us.length = ps.length →
  bindArgs (W.fnOf x qual (defArgs st) (defBody st) (defScope st) .none kV doc pm an cdv ct) ⟨us, []⟩ = pure (ps.zip us)
/-- one default -/
def BindD (x : Str) (st : Stmt) (n : Nat) (ps : List Str) : Prop := ∀ (T : Addr) (kV doc pm : Value) (an : Option Addr) (cdv ct : Value) (us its : List Value), us.length = n → its.length = 1 →
  ∃ k, bindArgs (W.fnOf x x (defArgs st) (defBody st) (defScope st) (.ref T) kV doc pm an cdv ct) ⟨us, []⟩ = seqItems? (.ref T) >>= k ∧ k (some its.toArray) = pure (ps.zip (us ++ its.drop 0))
def KwH (x qual : Str) (st : Stmt) (a : Str) : Prop := ∀ (kV doc pm : Value) (an : Option Addr) (cdv ct : Value), KwOne (W.fnOf x qual (defArgs st) (defBody st) (defScope st) .none kV doc pm an cdv ct) a
def KwS (x qual : Str) (st : Stmt) (a : Str) : Prop := ∀ (kV doc pm : Value) (an : Option Addr) (cdv ct : Value) (s : Shared) (u : Value), BindsTo s (W.fnOf x qual (defArgs st) (defBody st) (defScope st) .none kV doc pm an cdv ct) ⟨[], [(a, u)]⟩ [(a, u)]
structure Own (K : W.Frag) (mg : Str → Option Value) (n : Str) (C : Addr) : Prop where
  m : mg n = some (.ref C)
  d : ClD K C
section
variable {P : Program} {w : World} {K : W.Frag} {mg : Str → Option Value} {h : Heap} {C f p : Addr} {n x m qual a : Str} {st : Stmt} {ps : List Str} {oc : Value} {od an : Option Addr} {osl : Array (Option Value)} {kV doc pm cdv ct : Value} {rest : List Value}
theorem own_mk (X : K.In h) (G : h.Ns mainGlobals mg) (hn : W.specialIn K (.builtin "object.__class__") "__get__" = some (some (.builtin "getset_descriptor.__get__"))) (htk : W.takesIn K (.builtin "object.__class__") = some true)
    (aC : W.nsIn K mainGlobals n = some (some (.ref C))) (pg : W.plainGet K C Str.empty = true) (hd : W.hasDictIn K C = true) (po : W.plainOver K C = true) (sa : W.findIn K (.ref C) "__setattr__" = some (some (.builtin "object.__setattr__")))
    (ha : W.findIn K (.ref C) "__class__" = some (some (.builtin "object.__class__"))) (hm : W.mroIn K C (.type "object") = some true) : Own K mg n C :=
  ⟨W.mg_of X G aC, ⟨⟨pg, hd, po, sa⟩, ⟨fun H a dx fs e => .base (.ins e ⟨pg, hd, po, sa⟩ ha hn htk hm)⟩⟩⟩
theorem fa_mk (X : K.In h) (G : h.Ns mainGlobals mg) (hb : BindH x x st ps) (a : W.nsIn K mainGlobals x = some (some (.ref f))) (l : K.lookup f = some ⟨oc, od, .func (W.fnOf x x (defArgs st) (defBody st) (defScope st) .none kV doc pm an cdv ct), osl⟩)
    (c : W.codeIn K cdv x = true) (k : W.keepIn K (.ref f) = true) : FunAt K mg x ps st := ⟨⟨f, _, fun_mk l c k, W.mg_of X G a, (fun_mk l c k).binds hb⟩⟩
theorem fd_mk {n1 kT : Nat} {T : Addr} {tc : Value} {td : Option Addr} {tsl : Array (Option Value)} {b : Bool} (X : K.In h) (G : h.Ns mainGlobals mg) (hn : n1 + 1 = ps.length) (hb : BindD x st n1 ps) (a : W.nsIn K mainGlobals x = some (some (.ref f)))
    (l : K.lookup f = some ⟨oc, od, .func (W.fnOf x x (defArgs st) (defBody st) (defScope st) (.ref T) kV doc pm an cdv ct), osl⟩) (lT : K.lookup T = some ⟨tc, td, .seq #[.bool b] kT, tsl⟩) (c : W.codeIn K cdv x = true) (k : W.keepIn K (.ref f) = true) : FunAtD K mg x ps st [.bl b] := by
  have F : FunD K x x (defArgs st) (defBody st) (defScope st) [.bl b] [] f (W.fnOf x x (defArgs st) (defBody st) (defScope st) (.ref T) kV doc pm an cdv ct) :=
    ⟨⟨oc, od, .ref T, kV, doc, pm, an, cdv, ct, osl, rfl, l, c, .inr ⟨by simp, T, _, [.bool b], kT, rfl, lT, rfl, .cons rfl .nil⟩, .inl rfl⟩, k⟩
  obtain ⟨ds, h1, h2⟩ := F.binds1 n1 0 (by simp) (by simpa using hn) fun T kV doc pm an cdv ct us its h1 h2 => hb T kV doc pm an cdv ct us its h1 (by simpa using h2)
  exact ⟨⟨f, _, ds, F, W.mg_of X G a, h2, h1⟩⟩
theorem me_mk (o : Own K mg n C) (hb : BindH m qual st ps) (a : W.findIn K (.ref C) m = some (some (.ref f))) (l : K.lookup f = some ⟨oc, od, .func (W.fnOf m qual (defArgs st) (defBody st) (defScope st) .none kV doc pm an cdv ct), osl⟩)
    (c : W.codeIn K cdv qual = true) (k : W.keepIn K (.ref f) = true) (i : W.isFn K (.ref f) = true) : MtFn K C m qual ps st := ⟨⟨f, _, fun_mk l c k, o.d.cl, ⟨a, i, k⟩, (fun_mk l c k).binds hb⟩⟩
theorem mek_mk (o : Own K mg n C) (hk : KwH m qual st x) (a : W.findIn K (.ref C) m = some (some (.ref f))) (l : K.lookup f = some ⟨oc, od, .func (W.fnOf m qual (defArgs st) (defBody st) (defScope st) .none kV doc pm an cdv ct), osl⟩)
    (c : W.codeIn K cdv qual = true) (k : W.keepIn K (.ref f) = true) (i : W.isFn K (.ref f) = true) : MtFnK K C m qual x st := ⟨⟨f, _, fun_mk l c k, o.d.cl, ⟨a, i, k⟩, hk _ _ _ _ _ _⟩⟩
theorem mi_mk (o : Own K mg n C) (hb : BindH "__init__" qual st ps) (mk : W.makesIn K C = true) (a : W.findIn K (.ref C) "__init__" = some (some (.ref f))) (l : K.lookup f = some ⟨oc, od, .func (W.fnOf "__init__" qual (defArgs st) (defBody st) (defScope st) .none kV doc pm an cdv ct), osl⟩)
    (c : W.codeIn K cdv qual = true) (k : W.keepIn K (.ref f) = true) (i : W.isFn K (.ref f) = true) (kc : W.keepIn K (.ref C) = true) : MkFn K mg n C qual ps st := ⟨⟨f, _, fun_mk l c k, ⟨mk, a, i, kc⟩, o.m, (fun_mk l c k).binds hb⟩⟩
theorem mik_mk (o : Own K mg n C) (hk : KwH "__init__" qual st x) (mk : W.makesIn K C = true) (a : W.findIn K (.ref C) "__init__" = some (some (.ref f))) (l : K.lookup f = some ⟨oc, od, .func (W.fnOf "__init__" qual (defArgs st) (defBody st) (defScope st) .none kV doc pm an cdv ct), osl⟩)
    (c : W.codeIn K cdv qual = true) (k : W.keepIn K (.ref f) = true) (i : W.isFn K (.ref f) = true) (kc : W.keepIn K (.ref C) = true) : MkFnK K mg n C qual x st := ⟨⟨f, _, fun_mk l c k, ⟨mk, a, i, kc⟩, o.m, hk _ _ _ _ _ _⟩⟩
theorem pr_mk (o : Own K mg n C) (hb : BindH m qual st ps) (a : W.findIn K (.ref C) m = some (some (.ref p))) (g : W.specialIn K (.ref p) "__get__" = some (some (.builtin "property.__get__"))) (t : W.takesIn K (.ref p) = some true) (r : W.recIn K p "property" = some (.ref f :: rest))
    (l : K.lookup f = some ⟨oc, od, .func (W.fnOf m qual (defArgs st) (defBody st) (defScope st) .none kV doc pm an cdv ct), osl⟩) (c : W.codeIn K cdv qual = true) (k : W.keepIn K (.ref f) = true) : PrFn K C m qual ps st :=
  ⟨⟨p, f, _, fun_mk l c k, o.d.cl, ⟨a, g, t, rest, r⟩, (fun_mk l c k).binds hb⟩⟩
theorem sm_mk {mc : Value} (_ : Own K mg n C) (hb : BindH m qual st [x]) (hk : KwS m qual st x) (ga : W.specialIn K (.ref C) "__getattribute__" = some (some (.builtin "type.__getattribute__"))) (ty : W.typeIn K (.ref C) = some mc) (rd : W.readsIn K C mc = true)
    (fc : W.findCls K (.ref C) mc m = some (.get (.builtin "staticmethod.__get__") (.ref p) .none (.ref C))) (r : W.recIn K p "staticmethod" = some (.ref f :: rest))
    (l : K.lookup f = some ⟨oc, od, .func (W.fnOf m qual (defArgs st) (defBody st) (defScope st) .none kV doc pm an cdv ct), osl⟩) (c : W.codeIn K cdv qual = true) (k : W.keepIn K (.ref f) = true) : SmFn2 K C m qual x st :=
  ⟨⟨f, _, fun_mk l c k, ⟨ga, ⟨mc, p, rest, ty, rd, fc, r⟩, rfl, k⟩, (fun_mk l c k).binds hb, hk _ _ _ _ _ _⟩⟩
theorem done_mk {fa : Addr} {CX : CXT} {sp : L2.Sp} (hR : ∃ f, mg "law" = some (.ref f) ∧ Runs P w K mg CX f sp) (hm : mg "law" = some (.ref fa)) : Runs P w K mg CX fa sp := by
  obtain ⟨f, h1, h2⟩ := hR
  rw [h1] at hm
  cases hm
  exact h2
theorem strs_is {aW : Addr} {dd : Option Addr} {its : Array Value} {k : Nat} {sl : Array (Option Value)} (ws : List Str) (l : K.lookup aW = some ⟨.type "tuple", dd, .seq its k, sl⟩) (hz : its.size ≤ sizeLine) (hv : Vals (ws.map .str) its.toList) : ∀ F, Is K F (.ref aW) (.tup (ws.map .str)) := fun F => by
  refine .tup (.inr ⟨_, its, k, l, rfl, rfl, hz, hv⟩) ?_
  generalize ws = ws
  induction ws with
  | nil => exact .nil
  | cons x ws ih => exact .cons (.str x) ih
end
/-- the ranks -/
theorem ranks_mk {K : W.Frag} {w : World} {d : Addr} {n : Nat} {h1 h2 h3 h4 h5 : Int} {t1 t2 t3 t4 t5 u1 u2 u3 u4 u5 : Tok}
    (l : K.lookup d = some ⟨.type "dict", none, .dict #[⟨h1, .str ")" t1, .int 0 u1⟩, ⟨h2, .str "+" t2, .int 1 u2⟩, ⟨h3, .str "-" t3, .int 1 u3⟩, ⟨h4, .str "*" t4, .int 2 u4⟩, ⟨h5, .str "/" t5, .int 2 u5⟩] n, #[]⟩)
    (e1 : h1 = PyData.keyHash w.params ")") (e2 : h2 = PyData.keyHash w.params "+") (e3 : h3 = PyData.keyHash w.params "-") (e4 : h4 = PyData.keyHash w.params "*") (e5 : h5 = PyData.keyHash w.params "/") (low : (d == sysModules) = false) : KMap K w d rankD := by
  refine ⟨_, n, ⟨l, ⟨⟨_, _, rfl, e1⟩, ⟨_, _, rfl, e2⟩, ⟨_, _, rfl, e3⟩, ⟨_, _, rfl, e4⟩, ⟨_, _, rfl, e5⟩, trivial⟩, low⟩, fun z => ?_⟩
  have key : ∀ r : Option Value, (match ([⟨h1, .str ")" t1, .int 0 u1⟩, ⟨h2, .str "+" t2, .int 1 u2⟩, ⟨h3, .str "-" t3, .int 1 u3⟩, ⟨h4, .str "*" t4, .int 2 u4⟩, ⟨h5, .str "/" t5, .int 2 u5⟩] : List DictEntry).find? (fun e => e.key.isStr z) with
      | some e => some (some e.val)
      | none => if ([⟨h1, .str ")" t1, .int 0 u1⟩, ⟨h2, .str "+" t2, .int 1 u2⟩, ⟨h3, .str "-" t3, .int 1 u3⟩, ⟨h4, .str "*" t4, .int 2 u4⟩, ⟨h5, .str "/" t5, .int 2 u5⟩] : List DictEntry).any (·.refKey) then none else some none) = some r → W.nsIn K d z = some r := fun r e => by
    unfold W.nsIn
    rw [l]
    exact e
  have st : ∀ (x : Str) (t : Tok), Value.isStr (.str x t) z = (x == z) := fun _ _ => rfl
  by_cases a1 : z = ")"
  · subst a1
    exact ⟨some (.int 0 u1), key _ rfl, fun h => (nomatch h), fun dv h => (by cases h; exact ⟨.int 0 u1, .int 0, rfl, ⟨u1, rfl⟩, fun _ => .int 0⟩)⟩
  by_cases a2 : z = "+"
  · subst a2
    exact ⟨some (.int 1 u2), key _ rfl, fun h => (nomatch h), fun dv h => (by cases h; exact ⟨.int 1 u2, .int 1, rfl, ⟨u2, rfl⟩, fun _ => .int 1⟩)⟩
  by_cases a3 : z = "-"
  · subst a3
    exact ⟨some (.int 1 u3), key _ rfl, fun h => (nomatch h), fun dv h => (by cases h; exact ⟨.int 1 u3, .int 1, rfl, ⟨u3, rfl⟩, fun _ => .int 1⟩)⟩
  by_cases a4 : z = "*"
  · subst a4
    exact ⟨some (.int 2 u4), key _ rfl, fun h => (nomatch h), fun dv h => (by cases h; exact ⟨.int 2 u4, .int 2, rfl, ⟨u4, rfl⟩, fun _ => .int 2⟩)⟩
  by_cases a5 : z = "/"
  · subst a5
    exact ⟨some (.int 2 u5), key _ rfl, fun h => (nomatch h), fun dv h => (by cases h; exact ⟨.int 2 u5, .int 2, rfl, ⟨u5, rfl⟩, fun _ => .int 2⟩)⟩
  have b : ∀ {x : Str}, z ≠ x → (x == z) = false := fun h => by simpa using fun e => h e.symm
  refine ⟨none, key _ ?_, fun _ => rfl, fun dv h => ?_⟩
  · simp only [List.find?_cons, st, b a1, b a2, b a3, b a4, b a5, List.find?_nil]
    rfl
  · unfold rankD at h
    rw [if_neg a1, if_neg (fun z => z.elim a2 a3), if_neg (fun z => z.elim a4 a5)] at h
    cases h
end D2

set_option maxRecDepth 100000
set_option maxHeartbeats 2000000
namespace D2
open PySem PySem.Spec PyProof.Rows L2
def top (i : Nat) : Stmt := PySem.Challenge.pw_fewestroots_k02_formulas_there_and_back.main.body.getD i (.Pass ⟨0, 0, 0, 0⟩)
def clsB : Stmt → List Stmt
  | .ClassDef (body := b) .. => b
  | _ => []
def mtop (i j : Nat) : Stmt := (clsB (top i)).getD j (.Pass ⟨0, 0, 0, 0⟩)
def c_WORDS : List D := [.str "root", .str "if", .str "then", .str "else", .str "i", .str "t", .str "sheet", .str "input", .str "let", .str "given", .str "answer", .str "answers", .str "broken", .str "program", .str "number", .str "round", .str "out", .str "scaffold", .str "inputs", .str "pillar", .str "done", .str "at", .str "as", .str "of", .str "real", .str "complex", .str "dear", .str "free"]
def c_LETTERS : Str := "abcdefghijklmnopqrstuvwxyz"
def c_SIGNS : Str := "abcdefghijklmnopqrstuvwxyz0123456789"
def c_DIGITS : Str := "0123456789"
def c_RUN : Str := "abcdefghijklmnopqrstuvwxyzABCDEFGHIJKLMNOPQRSTUVWXYZ0123456789"
structure Ad where
  Steps : Addr
  Formula : Addr
  WORDS : Addr
  RANKS : Addr
  t_LETTERS : Tok
  t_SIGNS : Tok
  t_DIGITS : Tok
  t_RUN : Tok
  t_BEGIN : Tok
  t_OPERAND : Tok
  t_BRACKET : Tok
  t_EXPONENT : Tok
  t_ATOM : Tok
  t_POWER : Tok
  t_BAD : Tok
structure Txt (K : W.Frag) (mg : Str → Option Value) (A : Ad) : Prop where
  F_is_name : FunAt K mg "is_name" ["value"] (top 7)
  F_tokens : FunAt K mg "tokens" ["text"] (top 19)
  F_is_digits : FunAt K mg "is_digits" ["token"] (top 20)
  F_next_state : FunAt K mg "next_state" ["state", "depth", "token", "with_t"] (top 21)
  F_bad_place : FunAt K mg "bad_place" ["found", "size", "with_t"] (top 22)
  F_operand_step : FunAt K mg "operand_step" ["token", "before"] (top 23)
  F_postfix : FunAt K mg "postfix" ["found"] (top 24)
  F_around : FunAt K mg "around" ["text", "level", "least"] (top 25)
  F_written : FunAt K mg "written" ["steps"] (top 26)
  F_read_steps : FunAtD K mg "read_steps" ["text", "with_t"] (top 28) [.bl false]
  F_l_jar : FunAt K mg "_law_jar" ["script"] (top 34)
  F_l_draw : FunAt K mg "_law_draw" ["jar", "many"] (top 35)
  F_l_pick : FunAt K mg "_law_pick" ["jar", "menu"] (top 36)
  F_l_like : FunAt K mg "_law_like" ["got", "due"] (top 37)
  F_l_words : FunAt K mg "_law_words" [] (top 38)
  F_l_syms : FunAt K mg "_law_syms" ["jar", "many", "kept"] (top 39)
  F_l_stranger : FunAt K mg "_law_stranger" ["kept"] (top 40)
  F_l_tokens : FunAt K mg "_law_tokens" ["said"] (top 41)
  F_l_grown : FunAt K mg "_law_grown" ["said"] (top 42)
  F_l_read_sum : FunAt K mg "_law_read_sum" ["toks", "spot"] (top 43)
  F_l_read_product : FunAt K mg "_law_read_product" ["toks", "spot"] (top 44)
  F_l_read_power : FunAt K mg "_law_read_power" ["toks", "spot"] (top 45)
  F_l_shown : FunAt K mg "_law_shown" ["tree", "least"] (top 46)
  F_l_loose : FunAt K mg "_law_loose" ["jar", "tree", "least"] (top 47)
  F_l_spaced : FunAt K mg "_law_spaced" ["jar", "toks"] (top 48)
  F_l_tree : FunAt K mg "_law_tree" ["jar", "syms", "deep", "menu"] (top 49)
  F_l_names_of : FunAt K mg "_law_names_of" ["tree"] (top 50)
  F_l_many : FunAt K mg "_law_many" ["tree", "sort"] (top 51)
  F_l_put : FunAt K mg "_law_put" ["tree", "news"] (top 52)
  F_l_steps : FunAt K mg "_law_steps" ["tree"] (top 53)
  F_l_is_formula : FunAt K mg "_law_is_formula" ["got", "tree"] (top 54)
  F_l_twin : FunAt K mg "_law_twin" ["jar", "tree"] (top 55)
  F_l_puts : FunAt K mg "_law_puts" ["jar", "formula", "tree", "syms"] (top 56)
  F_law : FunAt K mg "law" ["script"] (top 57)
  F_Steps___init__ : MkFn K mg "Steps" A.Steps "Steps.__init__" ["self", "rows"] (mtop 30 0)
  m_Steps : mg "Steps" = some (.ref A.Steps)
  d_Steps : ClD K A.Steps
  F_Formula___init__ : MkFn K mg "Formula" A.Formula "Formula.__init__" ["self", "text"] (mtop 32 0)
  F_Formula_of : SmFn2 K A.Formula "of" "Formula.of" "steps" (mtop 32 1)
  F_Formula_names : MtFn K A.Formula "names" "Formula.names" ["self"] (mtop 32 2)
  F_Formula_roots : PrFn K A.Formula "roots" "Formula.roots" ["self"] (mtop 32 3)
  F_Formula_has_i : PrFn K A.Formula "has_i" "Formula.has_i" ["self"] (mtop 32 4)
  F_Formula_put : MtFn K A.Formula "put" "Formula.put" ["self", "formulas"] (mtop 32 5)
  F_Formula_steps : MtFn K A.Formula "steps" "Formula.steps" ["self"] (mtop 32 6)
  F_Formula_text : MtFn K A.Formula "text" "Formula.text" ["self"] (mtop 32 7)
  F_Formula___str__ : MtFn K A.Formula "__str__" "Formula.__str__" ["self"] (mtop 32 8)
  F_Formula___repr__ : MtFn K A.Formula "__repr__" "Formula.__repr__" ["self"] (mtop 32 9)
  F_Formula___eq__ : MtFn K A.Formula "__eq__" "Formula.__eq__" ["self", "other"] (mtop 32 10)
  m_Formula : mg "Formula" = some (.ref A.Formula)
  d_Formula : ClD K A.Formula
  K_Formula___init__ : MkFnK K mg "Formula" A.Formula "Formula.__init__" "text" (mtop 32 0)
  K_Formula_put : MtFnK K A.Formula "put" "Formula.put" "formulas" (mtop 32 5)
  na_steps : NoAttr K A.Formula "_steps"
  na_text : NoAttr K A.Formula "_text"
  na_rows : NoAttr K A.Steps "rows"
  ki_FF : W.kitOne K (.ref A.Formula) (.ref A.Formula) = some true
  ki_SS : W.kitOne K (.ref A.Steps) (.ref A.Steps) = some true
  ki_sS : W.kitOne K (.type "str") (.ref A.Steps) = some false
  ki_sF : W.kitOne K (.type "str") (.ref A.Formula) = some false
  nf_F : W.notFirst K A.Formula (.ref A.Formula) = true
  nf_s : W.notFirst K A.Formula (.type "str") = true
  n_all : mg "all" = none
  n_any : mg "any" = none
  n_bool : mg "bool" = none
  n_enumerate : mg "enumerate" = none
  n_int : mg "int" = none
  n_isinstance : mg "isinstance" = none
  n_len : mg "len" = none
  n_list : mg "list" = none
  n_max : mg "max" = none
  n_property : mg "property" = none
  n_range : mg "range" = none
  n_repr : mg "repr" = none
  n_staticmethod : mg "staticmethod" = none
  n_str : mg "str" = none
  n_sum : mg "sum" = none
  n_tuple : mg "tuple" = none
  m_WORDS : mg "WORDS" = some (.ref A.WORDS)
  i_WORDS : ∀ F, Is K F (.ref A.WORDS) (.tup c_WORDS)
  m_LETTERS : mg "LETTERS" = some (.str c_LETTERS A.t_LETTERS)
  i_LETTERS : ∀ F, Is K F (.str c_LETTERS) (.str c_LETTERS)
  m_SIGNS : mg "SIGNS" = some (.str c_SIGNS A.t_SIGNS)
  i_SIGNS : ∀ F, Is K F (.str c_SIGNS) (.str c_SIGNS)
  m_DIGITS : mg "DIGITS" = some (.str c_DIGITS A.t_DIGITS)
  i_DIGITS : ∀ F, Is K F (.str c_DIGITS) (.str c_DIGITS)
  m_RUN : mg "RUN" = some (.str c_RUN A.t_RUN)
  i_RUN : ∀ F, Is K F (.str c_RUN) (.str c_RUN)
  m_RANKS : mg "RANKS" = some (.ref A.RANKS)
  m_BEGIN : mg "BEGIN" = some (.int 0 A.t_BEGIN)
  i_BEGIN : ∀ F, Is K F (.int 0) (.int 0)
  m_OPERAND : mg "OPERAND" = some (.int 1 A.t_OPERAND)
  i_OPERAND : ∀ F, Is K F (.int 1) (.int 1)
  m_BRACKET : mg "BRACKET" = some (.int 2 A.t_BRACKET)
  i_BRACKET : ∀ F, Is K F (.int 2) (.int 2)
  m_EXPONENT : mg "EXPONENT" = some (.int 3 A.t_EXPONENT)
  i_EXPONENT : ∀ F, Is K F (.int 3) (.int 3)
  m_ATOM : mg "ATOM" = some (.int 4 A.t_ATOM)
  i_ATOM : ∀ F, Is K F (.int 4) (.int 4)
  m_POWER : mg "POWER" = some (.int 5 A.t_POWER)
  i_POWER : ∀ F, Is K F (.int 5) (.int 5)
  m_BAD : mg "BAD" = some (.int 6 A.t_BAD)
  i_BAD : ∀ F, Is K F (.int 6) (.int 6)
end D2

set_option maxRecDepth 100000
set_option maxHeartbeats 2000000
set_option pp.maxSteps 400
set_option pp.deepTerms false
namespace D2
open PySem PySem.Spec PyProof.Rows L2
local macro_rules | `(tactic| walk_at "wp") => `(tactic| conv => whnf)
local macro_rules | `(tactic| walk_at "w") => `(tactic| (conv => whnf) <;> repeat ((first | rw [seqD_ptr Mem.put_same] | rw [atI_zero] | rw [lstD_ptr Mem.put_same] | rw [dctD_ptr Mem.put_same] | rw [objD_ptr Mem.put_same] | rw [Mem.put_same]); conv => whnf))
local macro_rules | `(tactic| walk_at "v") => `(tactic| (conv => whnf) <;> repeat ((first | rw [seqD_ptr Mem.put_same] | rw [atI_zero] | rw [Mem.put_same] | rw [seqD_ptr (Mem.at2 (by assumption))] | rw [Mem.at2 (by assumption)]); conv => whnf))
local macro_rules | `(tactic| walk_at "a") => `(tactic| (walk_at "w") <;> repeat (refine ⟨(by first | exact mulR ⟨by omega, by omega⟩ | exact mulL ⟨by omega, by omega⟩ | (show (0 : Int) < _; omega) | exact ⟨by omega, by decide +kernel⟩ | exact ⟨by decide, by decide, by decide⟩), ?_⟩ <;> walk_at "w"))
local macro_rules | `(tactic| walk_at "i") => `(tactic| ((walk_at "w") <;> (refine ⟨trivial, by first | exact .inl rfl | exact .inr (.inl rfl) | exact .inr (.inr (.inl rfl)) | exact .inr (.inr (.inr (.inl rfl))) | exact .inr (.inr (.inr (.inr (.inl rfl)))), ?_⟩)))
section
variable {P : Program} {w : World} {K : W.Frag} {mg : Str → Option Value} {base : Heap} {A : Ad}
theorem sc_l_draw : FnScope ["jar", "many", "cell", "digit"] ["jar", "many"] (defScope (top 35)) := ⟨rfl, rfl, rfl, by decide +kernel, rfl, by decide +kernel, by decide +kernel⟩
theorem ok_l_draw (T : Txt K mg A) : FnAt P w K mg base 1 "_law_draw" S_l_draw := by
  refine fnAt_of T.F_l_draw sc_l_draw (fun ds M q h => by first | (obtain ⟨e, _⟩ := h; rw [e]; rfl) | (obtain ⟨_, e, _⟩ := h; rw [e]; rfl) | (obtain ⟨_, _, e, _⟩ := h; rw [e]; rfl) | (obtain ⟨_, _, _, e, _⟩ := h; rw [e]; rfl) | (obtain ⟨_, _, _, _, e, _⟩ := h; rw [e]; rfl) | (obtain ⟨_, _, _, _, _, e, _⟩ := h; rw [e]; rfl) | (obtain ⟨_, _, _, _, _, _, e, _⟩ := h; rw [e]; rfl) | (obtain ⟨_, _, _, _, _, _, _, e, _⟩ := h; rw [e]; rfl) | (obtain ⟨_, _, _, _, _, _, _, _, e, _⟩ := h; rw [e]; rfl) | (obtain ⟨_, _, _, _, _, _, _, _, _, e, _⟩ := h; rw [e]; rfl) | (obtain ⟨_, _, _, _, _, _, _, _, _, _, e, _⟩ := h; rw [e]; rfl) | (obtain ⟨_, _, _, _, _, _, _, _, _, _, _, e, _⟩ := h; rw [e]; rfl)) ?_
  intro f cdv A' outer s H E hr
  have S := sc_l_draw
  have hu := hr.units
  have hu1 := Nat.lt_of_le_of_lt (Nat.add_le_add_left (by decide : 1 ≤ 64) _) hu
  refine ⟨_, _, (pdb_cons (pds_asg (pd_op po_add (pd_ix (pd_var 0) pd_int fun _ _ => rfl) pd_int) (pdg_ix (pd_var 0) pd_int))
      (pdb_cut (pds_if (PDW.pdt (pdt_and (pdt_cmp (po_eq hu) (pd_ix (pd_var 0) pd_int fun _ _ => rfl) pd_int (nomark _)) (pdt_and1 (pdt_cmp po_lt (pd_ix (pd_var 0) pd_int fun _ _ => rfl) (pd_callB pc_len rfl T.n_len (by decide +kernel) (pda_cons (pd_ix (pd_var 0) pd_int fun _ _ => rfl) pda_nil)) (nomark _))))) (pdb_cons (pds_set (i := 2) S.nd rfl (Or.inl rfl) (pd_callTy pc_int rfl T.n_int (by decide +kernel) (pda_cons (pd_ix (pd_ix (pd_var 0) pd_int fun _ _ => rfl) (pd_ix (pd_var 0) pd_int fun _ _ => rfl) fun _ _ => rfl) pda_nil)))
      (pdb_cons (pds_asg (pd_op po_add (pd_ix (pd_var 0) pd_int fun _ _ => rfl) pd_int) (pdg_ix (pd_var 0) pd_int))
      (pdb_one (pds_if (pdt_cmp po_ge (pd_var 2) (pd_op po_pow pd_int pd_int) (nomark _)) (pdb_cons (pds_asg (pd_var 2) (pdg_ix (pd_var 0) pd_int))
      (pdb_one (pds_asg pd_int (pdg_ix (pd_var 0) pd_int)))) (pdb_one (pds_asg (pd_op po_mod (pd_callTy pc_int rfl T.n_int (by decide +kernel) (pda_cons (pd_op po_add (pd_op po_add (pd_op po_mul (pd_ix (pd_var 0) pd_int fun _ _ => rfl) pd_int) (pd_op po_mul (pd_op po_mod (pd_callTy pc_int rfl T.n_int (by decide +kernel) (pda_cons (pd_var 2) pda_nil)) pd_int) pd_int)) pd_int) pda_nil)) pd_int) (pdg_ix (pd_var 0) pd_int))))))) pdb_nil)
      (pdb_cons (pds_if (pdt_cmp po_gt (pd_ix (pd_var 0) pd_int fun _ _ => rfl) pd_int (nomark _)) (pdb_cons (pds_set (i := 3) S.nd rfl (Or.inl rfl) (pd_op po_mod (pd_callTy pc_int rfl T.n_int (by decide +kernel) (pda_cons (pd_ix (pd_var 0) pd_int fun _ _ => rfl) pda_nil)) (pd_var 1)))
      (pdb_cons (pds_asg (pd_op po_fdiv (pd_ix (pd_var 0) pd_int fun _ _ => rfl) (pd_var 1)) (pdg_ix (pd_var 0) pd_int))
      (pdb_cons (pds_asg (pd_if (pdt_cmp po_gt (pd_ix (pd_var 0) pd_int fun _ _ => rfl) pd_int (nomark _)) (pd_op po_sub (pd_ix (pd_var 0) pd_int fun _ _ => rfl) pd_int) pd_int) (pdg_ix (pd_var 0) pd_int))
      (pdb_one (pds_ret (pd_var 3)))))) pdb_nil)
      (pdb_cons (pds_asg (pd_op po_mod (pd_callTy pc_int rfl T.n_int (by decide +kernel) (pda_cons (pd_op po_add (pd_op po_add (pd_op po_mul (pd_op po_mul (pd_ix (pd_var 0) pd_int fun _ _ => rfl) (pd_ix (pd_var 0) pd_int fun _ _ => rfl)) (pd_ix (pd_var 0) pd_int fun _ _ => rfl)) (pd_op po_mul (pd_ix (pd_var 0) pd_int fun _ _ => rfl) pd_int)) pd_int) pda_nil)) pd_int) (pdg_ix (pd_var 0) pd_int))
      (pdb_one (pds_ret (pd_op po_mod (pd_callTy pc_int rfl T.n_int (by decide +kernel) (pda_cons (pd_op po_add (pd_op po_fdiv (pd_ix (pd_var 0) pd_int fun _ _ => rfl) pd_int) (pd_op po_mul (pd_op po_mod (pd_callTy pc_int rfl T.n_int (by decide +kernel) (pda_cons (pd_ix (pd_var 0) pd_int fun _ _ => rfl) pda_nil)) pd_int) pd_int)) pda_nil)) (pd_var 1)))))))), fun ds M q h => ?_⟩
  obtain ⟨a, many, js, rfl, hm, ⟨cs, i, c, k, m, n, rfl, hi, hm0, hm1⟩, ⟨hpos, hlog⟩, hq⟩ := h
  walk_at "w"
  rw [seqD_ptr hm]
  walk_at "w"
  rw [hm]
  walk_at "w"
  refine ⟨fun Γ M' => ∃ v i c k m n, Γ = [some (.ptr a), some (.int many), v, none] ∧ M' = M.put a (.lst (jarL cs i c k m n)) ∧ 0 ≤ i ∧ 0 ≤ m ∧ m < 4294967291, ?_, ?_⟩
  · have done : ∀ (Γ : Ga) (M' : Mem) v i c k m n, Γ = [some (.ptr a), some (.int many), v, none] → M' = M.put a (.lst (jarL cs i c k m n)) → 0 ≤ i → 0 ≤ m → m < 4294967291 → ∃ v i c k m n, Γ = [some (.ptr a), some (.int many), v, none] ∧ M' = M.put a (.lst (jarL cs i c k m n)) ∧ 0 ≤ i ∧ 0 ≤ m ∧ m < 4294967291 :=
      fun Γ M' v i c k m n h1 h2 h3 h4 h5 => ⟨v, i, c, k, m, n, h1, h2, h3, h4, h5⟩
    walk_at "w"
    refine wite_d (fun _ => ?_) fun _ => done _ _ none i c k m (n + 1) rfl rfl hi hm0 hm1
    walk_at "w"
    refine wite_d (fun hlt => ?_) fun _ => done _ _ none i c k m (n + 1) rfl rfl hi hm0 hm1
    have hlt' : i < (cs.length : Int) := by simpa using hlt
    obtain ⟨z, hz⟩ : ∃ z, cs[i.toNat]? = some z := ⟨_, List.getElem?_eq_getElem (by omega)⟩
    have hat : atI (cs.map D.int) i = some (.int z) := by
      unfold atI ixN
      rw [if_pos hi, List.length_map, if_pos hlt']
      show (cs.map D.int)[i.toNat]? = _
      rw [List.getElem?_map, hz]
      rfl
    walk_at "w"
    rw [hat]
    walk_at "a"
    refine wite_d (fun _ => ?_) fun _ => ?_
    · walk_at "a"
      exact done _ _ (some (.int z)) (i + 1) z 60 m (n + 1) rfl (by rw [Mem.put_put, Mem.put_put, Mem.put_put]; rfl) (by omega) hm0 hm1
    · walk_at "a"
      exact done _ _ (some (.int z)) (i + 1) c k _ (n + 1) rfl (by rw [Mem.put_put, Mem.put_put]; rfl) (by omega) (Int.emod_nonneg _ (by decide)) (Int.emod_lt_of_pos _ (by decide))
  · rintro Γ M1 ⟨v, i, c, k, m, n, rfl, rfl, hi, hm0, hm1⟩
    walk_at "w"
    refine wite_d (fun _ => ?_) fun _ => ?_
    · walk_at "a"
      refine ⟨⟨hpos, hlog⟩, ?_⟩
      walk_at "a"
      refine wite_d (fun _ => ?_) fun _ => ?_
      · walk_at "a"
        exact .of (by rw [Mem.put_put, Mem.put_put]; exact hq _ _ (Int.emod_nonneg _ (by omega)) (Int.emod_lt_of_pos _ hpos) ⟨cs, i, c / many, k - 1, m, n, rfl, hi, hm0, hm1⟩)
      · walk_at "a"
        exact .of (by rw [Mem.put_put, Mem.put_put]; exact hq _ _ (Int.emod_nonneg _ (by omega)) (Int.emod_lt_of_pos _ hpos) ⟨cs, i, c / many, 0, m, n, rfl, hi, hm0, hm1⟩)
    · walk_at "a"
      exact .of (by rw [Mem.put_put]; exact hq _ _ (Int.emod_nonneg _ (by omega)) (Int.emod_lt_of_pos _ hpos) ⟨cs, i, c, k, _, n, rfl, hi, Int.emod_nonneg _ (by decide), Int.emod_lt_of_pos _ (by decide)⟩)
theorem sc_l_pick : FnScope ["jar", "menu"] ["jar", "menu"] (defScope (top 36)) := ⟨rfl, rfl, rfl, by decide +kernel, rfl, by decide +kernel, by decide +kernel⟩
theorem ok_l_pick (T : Txt K mg A) (G_l_draw : FnAt P w K mg base 1 "_law_draw" S_l_draw) : FnAt P w K mg base 2 "_law_pick" S_l_pick := by
  refine fnAt_of T.F_l_pick sc_l_pick (fun ds M q h => by first | (obtain ⟨e, _⟩ := h; rw [e]; rfl) | (obtain ⟨_, e, _⟩ := h; rw [e]; rfl) | (obtain ⟨_, _, e, _⟩ := h; rw [e]; rfl) | (obtain ⟨_, _, _, e, _⟩ := h; rw [e]; rfl) | (obtain ⟨_, _, _, _, e, _⟩ := h; rw [e]; rfl) | (obtain ⟨_, _, _, _, _, e, _⟩ := h; rw [e]; rfl) | (obtain ⟨_, _, _, _, _, _, e, _⟩ := h; rw [e]; rfl) | (obtain ⟨_, _, _, _, _, _, _, e, _⟩ := h; rw [e]; rfl) | (obtain ⟨_, _, _, _, _, _, _, _, e, _⟩ := h; rw [e]; rfl) | (obtain ⟨_, _, _, _, _, _, _, _, _, e, _⟩ := h; rw [e]; rfl) | (obtain ⟨_, _, _, _, _, _, _, _, _, _, e, _⟩ := h; rw [e]; rfl) | (obtain ⟨_, _, _, _, _, _, _, _, _, _, _, e, _⟩ := h; rw [e]; rfl)) ?_
  intro f cdv A' outer s H E hr
  have S := sc_l_pick
  have hu := hr.units
  have hu1 := Nat.lt_of_le_of_lt (Nat.add_le_add_left (by decide : 1 ≤ 64) _) hu
  refine ⟨_, _, (pdb_one (pds_ret (pd_ix (pd_var 1) (pd_call G_l_draw (hr.mono (by omega)) rfl (pda_cons (pd_var 0) (pda_cons (pd_callB pc_len rfl T.n_len (by decide +kernel) (pda_cons (pd_var 1) pda_nil)) pda_nil))) fun _ _ => rfl))), fun ds M q h => ?_⟩
  obtain ⟨a, js, ms, rfl, hm, hj, h0, hz, hq⟩ := h
  walk_at "w"
  refine ⟨a, _, js, rfl, hm, hj, ⟨by omega, Nat.lt_trans (log_small (by omega) (by unfold sizeLine at hz; omega)) (by decide)⟩, fun r js' h0 h1 hj' => ?_⟩
  obtain ⟨x, hx, hin, _⟩ := atI_nat h0 h1
  walk_at "w"
  rw [hx]
  walk_at "w"
  exact .of (hq _ _ hin hj')
theorem sc_l_jar : FnScope ["script", "mixed", "cell"] ["script"] (defScope (top 34)) := ⟨rfl, rfl, rfl, by decide +kernel, rfl, by decide +kernel, by decide +kernel⟩
theorem ok_l_jar (T : Txt K mg A) : FnAt P w K mg base 1 "_law_jar" S_l_jar := by
  refine fnAt_of T.F_l_jar sc_l_jar (fun ds M q h => by first | (obtain ⟨e, _⟩ := h; rw [e]; rfl) | (obtain ⟨_, e, _⟩ := h; rw [e]; rfl) | (obtain ⟨_, _, e, _⟩ := h; rw [e]; rfl) | (obtain ⟨_, _, _, e, _⟩ := h; rw [e]; rfl) | (obtain ⟨_, _, _, _, e, _⟩ := h; rw [e]; rfl) | (obtain ⟨_, _, _, _, _, e, _⟩ := h; rw [e]; rfl) | (obtain ⟨_, _, _, _, _, _, e, _⟩ := h; rw [e]; rfl) | (obtain ⟨_, _, _, _, _, _, _, e, _⟩ := h; rw [e]; rfl) | (obtain ⟨_, _, _, _, _, _, _, _, e, _⟩ := h; rw [e]; rfl) | (obtain ⟨_, _, _, _, _, _, _, _, _, e, _⟩ := h; rw [e]; rfl) | (obtain ⟨_, _, _, _, _, _, _, _, _, _, e, _⟩ := h; rw [e]; rfl) | (obtain ⟨_, _, _, _, _, _, _, _, _, _, _, e, _⟩ := h; rw [e]; rfl)) ?_
  intro f cdv A' outer s H E hr
  have S := sc_l_jar
  have hu := hr.units
  have hu1 := Nat.lt_of_le_of_lt (Nat.add_le_add_left (by decide : 1 ≤ 64) _) hu
  refine ⟨_, _, (pdb_cons (pds_set (i := 1) S.nd rfl (Or.inl rfl) pd_int)
      (pdb_cons (pds_for PassesOwn.never rfl (pi_l (pd_sl (pd_var 0) pdo_none (pdo_some pd_int))) (pdg_name (i := 2) S.nd rfl (Or.inl rfl)) (pdb_one (pds_set (i := 1) S.nd rfl (Or.inl rfl) (pd_op po_mod (pd_callTy pc_int rfl T.n_int (by decide +kernel) (pda_cons (pd_op po_add (pd_op po_add (pd_op po_mul (pd_var 1) pd_int) (pd_op po_mul (pd_op po_mod (pd_callTy pc_int rfl T.n_int (by decide +kernel) (pda_cons (pd_var 2) pda_nil)) pd_int) pd_int)) pd_int) pda_nil)) pd_int))))
      (pdb_one (pds_ret (pd_lstP (pda_cons (pd_callTy (pc_list rfl) rfl T.n_list (by decide +kernel) (pda_cons (pd_sl (pd_var 0) pdo_none (pdo_some pd_int)) pda_nil)) (pda_cons pd_int (pda_cons pd_int (pda_cons pd_int (pda_cons (pd_var 1) (pda_cons pd_int pda_nil))))))))))), fun ds M q h => ?_⟩
  obtain ⟨cs, rfl, hq⟩ := h
  walk_at "w"
  obtain ⟨es, he⟩ := cut_ints cs none (some 63)
  rw [he]
  refine for_by (fun ds Γ M' => (∃ es : List Int, ds = es.map .int) ∧ M' = M ∧ ∃ m v, Γ = [some (.scr (cs.map .int)), some (.int m), v] ∧ 0 ≤ m ∧ m < 4294967291) ?_ ?_ _ _ _ ⟨⟨es, rfl⟩, rfl, 19602, none, rfl, by decide, by decide⟩
  · rintro Γ M1 ⟨_, rfl, m, v, rfl, h0, h1⟩
    walk_at "w"
    rw [he]
    refine ⟨(by show 6 ≤ sizeLine; decide), fun p hp => ?_⟩
    exact .of (hq p _ hp ⟨es, 0, 0, 0, m, 0, rfl, by decide, h0, h1⟩)
  · rintro d ds Γ M1 ⟨⟨es, e⟩, rfl, m, v, rfl, h0, h1⟩ ih
    cases es with
    | nil => cases e
    | cons z es =>
      cases e
      walk_at "a"
      exact ih _ _ ⟨⟨es, rfl⟩, rfl, _, _, rfl, Int.emod_nonneg _ (by decide), Int.emod_lt_of_pos _ (by decide)⟩
theorem sc_l_like : FnScope ["got", "due", "k"] ["got", "due"] (defScope (top 37)) := ⟨rfl, rfl, rfl, by decide +kernel, rfl, by decide +kernel, by decide +kernel⟩
theorem ok_l_like (T : Txt K mg A) (n : Nat) : FnAt P w K mg base (n + 0) "_law_like" (S_l_like n) := by
  induction n with
  | zero => exact fnAt_no T.F_l_like (fun ds M q h => by obtain ⟨_,_,h,_⟩ := h; exact h)
  | succ n ih =>
    have G_l_like := ih
    refine fnAt_of T.F_l_like sc_l_like (fun ds M q h => by first | (obtain ⟨e, _⟩ := h; rw [e]; rfl) | (obtain ⟨_, e, _⟩ := h; rw [e]; rfl) | (obtain ⟨_, _, e, _⟩ := h; rw [e]; rfl) | (obtain ⟨_, _, _, e, _⟩ := h; rw [e]; rfl) | (obtain ⟨_, _, _, _, e, _⟩ := h; rw [e]; rfl) | (obtain ⟨_, _, _, _, _, e, _⟩ := h; rw [e]; rfl) | (obtain ⟨_, _, _, _, _, _, e, _⟩ := h; rw [e]; rfl) | (obtain ⟨_, _, _, _, _, _, _, e, _⟩ := h; rw [e]; rfl) | (obtain ⟨_, _, _, _, _, _, _, _, e, _⟩ := h; rw [e]; rfl) | (obtain ⟨_, _, _, _, _, _, _, _, _, e, _⟩ := h; rw [e]; rfl) | (obtain ⟨_, _, _, _, _, _, _, _, _, _, e, _⟩ := h; rw [e]; rfl) | (obtain ⟨_, _, _, _, _, _, _, _, _, _, _, e, _⟩ := h; rw [e]; rfl)) ?_
    intro f cdv A' outer s H E hr
    have S := sc_l_like
    have hu := hr.units
    have hu1 := Nat.lt_of_le_of_lt (Nat.add_le_add_left (by decide : 1 ≤ 64) _) hu
    refine ⟨_, _, (pdb_cons (pds_if (pdt_val (pd_callB pc_isi rfl T.n_isinstance (by decide +kernel) (pda_cons (pd_var 1) (pda_cons (pd_ty "bool" rfl T.n_bool (by decide +kernel)) pda_nil)))) (pdb_one (pds_ret (pd_and (pd_callB pc_isi rfl T.n_isinstance (by decide +kernel) (pda_cons (pd_var 0) (pda_cons (pd_ty "bool" rfl T.n_bool (by decide +kernel)) pda_nil))) (pd_one (pd_cmp (po_eq hu) (pd_var 0) (pd_var 1) (nomark _)))))) pdb_nil)
      (pdb_cons (pds_if (pdt_val (pd_callB pc_isi rfl T.n_isinstance (by decide +kernel) (pda_cons (pd_var 1) (pda_cons (pd_ty "int" rfl T.n_int (by decide +kernel)) pda_nil)))) (pdb_one (pds_ret (pd_and (pd_callB pc_isi rfl T.n_isinstance (by decide +kernel) (pda_cons (pd_var 0) (pda_cons (pd_ty "int" rfl T.n_int (by decide +kernel)) pda_nil))) (pd_and (pd_not (pd_callB pc_isi rfl T.n_isinstance (by decide +kernel) (pda_cons (pd_var 0) (pda_cons (pd_ty "bool" rfl T.n_bool (by decide +kernel)) pda_nil)))) (pd_one (pd_cmp (po_eq hu) (pd_var 0) (pd_var 1) (nomark _))))))) pdb_nil)
      (pdb_cons (pds_if (pdt_val (pd_callB pc_isi rfl T.n_isinstance (by decide +kernel) (pda_cons (pd_var 1) (pda_cons (pd_ty "str" rfl T.n_str (by decide +kernel)) pda_nil)))) (pdb_one (pds_ret (pd_and (pd_callB pc_isi rfl T.n_isinstance (by decide +kernel) (pda_cons (pd_var 0) (pda_cons (pd_ty "str" rfl T.n_str (by decide +kernel)) pda_nil))) (pd_one (pd_cmp (po_eq hu) (pd_var 0) (pd_var 1) (nomark _)))))) pdb_nil)
      (pdb_cons (pds_if (pdt_val (pd_isiT2 (a := "list") (b := "tuple") rfl T.n_isinstance rfl rfl T.n_list T.n_tuple (by decide +kernel) (by decide +kernel) (pd_var 1))) (pdb_cons (pds_if (PDW.pdt (pdt_or (pdt_cmp (po_ne hu) (pd_callB pc_isi rfl T.n_isinstance (by decide +kernel) (pda_cons (pd_var 0) (pda_cons (pd_ty "list" rfl T.n_list (by decide +kernel)) pda_nil))) (pd_callB pc_isi rfl T.n_isinstance (by decide +kernel) (pda_cons (pd_var 1) (pda_cons (pd_ty "list" rfl T.n_list (by decide +kernel)) pda_nil))) (nomark _)) (pdt_or (pdt_cmp (po_ne hu) (pd_callB pc_isi rfl T.n_isinstance (by decide +kernel) (pda_cons (pd_var 0) (pda_cons (pd_ty "tuple" rfl T.n_tuple (by decide +kernel)) pda_nil))) (pd_callB pc_isi rfl T.n_isinstance (by decide +kernel) (pda_cons (pd_var 1) (pda_cons (pd_ty "tuple" rfl T.n_tuple (by decide +kernel)) pda_nil))) (nomark _)) (pdt_or1 (pdt_cmp (po_ne hu) (pd_callB pc_len rfl T.n_len (by decide +kernel) (pda_cons (pd_var 0) pda_nil)) (pd_callB pc_len rfl T.n_len (by decide +kernel) (pda_cons (pd_var 1) pda_nil)) (nomark _)))))) (pdb_one (pds_ret pd_bl)) pdb_nil)
      (pdb_cons (pds_for PassesOwn.never rfl (pi_r1 rfl T.n_range (pda_cons (pd_callB pc_len rfl T.n_len (by decide +kernel) (pda_cons (pd_var 1) pda_nil)) pda_nil)) (pdg_name (i := 2) S.nd rfl (Or.inl rfl)) (pdb_one (pds_if (pdt_not (pdt_val (pd_call G_l_like hr rfl (pda_cons (pd_ix (pd_var 0) (pd_var 2) fun _ _ => rfl) (pda_cons (pd_ix (pd_var 1) (pd_var 2) fun _ _ => rfl) pda_nil))))) (pdb_one (pds_ret pd_bl)) pdb_nil)))
      (pdb_one (pds_ret pd_bl)))) pdb_nil)
      (pdb_one (pds_ret (pd_and (pd_cmp po_is (pd_var 1) pd_non (nomark _)) (pd_one (pd_cmp po_is (pd_var 0) pd_non (nomark _)))))))))), fun ds M q h => ?_⟩
    obtain ⟨d, rfl, hd, hq⟩ := h
    have tr : ∀ {p : Prop} [Decidable p], p → Rt q (.bl (decide p)) M := fun h => by rw [decide_eq_true h]; exact .of hq
    cases d with
    | int i =>
      walk_at "i"; walk_at "i"; walk_at "i"; walk_at "i"; walk_at "w"
      exact tr rfl
    | bl i =>
      walk_at "i"; walk_at "i"; walk_at "w"
      exact tr rfl
    | str i =>
      walk_at "i"; walk_at "i"; walk_at "i"; walk_at "i"; walk_at "w"
      exact tr rfl
    | lst i =>
      walk_at "i"; walk_at "i"; walk_at "i"; walk_at "w"
      refine ⟨trivial, .inr (.inr (.inr (.inl rfl))), .inr (.inr (.inr (.inr (.inl rfl)))), ?_⟩
      walk_at "i"; walk_at "i"; walk_at "i"; walk_at "i"; walk_at "w"
      refine wite_nd (fun z => absurd rfl z) fun _ => ?_
      have hz : i.length ≤ sizeLine := hd.1
      unfold sizeLine at hz
      walk_at "w"
      refine ⟨by omega, by omega, ?_⟩
      refine for_by (fun ds Γ M' => M' = M ∧ (∃ v, Γ = [some (.lst i), some (.lst i), v]) ∧ ∀ d ∈ ds, ∃ k : Nat, d = .int k ∧ k < i.length) ?_ ?_ _ _ _ ⟨rfl, ⟨none, rfl⟩, fun d hd => ?_⟩
      · rintro Γ M' ⟨rfl, ⟨v, rfl⟩, _⟩
        walk_at "w"
        exact .of hq
      · rintro d ds Γ M' ⟨rfl, ⟨v, rfl⟩, hk⟩ ih2
        obtain ⟨k, rfl, hk1⟩ := hk _ (List.mem_cons_self ..)
        obtain ⟨x, hx, hin, _⟩ := atI_nat (xs := i) (i := (k : Int)) (by omega) (by omega)
        walk_at "w"
        rw [hx]
        walk_at "w"
        rw [hx]
        walk_at "w"
        refine ⟨x, rfl, hd.2 x hin, ?_⟩
        walk_at "w"
        exact ih2 _ _ ⟨rfl, ⟨_, rfl⟩, fun d hd => hk d (List.mem_cons_of_mem _ hd)⟩
      · unfold nums at hd
        rw [List.mem_map] at hd
        obtain ⟨k, hk, rfl⟩ := hd
        rw [List.mem_range] at hk
        exact ⟨k, by rw [Int.zero_add], by simpa using hk⟩
    | tup i =>
      walk_at "i"; walk_at "i"; walk_at "i"; walk_at "w"
      refine ⟨trivial, .inr (.inr (.inr (.inl rfl))), .inr (.inr (.inr (.inr (.inl rfl)))), ?_⟩
      walk_at "i"; walk_at "i"; walk_at "i"; walk_at "i"; walk_at "w"
      refine wite_nd (fun z => absurd rfl z) fun _ => ?_
      have hz : i.length ≤ sizeLine := hd.1
      unfold sizeLine at hz
      walk_at "w"
      refine ⟨by omega, by omega, ?_⟩
      refine for_by (fun ds Γ M' => M' = M ∧ (∃ v, Γ = [some (.tup i), some (.tup i), v]) ∧ ∀ d ∈ ds, ∃ k : Nat, d = .int k ∧ k < i.length) ?_ ?_ _ _ _ ⟨rfl, ⟨none, rfl⟩, fun d hd => ?_⟩
      · rintro Γ M' ⟨rfl, ⟨v, rfl⟩, _⟩
        walk_at "w"
        exact .of hq
      · rintro d ds Γ M' ⟨rfl, ⟨v, rfl⟩, hk⟩ ih2
        obtain ⟨k, rfl, hk1⟩ := hk _ (List.mem_cons_self ..)
        obtain ⟨x, hx, hin, _⟩ := atI_nat (xs := i) (i := (k : Int)) (by omega) (by omega)
        walk_at "w"
        rw [hx]
        walk_at "w"
        rw [hx]
        walk_at "w"
        refine ⟨x, rfl, hd.2 x hin, ?_⟩
        walk_at "w"
        exact ih2 _ _ ⟨rfl, ⟨_, rfl⟩, fun d hd => hk d (List.mem_cons_of_mem _ hd)⟩
      · unfold nums at hd
        rw [List.mem_map] at hd
        obtain ⟨k, hk, rfl⟩ := hd
        rw [List.mem_range] at hk
        exact ⟨k, by rw [Int.zero_add], by simpa using hk⟩
    | _ => exact hd.elim
end
end D2

set_option maxRecDepth 100000
set_option maxHeartbeats 2000000
set_option pp.maxSteps 400
set_option pp.deepTerms false
namespace D2
open PySem PySem.Spec PyProof.Rows L2
local macro_rules | `(tactic| walk_at "wp") => `(tactic| conv => whnf)
local macro_rules | `(tactic| walk_at "w") => `(tactic| (conv => whnf) <;> repeat ((first | rw [seqD_ptr Mem.put_same] | rw [atI_zero] | rw [lstD_ptr Mem.put_same] | rw [dctD_ptr Mem.put_same] | rw [objD_ptr Mem.put_same] | rw [Mem.put_same]); conv => whnf))
local macro_rules | `(tactic| walk_at "v") => `(tactic| (conv => whnf) <;> repeat ((first | rw [seqD_ptr Mem.put_same] | rw [atI_zero] | rw [Mem.put_same] | rw [seqD_ptr (Mem.at2 (by assumption))] | rw [Mem.at2 (by assumption)]); conv => whnf))
local macro_rules | `(tactic| walk_at "a") => `(tactic| (walk_at "w") <;> repeat (refine ⟨(by first | exact mulR ⟨by omega, by omega⟩ | exact mulL ⟨by omega, by omega⟩ | (show (0 : Int) < _; omega) | exact ⟨by omega, by decide +kernel⟩ | exact ⟨by decide, by decide, by decide⟩), ?_⟩ <;> walk_at "w"))
local macro_rules | `(tactic| walk_at "i") => `(tactic| ((walk_at "w") <;> (refine ⟨trivial, by first | exact .inl rfl | exact .inr (.inl rfl) | exact .inr (.inr (.inl rfl)) | exact .inr (.inr (.inr (.inl rfl))) | exact .inr (.inr (.inr (.inr (.inl rfl)))), ?_⟩)))
section
variable {P : Program} {w : World} {K : W.Frag} {mg : Str → Option Value} {base : Heap} {A : Ad}
theorem sc_l_words : FnScope [] [] (defScope (top 38)) := ⟨rfl, rfl, rfl, by decide +kernel, rfl, by decide +kernel, by decide +kernel⟩
theorem ok_l_words (T : Txt K mg A) : FnAt P w K mg base 1 "_law_words" S_l_words := by
  refine fnAt_of T.F_l_words sc_l_words (fun ds M q h => by first | (obtain ⟨e, _⟩ := h; rw [e]; rfl) | (obtain ⟨_, e, _⟩ := h; rw [e]; rfl) | (obtain ⟨_, _, e, _⟩ := h; rw [e]; rfl) | (obtain ⟨_, _, _, e, _⟩ := h; rw [e]; rfl) | (obtain ⟨_, _, _, _, e, _⟩ := h; rw [e]; rfl) | (obtain ⟨_, _, _, _, _, e, _⟩ := h; rw [e]; rfl) | (obtain ⟨_, _, _, _, _, _, e, _⟩ := h; rw [e]; rfl) | (obtain ⟨_, _, _, _, _, _, _, e, _⟩ := h; rw [e]; rfl) | (obtain ⟨_, _, _, _, _, _, _, _, e, _⟩ := h; rw [e]; rfl) | (obtain ⟨_, _, _, _, _, _, _, _, _, e, _⟩ := h; rw [e]; rfl) | (obtain ⟨_, _, _, _, _, _, _, _, _, _, e, _⟩ := h; rw [e]; rfl) | (obtain ⟨_, _, _, _, _, _, _, _, _, _, _, e, _⟩ := h; rw [e]; rfl)) ?_
  intro f cdv A' outer s H E hr
  have S := sc_l_words
  have hu := hr.units
  have hu1 := Nat.lt_of_le_of_lt (Nat.add_le_add_left (by decide : 1 ≤ 64) _) hu
  refine ⟨_, _, (pdb_one (pds_ret (pd_lst (pda_cons pd_str (pda_cons pd_str (pda_cons pd_str (pda_cons pd_str (pda_cons pd_str (pda_cons pd_str (pda_cons pd_str (pda_cons pd_str (pda_cons pd_str (pda_cons pd_str (pda_cons pd_str (pda_cons pd_str (pda_cons pd_str (pda_cons pd_str (pda_cons pd_str (pda_cons pd_str (pda_cons pd_str (pda_cons pd_str (pda_cons pd_str (pda_cons pd_str (pda_cons pd_str (pda_cons pd_str (pda_cons pd_str (pda_cons pd_str (pda_cons pd_str (pda_cons pd_str (pda_cons pd_str (pda_cons pd_str pda_nil))))))))))))))))))))))))))))))), fun ds M q h => ?_⟩
  obtain ⟨rfl, hq⟩ := h
  walk_at "w"
  refine ⟨by decide, ?_⟩
  exact .of hq
theorem sc_l_stranger : FnScope ["kept", "w", "n"] ["kept"] (defScope (top 40)) := ⟨rfl, rfl, rfl, by decide +kernel, rfl, by decide +kernel, by decide +kernel⟩
theorem ok_l_stranger (T : Txt K mg A) : FnAt P w K mg base 1 "_law_stranger" S_l_stranger := by
  refine fnAt_of T.F_l_stranger sc_l_stranger (fun ds M q h => by first | (obtain ⟨e, _⟩ := h; rw [e]; rfl) | (obtain ⟨_, e, _⟩ := h; rw [e]; rfl) | (obtain ⟨_, _, e, _⟩ := h; rw [e]; rfl) | (obtain ⟨_, _, _, e, _⟩ := h; rw [e]; rfl) | (obtain ⟨_, _, _, _, e, _⟩ := h; rw [e]; rfl) | (obtain ⟨_, _, _, _, _, e, _⟩ := h; rw [e]; rfl) | (obtain ⟨_, _, _, _, _, _, e, _⟩ := h; rw [e]; rfl) | (obtain ⟨_, _, _, _, _, _, _, e, _⟩ := h; rw [e]; rfl) | (obtain ⟨_, _, _, _, _, _, _, _, e, _⟩ := h; rw [e]; rfl) | (obtain ⟨_, _, _, _, _, _, _, _, _, e, _⟩ := h; rw [e]; rfl) | (obtain ⟨_, _, _, _, _, _, _, _, _, _, e, _⟩ := h; rw [e]; rfl) | (obtain ⟨_, _, _, _, _, _, _, _, _, _, _, e, _⟩ := h; rw [e]; rfl)) ?_
  intro f cdv A' outer s H E hr
  have S := sc_l_stranger
  have hu := hr.units
  have hu1 := Nat.lt_of_le_of_lt (Nat.add_le_add_left (by decide : 1 ≤ 64) _) hu
  refine ⟨_, _, (pdb_one (pds_ret (pd_ix (pd_lc (own := [("w", 1)]) rfl S.nd (pi_l (pd_lc (own := [("n", 2)]) rfl S.nd (pi_r1 rfl T.n_range (pda_cons pd_int pda_nil)) (blkOk_by (N := ["kept", "w", "n"]) (sc := (defScope (top 40))) (by decide +kernel)) (fun _ _ _ _ _ => (pg_name (i := 2) S.nd rfl (Or.inl rfl))) pdgc_1 (fun _ _ _ _ _ => blkT pdts_nil (by first | dsimp only | exact rfl) (by first | dsimp only | exact rfl)) fun _ _ _ _ _ => blkE (pd_op po_add (pd_op po_add pd_str (pd_callTy pc_str rfl T.n_str (by decide +kernel) (pda_cons (pd_var 2) pda_nil))) pd_str) (by first | dsimp only | exact rfl) (by first | dsimp only | exact rfl))) (blkOk_by (N := ["kept", "w", "n"]) (sc := (defScope (top 40))) (by decide +kernel)) (fun _ _ _ _ _ => (pg_name (i := 1) S.nd rfl (Or.inl rfl))) pdgc_1 (fun _ _ _ _ _ => blkT (pdts_one (pdt_cmp po_nin (pd_var 1) (pd_var 0) (by with_unfolding_all rfl))) (by first | dsimp only | exact rfl) (by first | dsimp only | exact rfl)) fun _ _ _ _ _ => blkE (pd_var 1) (by first | dsimp only | exact rfl) (by first | dsimp only | exact rfl)) pd_int fun _ _ => rfl))), fun ds M q h => ?_⟩
  obtain ⟨ns, rfl, hl, hq⟩ := h
  walk_at "w"
  refine ⟨by decide, by decide, ?_⟩
  refine ⟨by decide, fun p hp => ?_⟩
  refine lc_fm (fnum uwS) (fun d => ∃ k : Nat, d = .int k ∧ k < 40) hp (fun d hd => nums_nat hd) ?_ ?_
  · rw [fm_num]
    show _ ∧ _
    refine ⟨by decide, fun p2 hp2 => ?_⟩
    refine lc_fm (fstr fun w => !ns.contains w) (fun d => ∃ x, d = .str x) hp2 (fun d hd => ?_) ?_ ?_
    · obtain ⟨x, _, rfl⟩ := List.mem_map.mp hd
      exact ⟨x, rfl⟩
    · rw [fm_str]
      obtain ⟨x, r, e, hx, hn⟩ := one_free uws_nodup (ns := ns) (by show _ < 40; exact hl)
      have e2 : List.map D.str (List.filter (fun w => !ns.contains w) (List.map (fun k : Nat => uwS k) (List.range (Int.toNat 40)))) = .str x :: r.map .str := by
        show List.map D.str (List.filter (fun w => !ns.contains w) uws) = _
        rw [e]
        rfl
      rw [e2]
      walk_at "w"
      exact .of (hq x (uws_name _ hx) hn)
    · rintro d ds acc ⟨x, rfl⟩ h1 h2
      walk_at "w"
      refine ⟨rfl, flat_strs _, ?_⟩
      walk_at "w"
      rw [inD_str]
      refine wite_of (fun z => ?_) fun z => ?_
      · walk_at "w"
        exact h1 _ (by simp only [fstr, z, if_true])
      · exact h2 (by simp only [fstr, z]; rfl)
  · rintro d ds acc ⟨k, rfl, hk⟩ h1 h2
    walk_at "w"
    refine ⟨Nat.lt_trans (log_small (by omega) (by omega)) (by decide), ?_⟩
    walk_at "w"
    have hl := num_len k hk
    refine ⟨by show 1 + _ ≤ sizeLine; unfold sizeLine; omega, ?_⟩
    walk_at "w"
    refine ⟨by rw [str_len_app]; show 1 + _ + 1 ≤ sizeLine; unfold sizeLine; omega, ?_⟩
    walk_at "w"
    exact h1 _ rfl
theorem sc_l_syms : FnScope ["jar", "many", "kept", "made", "k", "word", "turn", "w", "n"] ["jar", "many", "kept"] (defScope (top 39)) := ⟨rfl, rfl, rfl, by decide +kernel, rfl, by decide +kernel, by decide +kernel⟩
theorem ok_l_syms (T : Txt K mg A) (G_l_draw : FnAt P w K mg base 1 "_law_draw" S_l_draw) (G_l_pick : FnAt P w K mg base 2 "_law_pick" S_l_pick) (G_l_words : FnAt P w K mg base 1 "_law_words" S_l_words) : FnAt P w K mg base 4 "_law_syms" S_l_syms := by
  refine fnAt_of T.F_l_syms sc_l_syms (fun ds M q h => by first | (obtain ⟨e, _⟩ := h; rw [e]; rfl) | (obtain ⟨_, e, _⟩ := h; rw [e]; rfl) | (obtain ⟨_, _, e, _⟩ := h; rw [e]; rfl) | (obtain ⟨_, _, _, e, _⟩ := h; rw [e]; rfl) | (obtain ⟨_, _, _, _, e, _⟩ := h; rw [e]; rfl) | (obtain ⟨_, _, _, _, _, e, _⟩ := h; rw [e]; rfl) | (obtain ⟨_, _, _, _, _, _, e, _⟩ := h; rw [e]; rfl) | (obtain ⟨_, _, _, _, _, _, _, e, _⟩ := h; rw [e]; rfl) | (obtain ⟨_, _, _, _, _, _, _, _, e, _⟩ := h; rw [e]; rfl) | (obtain ⟨_, _, _, _, _, _, _, _, _, e, _⟩ := h; rw [e]; rfl) | (obtain ⟨_, _, _, _, _, _, _, _, _, _, e, _⟩ := h; rw [e]; rfl) | (obtain ⟨_, _, _, _, _, _, _, _, _, _, _, e, _⟩ := h; rw [e]; rfl)) ?_
  intro f cdv A' outer s H E hr
  have S := sc_l_syms
  have hu := hr.units
  have hu1 := Nat.lt_of_le_of_lt (Nat.add_le_add_left (by decide : 1 ≤ 64) _) hu
  refine ⟨_, _, (pdb_cons (pds_set (i := 3) S.nd rfl (Or.inr rfl) (pd_lsP rfl rfl T.n_list (pd_var 2)))
      (pdb_cons (pds_for PassesOwn.never rfl (pi_r1 rfl T.n_range (pda_cons (pd_var 1) pda_nil)) (pdg_name (i := 4) S.nd rfl (Or.inl rfl)) (pdb_cons (pds_set (i := 5) S.nd rfl (Or.inl rfl) (pd_ix pd_str (pd_call G_l_draw (hr.mono (by omega)) rfl (pda_cons (pd_var 0) (pda_cons pd_int pda_nil))) fun _ _ => rfl))
      (pdb_cut (pds_for PassesOwn.never rfl (pi_r1 rfl T.n_range (pda_cons (pd_call G_l_pick (hr.mono (by omega)) rfl (pda_cons (pd_var 0) (pda_cons (pd_lst (pda_cons pd_int (pda_cons pd_int (pda_cons pd_int (pda_cons pd_int (pda_cons pd_int (pda_cons pd_int (pda_cons pd_int (pda_cons pd_int (pda_cons pd_int pda_nil)))))))))) pda_nil))) pda_nil)) (pdg_name (i := 6) S.nd rfl (Or.inl rfl)) (pdb_one (pds_set (i := 5) S.nd rfl (Or.inl rfl) (pd_op po_add (pd_var 5) (pd_ix pd_str (pd_call G_l_draw (hr.mono (by omega)) rfl (pda_cons (pd_var 0) (pda_cons pd_int pda_nil))) fun _ _ => rfl)))))
      (pdb_cut (pds_if (pdt_cmp po_in (pd_var 5) (pd_call0 G_l_words (hr.mono (by omega)) rfl) (by with_unfolding_all rfl)) (pdb_one (pds_set (i := 5) S.nd rfl (Or.inl rfl) (pd_op po_add (pd_sl (pd_var 5) pdo_none (pdo_some pd_int)) pd_str))) pdb_nil)
      (pdb_cut (pds_if (pdt_cmp po_in (pd_var 5) (pd_var 3) (by with_unfolding_all rfl)) (pdb_one (pds_set (i := 5) S.nd rfl (Or.inl rfl) (pd_ix (pd_lc (own := [("w", 7)]) rfl S.nd (pi_l (pd_lc (own := [("n", 8)]) rfl S.nd (pi_r1 rfl T.n_range (pda_cons pd_int pda_nil)) (blkOk_by (N := ["jar", "many", "kept", "made", "k", "word", "turn", "w", "n"]) (sc := (defScope (top 39))) (by decide +kernel)) (fun _ _ _ _ _ => (pg_name (i := 8) S.nd rfl (Or.inl rfl))) pdgc_1 (fun _ _ _ _ _ => blkT pdts_nil (by first | dsimp only | exact rfl) (by first | dsimp only | exact rfl)) fun _ _ _ _ _ => blkE (pd_op po_add (pd_op po_add pd_str (pd_callTy pc_str rfl T.n_str (by decide +kernel) (pda_cons (pd_var 8) pda_nil))) pd_str) (by first | dsimp only | exact rfl) (by first | dsimp only | exact rfl))) (blkOk_by (N := ["jar", "many", "kept", "made", "k", "word", "turn", "w", "n"]) (sc := (defScope (top 39))) (by decide +kernel)) (fun _ _ _ _ _ => (pg_name (i := 7) S.nd rfl (Or.inl rfl))) pdgc_1 (fun _ _ _ _ _ => blkT (pdts_one (pdt_cmp po_nin (pd_var 7) (pd_var 3) (by with_unfolding_all rfl))) (by first | dsimp only | exact rfl) (by first | dsimp only | exact rfl)) fun _ _ _ _ _ => blkE (pd_var 7) (by first | dsimp only | exact rfl) (by first | dsimp only | exact rfl)) pd_int fun _ _ => rfl))) pdb_nil)
      (pdb_one (pds_expr (pd_app (pd_var 3) (pd_var 5)))))))))
      (pdb_one (pds_ret (pd_sl (pd_var 3) (pdo_some (pd_callB pc_len rfl T.n_len (by decide +kernel) (pda_cons (pd_var 2) pda_nil))) pdo_none))))), fun ds M q h => ?_⟩
  obtain ⟨a, many, js, rfl, hm, hj, h0, h10, hq⟩ := h
  walk_at "w"
  intro p hp
  have hpa : p ≠ a := ne_of_mem hm hp
  walk_at "a"
  refine ⟨by omega, by omega, ?_⟩
  refine for_by (fun ds Γ M' => ∃ ns js v1 v2 v3 v4 v5, Γ = [some (.ptr a), some (.int many), some (.lst []), some (.ptr p), v1, v2, v3, v4, v5] ∧ JarL js ∧ M' = (M.put a (.lst js)).put p (.lst (ns.map .str)) ∧ ns.length + ds.length = many.toNat ∧ (∀ x ∈ ns, nameB x = true) ∧ ns.Nodup) ?_ ?_ _ _ _ ⟨[], js, _, _, _, _, _, rfl, hj, by rw [Mem.put_self hm]; rfl, by simp [nums], fun x hx => (nomatch hx), List.nodup_nil⟩
  · rintro Γ M' ⟨ns, js, v1, v2, v3, v4, v5, rfl, hj, rfl, hl, hn, hd⟩
    walk_at "w"
    have e : cutD (List.map D.str ns) (some ((List.length ([] : List D) : Nat) : Int)) none = List.map D.str ns := cut_all _
    rw [e]
    exact .le (Mem.le_put (by rw [Mem.put_ne hpa]; exact hp)) (hq ns js (by simpa using hl) hn hd hj)
  · rintro d ds Γ M' ⟨ns, js, v1, v2, v3, v4, v5, rfl, hj, rfl, hl, hn, hd⟩ ih
    have hlen : ns.length < 10 := by simp only [List.length_cons] at hl; omega
    walk_at "w"
    refine ⟨a, 26, js, rfl, Mem.at2 hpa, hj, ⟨by decide, by decide +kernel⟩, fun r js2 r0 r1 hj2 => ?_⟩
    rw [Mem.put2 hpa]
    obtain ⟨c, hc, hin, _⟩ := atI_nat (xs := letsS.cps.toList) r0 (by show r < 26; exact r1)
    walk_at "w"
    refine ⟨by decide, ?_⟩
    rw [show atI (Str.ofString "abcdefghijklmnopqrstuvwxyz").cps.toList r = some c from hc]
    walk_at "w"
    refine ⟨fun Γ M' => ∃ w js v1 v2 v3, Γ = [some (.ptr a), some (.int many), some (.lst []), some (.ptr p), some d, some (.str w), v1, v2, v3] ∧ JarL js ∧ M' = (M.put a (.lst js)).put p (.lst (ns.map .str)) ∧ Half w 8, ?_, ?_⟩
    · walk_at "w"
      refine ⟨by show 9 ≤ sizeLine; decide, ?_⟩
      walk_at "w"
      refine ⟨a, js2, _, rfl, Mem.at2 hpa, hj2, by decide, by show 9 ≤ sizeLine; decide, fun r js3 hr hj3 => ?_⟩
      rw [Mem.put2 hpa]
      obtain ⟨k, rfl, hk⟩ : ∃ k : Nat, r = .int k ∧ k ≤ 7 := by
        simp only [List.mem_cons, List.not_mem_nil, or_false] at hr
        rcases hr with rfl | rfl | rfl | rfl | rfl | rfl | rfl | rfl | rfl
        · exact ⟨0, rfl, by decide⟩
        · exact ⟨0, rfl, by decide⟩
        · exact ⟨0, rfl, by decide⟩
        · exact ⟨0, rfl, by decide⟩
        · exact ⟨1, rfl, by decide⟩
        · exact ⟨1, rfl, by decide⟩
        · exact ⟨2, rfl, by decide⟩
        · exact ⟨4, rfl, by decide⟩
        · exact ⟨7, rfl, by decide⟩
      walk_at "w"
      refine ⟨by omega, by omega, ?_⟩
      refine for_by (fun ds Γ M' => ∃ w js v1 v2 v3, Γ = [some (.ptr a), some (.int many), some (.lst []), some (.ptr p), some d, some (.str w), v1, v2, v3] ∧ JarL js ∧ M' = (M.put a (.lst js)).put p (.lst (ns.map .str)) ∧ Half w (8 - ds.length) ∧ ds.length ≤ 7) ?_ ?_ _ _ _ ⟨_, js3, _, _, _, rfl, hj3, rfl, ?_, ?_⟩
      · rintro Γ M' ⟨w, js, v1, v2, v3, rfl, hj, rfl, hw, _⟩
        exact ⟨w, js, v1, v2, v3, rfl, hj, rfl, hw⟩
      · rintro d ds Γ M' ⟨w, js, v1, v2, v3, rfl, hj, rfl, hw, hds⟩ ih
        simp only [List.length_cons] at hw hds
        walk_at "w"
        refine ⟨a, 36, js, rfl, Mem.at2 hpa, hj, ⟨by decide, by decide +kernel⟩, fun r js2 r0 r1 hj2 => ?_⟩
        rw [Mem.put2 hpa]
        obtain ⟨c, hc, hin, _⟩ := atI_nat (xs := sgnsS.cps.toList) r0 (by show r < 36; exact r1)
        walk_at "w"
        refine ⟨by decide, ?_⟩
        rw [show atI (Str.ofString "abcdefghijklmnopqrstuvwxyz0123456789").cps.toList r = some c from hc]
        walk_at "w"
        refine ⟨by have := hw.len; show _ + 1 ≤ sizeLine; unfold sizeLine; omega, ?_⟩
        walk_at "w"
        refine ih _ _ ⟨_, js2, _, _, _, rfl, hj2, rfl, ?_, by omega⟩
        have := half_more hw hin
        rw [show 8 - (ds.length + 1) + 1 = 8 - ds.length from by omega] at this
        exact this
      · have : (nums 0 (Int.toNat k)).length = k := by simp [nums]
        rw [this]
        have h1 := half_one hin
        exact ⟨by have := h1.len; omega, h1.hd, h1.al⟩
      · have : (nums 0 (Int.toNat k)).length = k := by simp [nums]
        rw [this]
        exact hk
    · rintro Γ M1 ⟨w, js, v1, v2, v3, rfl, hj, rfl, hw⟩
      walk_at "w"
      refine ⟨fun Γ M' => ∃ w, Γ = [some (.ptr a), some (.int many), some (.lst []), some (.ptr p), some d, some (.str w), v1, v2, v3] ∧ M' = (M.put a (.lst js)).put p (.lst (ns.map .str)) ∧ nameB w = true, ?_, ?_⟩
      · walk_at "w"
        refine ⟨rfl, ?_⟩
        walk_at "w"
        refine ⟨rfl, flat_strs _, ?_⟩
        rw [inD_str]
        refine wite_of (fun z => ?_) fun z => ?_
        · walk_at "w"
          refine ⟨by have := hw.len; unfold sizeLine; omega, ?_⟩
          walk_at "w"
          have hin : w ∈ wordsS := by simpa using z
          refine ⟨?_, ?_⟩
          · have hcl := (show ∀ w ∈ wordsS, (cutS w none (some 7)).length ≤ 7 from by decide +kernel) w hin
            show _ + 1 ≤ sizeLine
            unfold sizeLine
            omega
          · exact ⟨_, rfl, rfl, cut_name w hin⟩
        · exact ⟨w, rfl, rfl, half_name hw z⟩
      · rintro Γ M1 ⟨w, rfl, rfl, hw⟩
        walk_at "w"
        refine ⟨fun Γ M' => ∃ w v2 v3, Γ = [some (.ptr a), some (.int many), some (.lst []), some (.ptr p), some d, some (.str w), v1, v2, v3] ∧ M' = (M.put a (.lst js)).put p (.lst (ns.map .str)) ∧ nameB w = true ∧ w ∉ ns, ?_, ?_⟩
        · walk_at "w"
          refine ⟨rfl, flat_strs _, ?_⟩
          rw [inD_str]
          refine wite_of (fun z => ?_) fun z => ⟨w, _, _, rfl, rfl, hw, by simpa using z⟩
          walk_at "w"
          refine ⟨by decide, by decide, ?_⟩
          refine ⟨by decide, fun p1 hp1 => ?_⟩
          have hp1p : p1 ≠ p := fun e => by rw [e, Mem.put_same] at hp1; cases hp1
          refine lc_fm (fnum vwS) (fun d => ∃ k : Nat, d = .int k ∧ k < 40) hp1 (fun d hd => nums_nat hd) ?_ ?_
          · rw [fm_num]
            show _ ∧ _
            refine ⟨by decide, fun p2 hp2 => ?_⟩
            have hp2p : p2 ≠ p := fun e => by rw [e, Mem.put_same] at hp2; cases hp2
            refine lc_fm (fstr fun w => !ns.contains w) (fun d => ∃ x, d = .str x) hp2 (fun d hd => ?_) ?_ ?_
            · obtain ⟨x, _, rfl⟩ := List.mem_map.mp hd
              exact ⟨x, rfl⟩
            · rw [fm_str]
              obtain ⟨x, r, e, hx, hn⟩ := one_free vws_nodup (ns := ns) (by show _ < 40; omega)
              have e2 : List.map D.str (List.filter (fun w => !ns.contains w) (List.map (fun k : Nat => vwS k) (List.range (Int.toNat 40)))) = .str x :: r.map .str := by
                show List.map D.str (List.filter (fun w => !ns.contains w) vws) = _
                rw [e]
                rfl
              rw [e2]
              walk_at "w"
              exact ⟨x, _, _, rfl, rfl, vws_name _ hx, hn⟩
            · rintro d ds acc ⟨x, rfl⟩ h1 h2
              walk_at "w"
              rw [seqD_ptr (by rw [Mem.put_ne (Ne.symm hp2p), Mem.put_same])]
              refine ⟨rfl, flat_strs _, ?_⟩
              walk_at "w"
              rw [inD_str]
              refine wite_of (fun z => ?_) fun z => ?_
              · walk_at "w"
                exact h1 _ (by simp only [fstr, z, if_true])
              · exact h2 (by simp only [fstr, z]; rfl)
          · rintro d ds acc ⟨k, rfl, hk⟩ h1 h2
            walk_at "w"
            refine ⟨Nat.lt_trans (log_small (by omega) (by omega)) (by decide), ?_⟩
            walk_at "w"
            have hl := num_len k hk
            refine ⟨by show 1 + _ ≤ sizeLine; unfold sizeLine; omega, ?_⟩
            walk_at "w"
            refine ⟨by rw [str_len_app]; show 1 + _ + 1 ≤ sizeLine; unfold sizeLine; omega, ?_⟩
            walk_at "w"
            exact h1 _ rfl
        · rintro Γ M1 ⟨w, v2, v3, rfl, rfl, hw, hwn⟩
          walk_at "w"
          refine ⟨⟨_, rfl⟩, ?_⟩
          walk_at "w"
          refine ⟨by rw [List.length_map]; unfold sizeLine; omega, ?_⟩
          rw [Mem.put_put]
          refine ih _ _ ⟨ns ++ [w], js, _, _, _, _, _, rfl, hj, by rw [List.map_append]; rfl, by simp only [List.length_append, List.length_cons, List.length_nil] at hl ⊢; omega, fun x hx => ?_, ?_⟩
          · rcases List.mem_append.mp hx with h | h
            · exact hn x h
            · rw [List.mem_singleton.mp h]; exact hw
          · rw [List.nodup_append]
            exact ⟨hd, List.nodup_cons.mpr ⟨List.not_mem_nil, List.nodup_nil⟩, fun x hx y hy e => hwn (by rw [← List.mem_singleton.mp hy, ← e]; exact hx)⟩
end
end D2

set_option maxRecDepth 100000
set_option maxHeartbeats 2000000
set_option pp.maxSteps 400
set_option pp.deepTerms false
namespace D2
open PySem PySem.Spec PyProof.Rows L2
local macro_rules | `(tactic| walk_at "wp") => `(tactic| conv => whnf)
local macro_rules | `(tactic| walk_at "w") => `(tactic| (conv => whnf) <;> repeat ((first | rw [seqD_ptr Mem.put_same] | rw [atI_zero] | rw [lstD_ptr Mem.put_same] | rw [dctD_ptr Mem.put_same] | rw [objD_ptr Mem.put_same] | rw [Mem.put_same]); conv => whnf))
local macro_rules | `(tactic| walk_at "v") => `(tactic| (conv => whnf) <;> repeat ((first | rw [seqD_ptr Mem.put_same] | rw [atI_zero] | rw [Mem.put_same] | rw [seqD_ptr (Mem.at2 (by assumption))] | rw [Mem.at2 (by assumption)]); conv => whnf))
local macro_rules | `(tactic| walk_at "a") => `(tactic| (walk_at "w") <;> repeat (refine ⟨(by first | exact mulR ⟨by omega, by omega⟩ | exact mulL ⟨by omega, by omega⟩ | (show (0 : Int) < _; omega) | exact ⟨by omega, by decide +kernel⟩ | exact ⟨by decide, by decide, by decide⟩), ?_⟩ <;> walk_at "w"))
local macro_rules | `(tactic| walk_at "i") => `(tactic| ((walk_at "w") <;> (refine ⟨trivial, by first | exact .inl rfl | exact .inr (.inl rfl) | exact .inr (.inr (.inl rfl)) | exact .inr (.inr (.inr (.inl rfl))) | exact .inr (.inr (.inr (.inr (.inl rfl)))), ?_⟩)))
section
variable {P : Program} {w : World} {K : W.Frag} {mg : Str → Option Value} {base : Heap} {A : Ad}
theorem sc_l_shown : FnScope ["tree", "least", "sort", "level", "said"] ["tree", "least"] (defScope (top 46)) := ⟨rfl, rfl, rfl, by decide +kernel, rfl, by decide +kernel, by decide +kernel⟩
theorem ok_l_shown (T : Txt K mg A) (n : Nat) : FnAt P w K mg base (n + 0) "_law_shown" (S_l_shown n) := by
  induction n with
  | zero => exact fnAt_no T.F_l_shown (fun ds M q h => by obtain ⟨_,_,_,h,_⟩ := h; omega)
  | succ n ih =>
    have G_l_shown := ih
    refine fnAt_of T.F_l_shown sc_l_shown (fun ds M q h => by first | (obtain ⟨e, _⟩ := h; rw [e]; rfl) | (obtain ⟨_, e, _⟩ := h; rw [e]; rfl) | (obtain ⟨_, _, e, _⟩ := h; rw [e]; rfl) | (obtain ⟨_, _, _, e, _⟩ := h; rw [e]; rfl) | (obtain ⟨_, _, _, _, e, _⟩ := h; rw [e]; rfl) | (obtain ⟨_, _, _, _, _, e, _⟩ := h; rw [e]; rfl) | (obtain ⟨_, _, _, _, _, _, e, _⟩ := h; rw [e]; rfl) | (obtain ⟨_, _, _, _, _, _, _, e, _⟩ := h; rw [e]; rfl) | (obtain ⟨_, _, _, _, _, _, _, _, e, _⟩ := h; rw [e]; rfl) | (obtain ⟨_, _, _, _, _, _, _, _, _, e, _⟩ := h; rw [e]; rfl) | (obtain ⟨_, _, _, _, _, _, _, _, _, _, e, _⟩ := h; rw [e]; rfl) | (obtain ⟨_, _, _, _, _, _, _, _, _, _, _, e, _⟩ := h; rw [e]; rfl)) ?_
    intro f cdv A' outer s H E hr
    have S := sc_l_shown
    have hu := hr.units
    have hu1 := Nat.lt_of_le_of_lt (Nat.add_le_add_left (by decide : 1 ≤ 64) _) hu
    refine ⟨_, _, (pdb_cons (pds_set (i := 2) S.nd rfl (Or.inl rfl) (pd_ix (pd_var 0) pd_int fun _ _ => rfl))
      (pdb_cons (pds_if (pdt_cmp (po_eq hu) (pd_var 2) pd_str (nomark _)) (pdb_one (pds_ret (pd_callTy pc_str rfl T.n_str (by decide +kernel) (pda_cons (pd_ix (pd_var 0) pd_int fun _ _ => rfl) pda_nil)))) pdb_nil)
      (pdb_cons (pds_if (pdt_cmp (po_eq hu) (pd_var 2) pd_str (nomark _)) (pdb_one (pds_ret (pd_ix (pd_var 0) pd_int fun _ _ => rfl))) pdb_nil)
      (pdb_cons (pds_if (pdt_cmp (po_eq hu) (pd_var 2) pd_str (nomark _)) (pdb_one (pds_ret pd_str)) pdb_nil)
      (pdb_cons (pds_if (pdt_cmp (po_eq hu) (pd_var 2) pd_str (nomark _)) (pdb_one (pds_ret (pd_op po_add (pd_op po_add pd_str (pd_call G_l_shown hr rfl (pda_cons (pd_ix (pd_var 0) pd_int fun _ _ => rfl) (pda_cons pd_int pda_nil)))) pd_str))) pdb_nil)
      (pdb_cons (pds_if (pdt_cmp (po_eq hu) (pd_var 2) pd_str (nomark _)) (pdb_cons (pds_set (i := 3) S.nd rfl (Or.inl rfl) pd_int)
      (pdb_one (pds_set (i := 4) S.nd rfl (Or.inl rfl) (pd_op po_add (pd_op po_add (pd_call G_l_shown hr rfl (pda_cons (pd_ix (pd_var 0) pd_int fun _ _ => rfl) (pda_cons pd_int pda_nil))) pd_str) (pd_callTy pc_str rfl T.n_str (by decide +kernel) (pda_cons (pd_ix (pd_var 0) pd_int fun _ _ => rfl) pda_nil)))))) (pdb_one (pds_if (PDW.pdt (pdt_or (pdt_cmp (po_eq hu) (pd_var 2) pd_str (nomark _)) (pdt_or1 (pdt_cmp (po_eq hu) (pd_var 2) pd_str (nomark _))))) (pdb_cons (pds_set (i := 3) S.nd rfl (Or.inl rfl) pd_int)
      (pdb_one (pds_set (i := 4) S.nd rfl (Or.inl rfl) (pd_op po_add (pd_op po_add (pd_call G_l_shown hr rfl (pda_cons (pd_ix (pd_var 0) pd_int fun _ _ => rfl) (pda_cons pd_int pda_nil))) (pd_if (pdt_cmp (po_eq hu) (pd_var 2) pd_str (nomark _)) pd_str pd_str)) (pd_call G_l_shown hr rfl (pda_cons (pd_ix (pd_var 0) pd_int fun _ _ => rfl) (pda_cons pd_int pda_nil))))))) (pdb_one (pds_if (pdt_cmp (po_eq hu) (pd_var 2) pd_str (nomark _)) (pdb_cons (pds_set (i := 3) S.nd rfl (Or.inl rfl) pd_int)
      (pdb_one (pds_set (i := 4) S.nd rfl (Or.inl rfl) (pd_op po_add pd_str (pd_call G_l_shown hr rfl (pda_cons (pd_ix (pd_var 0) pd_int fun _ _ => rfl) (pda_cons pd_int pda_nil))))))) (pdb_cons (pds_set (i := 3) S.nd rfl (Or.inl rfl) pd_int)
      (pdb_one (pds_set (i := 4) S.nd rfl (Or.inl rfl) (pd_op po_add (pd_op po_add (pd_call G_l_shown hr rfl (pda_cons (pd_ix (pd_var 0) pd_int fun _ _ => rfl) (pda_cons pd_int pda_nil))) (pd_if (pdt_cmp (po_eq hu) (pd_var 2) pd_str (nomark _)) pd_str pd_str)) (pd_call G_l_shown hr rfl (pda_cons (pd_ix (pd_var 0) pd_int fun _ _ => rfl) (pda_cons pd_int pda_nil))))))))))))
      (pdb_one (pds_ret (pd_if (pdt_cmp po_lt (pd_var 3) (pd_var 1) (nomark _)) (pd_op po_add (pd_op po_add pd_str (pd_var 4)) pd_str) (pd_var 4)))))))))), fun ds M q h => ?_⟩
    obtain ⟨t, l, rfl, hd, ⟨ok, h16⟩, hq⟩ := h
    have hz := shown_le (l := l) ok h16
    have fin : ∀ (s : Str), shownT t l = s → Rt q (.str s) M := fun s e => .of (by rw [← e]; exact hq)
    cases t with
    | num n =>
      walk_at "w"
      exact ⟨log40 ok.1 ok.2, fin _ rfl⟩
    | name x => walk_at "w"; exact fin _ rfl
    | im => walk_at "w"; exact fin _ rfl
    | root t =>
      simp only [Tr.deep] at hd h16
      have h1 := shown_le (t := t) (l := 1) ok (by omega)
      walk_at "w"
      refine ⟨t, 1, rfl, by omega, ⟨ok, by omega⟩, ?_⟩
      walk_at "w"
      refine ⟨by show 5 + _ ≤ sizeLine; unfold sizeLine; omega, ?_⟩
      walk_at "w"
      refine ⟨by rw [str_len_app]; show 5 + _ + 1 ≤ sizeLine; unfold sizeLine; omega, ?_⟩
      exact fin _ rfl
    | pow t e =>
      simp only [Tr.deep] at hd h16
      have h1 := shown_le (t := t) (l := 4) ok.1 (by omega)
      have h2 := num_len3 ok.2.1 ok.2.2
      walk_at "w"
      refine ⟨t, 4, rfl, by omega, ⟨ok.1, by omega⟩, ?_⟩
      walk_at "w"
      refine ⟨by show _ + 1 ≤ sizeLine; unfold sizeLine; omega, ?_⟩
      walk_at "w"
      refine ⟨log40 ok.2.1 (by have := ok.2.2; omega), ?_⟩
      walk_at "w"
      refine ⟨by rw [str_len_app]; show _ + 1 + _ ≤ sizeLine; unfold sizeLine; omega, ?_⟩
      walk_at "w"
      refine wite_d (fun z => ?_) fun z => ?_
      · walk_at "w"
        refine ⟨by rw [str_len_app, str_len_app]; show 1 + (_ + 1 + _) ≤ sizeLine; unfold sizeLine; omega, ?_⟩
        walk_at "w"
        refine ⟨by rw [str_len_app, str_len_app, str_len_app]; show 1 + (_ + 1 + _) + 1 ≤ sizeLine; unfold sizeLine; omega, ?_⟩
        exact fin _ (by exact brk_t (decide_eq_true (by simpa using z)))
      · walk_at "w"
        exact fin _ (by exact brk_f (decide_eq_false (by simpa using z)))
    | neg t =>
      simp only [Tr.deep] at hd h16
      have h1 := shown_le (t := t) (l := 2) ok (by omega)
      walk_at "w"
      refine ⟨t, 2, rfl, by omega, ⟨ok, by omega⟩, ?_⟩
      walk_at "w"
      refine ⟨by show 1 + _ ≤ sizeLine; unfold sizeLine; omega, ?_⟩
      walk_at "w"
      refine wite_d (fun z => ?_) fun z => ?_
      · walk_at "w"
        refine ⟨by rw [str_len_app]; show 1 + (1 + _) ≤ sizeLine; unfold sizeLine; omega, ?_⟩
        walk_at "w"
        refine ⟨by rw [str_len_app, str_len_app]; show 1 + (1 + _) + 1 ≤ sizeLine; unfold sizeLine; omega, ?_⟩
        exact fin _ (by exact brk_t (decide_eq_true (by simpa using z)))
      · walk_at "w"
        exact fin _ (by exact brk_f (decide_eq_false (by simpa using z)))
    | bin o a b =>
      simp only [Tr.deep] at hd h16
      have h1 := shown_le (t := a) (l := o.lvl) ok.1 (by omega)
      have h2 := shown_le (t := b) (l := o.lvl + 1) ok.2 (by omega)
      have fin1 : ∀ z : o.lvl < l, ∀ s, s = ("(" : Str) ++ (shownT a o.lvl ++ o.sgn ++ shownT b (o.lvl + 1)) ++ (")" : Str) → Rt q (.str s) M := fun z s e => fin _ (by rw [e]; exact brk_t (decide_eq_true (by simpa using z)))
      have fin2 : ∀ z : ¬ o.lvl < l, ∀ s, s = shownT a o.lvl ++ o.sgn ++ shownT b (o.lvl + 1) → Rt q (.str s) M := fun z s e => fin _ (by rw [e]; exact brk_f (decide_eq_false (by simpa using z)))
      cases o with
      | add =>
        have g1 : (shownT a 1).length ≤ 6400000 := h1
        have g2 : (shownT b 2).length ≤ 6400000 := h2
        walk_at "w"
        refine ⟨a, 1, rfl, by omega, ⟨ok.1, by omega⟩, ?_⟩
        walk_at "w"
        refine ⟨by show _ + 3 ≤ sizeLine; unfold sizeLine; omega, ?_⟩
        walk_at "w"
        refine ⟨b, 2, rfl, by omega, ⟨ok.2, by omega⟩, ?_⟩
        walk_at "w"
        refine ⟨by rw [str_len_app]; show _ + 3 + _ ≤ sizeLine; unfold sizeLine; omega, ?_⟩
        walk_at "w"
        refine wite_d (fun z => ?_) fun z => ?_
        · walk_at "w"
          refine ⟨by rw [str_len_app, str_len_app]; show 1 + (_ + 3 + _) ≤ sizeLine; unfold sizeLine; omega, ?_⟩
          walk_at "w"
          refine ⟨by rw [str_len_app, str_len_app, str_len_app]; show 1 + (_ + 3 + _) + 1 ≤ sizeLine; unfold sizeLine; omega, ?_⟩
          exact fin1 z _ rfl
        · walk_at "w"
          exact fin2 z _ rfl
      | sub =>
        have g1 : (shownT a 1).length ≤ 6400000 := h1
        have g2 : (shownT b 2).length ≤ 6400000 := h2
        walk_at "w"
        refine ⟨a, 1, rfl, by omega, ⟨ok.1, by omega⟩, ?_⟩
        walk_at "w"
        refine ⟨by show _ + 3 ≤ sizeLine; unfold sizeLine; omega, ?_⟩
        walk_at "w"
        refine ⟨b, 2, rfl, by omega, ⟨ok.2, by omega⟩, ?_⟩
        walk_at "w"
        refine ⟨by rw [str_len_app]; show _ + 3 + _ ≤ sizeLine; unfold sizeLine; omega, ?_⟩
        walk_at "w"
        refine wite_d (fun z => ?_) fun z => ?_
        · walk_at "w"
          refine ⟨by rw [str_len_app, str_len_app]; show 1 + (_ + 3 + _) ≤ sizeLine; unfold sizeLine; omega, ?_⟩
          walk_at "w"
          refine ⟨by rw [str_len_app, str_len_app, str_len_app]; show 1 + (_ + 3 + _) + 1 ≤ sizeLine; unfold sizeLine; omega, ?_⟩
          exact fin1 z _ rfl
        · walk_at "w"
          exact fin2 z _ rfl
      | mul =>
        have g1 : (shownT a 2).length ≤ 6400000 := h1
        have g2 : (shownT b 3).length ≤ 6400000 := h2
        walk_at "w"
        refine ⟨a, 2, rfl, by omega, ⟨ok.1, by omega⟩, ?_⟩
        walk_at "w"
        refine ⟨by show _ + 1 ≤ sizeLine; unfold sizeLine; omega, ?_⟩
        walk_at "w"
        refine ⟨b, 3, rfl, by omega, ⟨ok.2, by omega⟩, ?_⟩
        walk_at "w"
        refine ⟨by rw [str_len_app]; show _ + 1 + _ ≤ sizeLine; unfold sizeLine; omega, ?_⟩
        walk_at "w"
        refine wite_d (fun z => ?_) fun z => ?_
        · walk_at "w"
          refine ⟨by rw [str_len_app, str_len_app]; show 1 + (_ + 1 + _) ≤ sizeLine; unfold sizeLine; omega, ?_⟩
          walk_at "w"
          refine ⟨by rw [str_len_app, str_len_app, str_len_app]; show 1 + (_ + 1 + _) + 1 ≤ sizeLine; unfold sizeLine; omega, ?_⟩
          exact fin1 z _ rfl
        · walk_at "w"
          exact fin2 z _ rfl
      | div =>
        have g1 : (shownT a 2).length ≤ 6400000 := h1
        have g2 : (shownT b 3).length ≤ 6400000 := h2
        walk_at "w"
        refine ⟨a, 2, rfl, by omega, ⟨ok.1, by omega⟩, ?_⟩
        walk_at "w"
        refine ⟨by show _ + 1 ≤ sizeLine; unfold sizeLine; omega, ?_⟩
        walk_at "w"
        refine ⟨b, 3, rfl, by omega, ⟨ok.2, by omega⟩, ?_⟩
        walk_at "w"
        refine ⟨by rw [str_len_app]; show _ + 1 + _ ≤ sizeLine; unfold sizeLine; omega, ?_⟩
        walk_at "w"
        refine wite_d (fun z => ?_) fun z => ?_
        · walk_at "w"
          refine ⟨by rw [str_len_app, str_len_app]; show 1 + (_ + 1 + _) ≤ sizeLine; unfold sizeLine; omega, ?_⟩
          walk_at "w"
          refine ⟨by rw [str_len_app, str_len_app, str_len_app]; show 1 + (_ + 1 + _) + 1 ≤ sizeLine; unfold sizeLine; omega, ?_⟩
          exact fin1 z _ rfl
        · walk_at "w"
          exact fin2 z _ rfl
theorem sc_l_steps : FnScope ["tree", "sort", "signs"] ["tree"] (defScope (top 53)) := ⟨rfl, rfl, rfl, by decide +kernel, rfl, by decide +kernel, by decide +kernel⟩
theorem ok_l_steps (T : Txt K mg A) (n : Nat) : FnAt P w K mg base (n + 0) "_law_steps" (S_l_steps n) := by
  induction n with
  | zero => exact fnAt_no T.F_l_steps (fun ds M q h => by obtain ⟨_,_,h,_⟩ := h; omega)
  | succ n ih =>
    have G_l_steps := ih
    refine fnAt_of T.F_l_steps sc_l_steps (fun ds M q h => by first | (obtain ⟨e, _⟩ := h; rw [e]; rfl) | (obtain ⟨_, e, _⟩ := h; rw [e]; rfl) | (obtain ⟨_, _, e, _⟩ := h; rw [e]; rfl) | (obtain ⟨_, _, _, e, _⟩ := h; rw [e]; rfl) | (obtain ⟨_, _, _, _, e, _⟩ := h; rw [e]; rfl) | (obtain ⟨_, _, _, _, _, e, _⟩ := h; rw [e]; rfl) | (obtain ⟨_, _, _, _, _, _, e, _⟩ := h; rw [e]; rfl) | (obtain ⟨_, _, _, _, _, _, _, e, _⟩ := h; rw [e]; rfl) | (obtain ⟨_, _, _, _, _, _, _, _, e, _⟩ := h; rw [e]; rfl) | (obtain ⟨_, _, _, _, _, _, _, _, _, e, _⟩ := h; rw [e]; rfl) | (obtain ⟨_, _, _, _, _, _, _, _, _, _, e, _⟩ := h; rw [e]; rfl) | (obtain ⟨_, _, _, _, _, _, _, _, _, _, _, e, _⟩ := h; rw [e]; rfl)) ?_
    intro f cdv A' outer s H E hr
    have S := sc_l_steps
    have hu := hr.units
    have hu1 := Nat.lt_of_le_of_lt (Nat.add_le_add_left (by decide : 1 ≤ 64) _) hu
    refine ⟨_, _, (pdb_cons (pds_set (i := 1) S.nd rfl (Or.inl rfl) (pd_ix (pd_var 0) pd_int fun _ _ => rfl))
      (pdb_cons (pds_if (pdt_cmp (po_eq hu) (pd_var 1) pd_str (nomark _)) (pdb_one (pds_ret (pd_lst (pda_cons (pd_tup (pda_cons pd_str (pda_cons (pd_ix (pd_var 0) pd_int fun _ _ => rfl) pda_nil))) pda_nil)))) pdb_nil)
      (pdb_cons (pds_if (PDW.pdt (pdt_or (pdt_cmp (po_eq hu) (pd_var 1) pd_str (nomark _)) (pdt_or1 (pdt_cmp (po_eq hu) (pd_var 1) pd_str (nomark _))))) (pdb_one (pds_ret (pd_lst (pda_cons (pd_var 0) pda_nil)))) pdb_nil)
      (pdb_cons (pds_if (PDW.pdt (pdt_or (pdt_cmp (po_eq hu) (pd_var 1) pd_str (nomark _)) (pdt_or1 (pdt_cmp (po_eq hu) (pd_var 1) pd_str (nomark _))))) (pdb_one (pds_ret (pd_op po_add (pd_call G_l_steps hr rfl (pda_cons (pd_ix (pd_var 0) pd_int fun _ _ => rfl) pda_nil)) (pd_lst (pda_cons (pd_tup (pda_cons (pd_var 1) pda_nil)) pda_nil))))) pdb_nil)
      (pdb_cons (pds_if (pdt_cmp (po_eq hu) (pd_var 1) pd_str (nomark _)) (pdb_one (pds_ret (pd_op po_add (pd_call G_l_steps hr rfl (pda_cons (pd_ix (pd_var 0) pd_int fun _ _ => rfl) pda_nil)) (pd_lst (pda_cons (pd_tup (pda_cons pd_str (pda_cons (pd_ix (pd_var 0) pd_int fun _ _ => rfl) pda_nil))) pda_nil))))) pdb_nil)
      (pdb_cons (pds_set (i := 2) S.nd rfl (Or.inl rfl) (pd_disp (.cons (.inr "add") pd_str pd_str (.cons (.inr "sub") pd_str pd_str (.cons (.inr "mul") pd_str pd_str (.cons (.inr "div") pd_str pd_str .nil)))) rfl rfl (by decide) (by decide) (by decide)))
      (pdb_one (pds_ret (pd_op po_add (pd_op po_add (pd_call G_l_steps hr rfl (pda_cons (pd_ix (pd_var 0) pd_int fun _ _ => rfl) pda_nil)) (pd_call G_l_steps hr rfl (pda_cons (pd_ix (pd_var 0) pd_int fun _ _ => rfl) pda_nil))) (pd_lst (pda_cons (pd_tup (pda_cons (pd_dget hu1 (pd_var 2) (pd_var 1) fun _ _ => rfl) pda_nil)) pda_nil))))))))))), fun ds M q h => ?_⟩
    obtain ⟨t, rfl, hd, h16, hq⟩ := h
    have hz := sz_le h16
    have hl := steps_len t
    have one : ∀ s : Step, stepsT t = [s] → Rt q (.lst [encS s]) M := fun s e => .of (by rw [e] at hq; exact hq)
    have fin : ∀ x : D, x = .lst ((stepsT t).map encS) → Rt q x M := fun s e => .of (by rw [e]; exact hq)
    cases t with
    | num n => walk_at "w"; refine ⟨by show 2 ≤ sizeLine; decide, ?_⟩; walk_at "w"; refine ⟨by show 1 ≤ sizeLine; decide, ?_⟩; exact fin _ rfl
    | name n => walk_at "w"; refine ⟨by show 1 ≤ sizeLine; decide, ?_⟩; exact fin _ rfl
    | im => walk_at "w"; refine ⟨by show 1 ≤ sizeLine; decide, ?_⟩; exact fin _ rfl
    | root t =>
      simp only [Tr.deep] at hd h16
      have hl1 := steps_len t
      have hz1 : t.sz ≤ 131072 := sz_le (by omega)
      walk_at "w"
      refine ⟨t, rfl, by omega, by omega, ?_⟩
      walk_at "w"
      refine ⟨(Nat.le_of_ble_eq_true rfl : _ ≤ sizeLine), ?_⟩
      walk_at "w"
      refine ⟨(Nat.le_of_ble_eq_true rfl : _ ≤ sizeLine), ?_⟩
      walk_at "w"
      refine ⟨by rw [List.length_map]; show _ + 1 ≤ sizeLine; unfold sizeLine; omega, ?_⟩
      exact fin _ (by show _ = D.lst (List.map encS (stepsT t ++ [_])); rw [List.map_append]; rfl)
    | neg t =>
      simp only [Tr.deep] at hd h16
      have hl1 := steps_len t
      have hz1 : t.sz ≤ 131072 := sz_le (by omega)
      walk_at "w"
      refine ⟨t, rfl, by omega, by omega, ?_⟩
      walk_at "w"
      refine ⟨(Nat.le_of_ble_eq_true rfl : _ ≤ sizeLine), ?_⟩
      walk_at "w"
      refine ⟨(Nat.le_of_ble_eq_true rfl : _ ≤ sizeLine), ?_⟩
      walk_at "w"
      refine ⟨by rw [List.length_map]; show _ + 1 ≤ sizeLine; unfold sizeLine; omega, ?_⟩
      exact fin _ (by show _ = D.lst (List.map encS (stepsT t ++ [_])); rw [List.map_append]; rfl)
    | pow t e =>
      simp only [Tr.deep] at hd h16
      have hl1 := steps_len t
      have hz1 : t.sz ≤ 131072 := sz_le (by omega)
      walk_at "w"
      refine ⟨t, rfl, by omega, by omega, ?_⟩
      walk_at "w"
      refine ⟨(Nat.le_of_ble_eq_true rfl : _ ≤ sizeLine), ?_⟩
      walk_at "w"
      refine ⟨(Nat.le_of_ble_eq_true rfl : _ ≤ sizeLine), ?_⟩
      walk_at "w"
      refine ⟨by rw [List.length_map]; show _ + 1 ≤ sizeLine; unfold sizeLine; omega, ?_⟩
      exact fin _ (by show _ = D.lst (List.map encS (stepsT t ++ [_])); rw [List.map_append]; rfl)
    | bin o a b =>
      simp only [Tr.deep] at hd h16
      have hl1 := steps_len a
      have hz1 : a.sz ≤ 131072 := sz_le (by omega)
      have hl2 := steps_len b
      have hz2 : b.sz ≤ 131072 := sz_le (by omega)
      cases o with
      | add =>
        walk_at "w"
        refine ⟨a, rfl, by omega, by omega, ?_⟩
        walk_at "w"
        refine ⟨b, rfl, by omega, by omega, ?_⟩
        walk_at "w"
        refine ⟨by rw [List.length_map, List.length_map]; unfold sizeLine; omega, ?_⟩
        walk_at "w"
        refine ⟨(Nat.le_of_ble_eq_true rfl : _ ≤ sizeLine), ?_⟩
        walk_at "w"
        refine ⟨(Nat.le_of_ble_eq_true rfl : _ ≤ sizeLine), ?_⟩
        walk_at "w"
        refine ⟨by rw [List.length_append, List.length_map, List.length_map]; show _ + _ + 1 ≤ sizeLine; unfold sizeLine; omega, ?_⟩
        exact fin _ (by show _ = D.lst (List.map encS (stepsT a ++ stepsT b ++ [_])); rw [List.map_append, List.map_append]; rfl)
      | sub =>
        walk_at "w"
        refine ⟨a, rfl, by omega, by omega, ?_⟩
        walk_at "w"
        refine ⟨b, rfl, by omega, by omega, ?_⟩
        walk_at "w"
        refine ⟨by rw [List.length_map, List.length_map]; unfold sizeLine; omega, ?_⟩
        walk_at "w"
        refine ⟨(Nat.le_of_ble_eq_true rfl : _ ≤ sizeLine), ?_⟩
        walk_at "w"
        refine ⟨(Nat.le_of_ble_eq_true rfl : _ ≤ sizeLine), ?_⟩
        walk_at "w"
        refine ⟨by rw [List.length_append, List.length_map, List.length_map]; show _ + _ + 1 ≤ sizeLine; unfold sizeLine; omega, ?_⟩
        exact fin _ (by show _ = D.lst (List.map encS (stepsT a ++ stepsT b ++ [_])); rw [List.map_append, List.map_append]; rfl)
      | mul =>
        walk_at "w"
        refine ⟨a, rfl, by omega, by omega, ?_⟩
        walk_at "w"
        refine ⟨b, rfl, by omega, by omega, ?_⟩
        walk_at "w"
        refine ⟨by rw [List.length_map, List.length_map]; unfold sizeLine; omega, ?_⟩
        walk_at "w"
        refine ⟨(Nat.le_of_ble_eq_true rfl : _ ≤ sizeLine), ?_⟩
        walk_at "w"
        refine ⟨(Nat.le_of_ble_eq_true rfl : _ ≤ sizeLine), ?_⟩
        walk_at "w"
        refine ⟨by rw [List.length_append, List.length_map, List.length_map]; show _ + _ + 1 ≤ sizeLine; unfold sizeLine; omega, ?_⟩
        exact fin _ (by show _ = D.lst (List.map encS (stepsT a ++ stepsT b ++ [_])); rw [List.map_append, List.map_append]; rfl)
      | div =>
        walk_at "w"
        refine ⟨a, rfl, by omega, by omega, ?_⟩
        walk_at "w"
        refine ⟨b, rfl, by omega, by omega, ?_⟩
        walk_at "w"
        refine ⟨by rw [List.length_map, List.length_map]; unfold sizeLine; omega, ?_⟩
        walk_at "w"
        refine ⟨(Nat.le_of_ble_eq_true rfl : _ ≤ sizeLine), ?_⟩
        walk_at "w"
        refine ⟨(Nat.le_of_ble_eq_true rfl : _ ≤ sizeLine), ?_⟩
        walk_at "w"
        refine ⟨by rw [List.length_append, List.length_map, List.length_map]; show _ + _ + 1 ≤ sizeLine; unfold sizeLine; omega, ?_⟩
        exact fin _ (by show _ = D.lst (List.map encS (stepsT a ++ stepsT b ++ [_])); rw [List.map_append, List.map_append]; rfl)
theorem sc_l_names_of : FnScope ["tree", "made", "part", "s"] ["tree"] (defScope (top 50)) := ⟨rfl, rfl, rfl, by decide +kernel, rfl, by decide +kernel, by decide +kernel⟩
theorem ok_l_names_of (T : Txt K mg A) (n : Nat) : FnAt P w K mg base (n + 0) "_law_names_of" (S_l_names_of n) := by
  induction n with
  | zero => exact fnAt_no T.F_l_names_of (fun ds M q h => by obtain ⟨_,_,h,_⟩ := h; omega)
  | succ n ih =>
    have G_l_names_of := ih
    refine fnAt_of T.F_l_names_of sc_l_names_of (fun ds M q h => by first | (obtain ⟨e, _⟩ := h; rw [e]; rfl) | (obtain ⟨_, e, _⟩ := h; rw [e]; rfl) | (obtain ⟨_, _, e, _⟩ := h; rw [e]; rfl) | (obtain ⟨_, _, _, e, _⟩ := h; rw [e]; rfl) | (obtain ⟨_, _, _, _, e, _⟩ := h; rw [e]; rfl) | (obtain ⟨_, _, _, _, _, e, _⟩ := h; rw [e]; rfl) | (obtain ⟨_, _, _, _, _, _, e, _⟩ := h; rw [e]; rfl) | (obtain ⟨_, _, _, _, _, _, _, e, _⟩ := h; rw [e]; rfl) | (obtain ⟨_, _, _, _, _, _, _, _, e, _⟩ := h; rw [e]; rfl) | (obtain ⟨_, _, _, _, _, _, _, _, _, e, _⟩ := h; rw [e]; rfl) | (obtain ⟨_, _, _, _, _, _, _, _, _, _, e, _⟩ := h; rw [e]; rfl) | (obtain ⟨_, _, _, _, _, _, _, _, _, _, _, e, _⟩ := h; rw [e]; rfl)) ?_
    intro f cdv A' outer s H E hr
    have S := sc_l_names_of
    have hu := hr.units
    have hu1 := Nat.lt_of_le_of_lt (Nat.add_le_add_left (by decide : 1 ≤ 64) _) hu
    refine ⟨_, _, (pdb_cons (pds_if (pdt_cmp (po_eq hu) (pd_ix (pd_var 0) pd_int fun _ _ => rfl) pd_str (nomark _)) (pdb_one (pds_ret (pd_lst (pda_cons (pd_ix (pd_var 0) pd_int fun _ _ => rfl) pda_nil)))) pdb_nil)
      (pdb_cons (pds_set (i := 1) S.nd rfl (Or.inr rfl) (pd_lst pda_nil))
      (pdb_cons (pds_for PassesOwn.never rfl (pi_t (pd_sl (pd_var 0) (pdo_some pd_int) pdo_none)) (pdg_name (i := 2) S.nd rfl (Or.inl rfl)) (pdb_one (pds_if (pdt_val (pd_callB pc_isi rfl T.n_isinstance (by decide +kernel) (pda_cons (pd_var 2) (pda_cons (pd_ty "tuple" rfl T.n_tuple (by decide +kernel)) pda_nil)))) (pdb_one (pds_set (i := 1) S.nd rfl (Or.inr rfl) (pd_op po_add (pd_var 1) (pd_lc (own := [("s", 3)]) rfl S.nd (pi_l (pd_call G_l_names_of hr rfl (pda_cons (pd_var 2) pda_nil))) (blkOk_by (N := ["tree", "made", "part", "s"]) (sc := (defScope (top 50))) (by decide +kernel)) (fun _ _ _ _ _ => (pg_name (i := 3) S.nd rfl (Or.inl rfl))) pdgc_1 (fun _ _ _ _ _ => blkT (pdts_one (pdt_cmp po_nin (pd_var 3) (pd_var 1) (by with_unfolding_all rfl))) (by first | dsimp only | exact rfl) (by first | dsimp only | exact rfl)) fun _ _ _ _ _ => blkE (pd_var 3) (by first | dsimp only | exact rfl) (by first | dsimp only | exact rfl))))) pdb_nil)))
      (pdb_one (pds_ret (pd_var 1)))))), fun ds M q h => ?_⟩
    obtain ⟨t, rfl, hd, h16, hq⟩ := h
    have hz := sz_le h16
    have hl := names_len t
    have fin : ∀ x : D, x = .lst ((namesT t).map .str) → Rt q x M := fun s e => .of (by rw [e]; exact hq)
    cases t with
    | name n => walk_at "w"; refine ⟨by show 1 ≤ sizeLine; decide, ?_⟩; exact .of hq
    | num n =>
      walk_at "w"
      refine ⟨by show 0 ≤ sizeLine; decide, ?_⟩
      walk_at "w"
      refine ⟨fun z => absurd (show (1 : Nat) = 0 from z.1) (by decide), ?_⟩
      walk_at "i"
      walk_at "w"
      exact fin _ rfl
    | im =>
      walk_at "w"
      refine ⟨by show 0 ≤ sizeLine; decide, ?_⟩
      walk_at "w"
      refine ⟨fun z => absurd (show (1 : Nat) = 0 from z.1) (by decide), ?_⟩
      walk_at "w"
      exact fin _ rfl
    | root t =>
      simp only [Tr.deep] at hd h16
      have hz1 : t.sz ≤ 131072 := sz_le (by omega)
      have hl1 := names_len t
      obtain ⟨ds, e0⟩ := encT_tup t
      walk_at "w"
      refine ⟨by show 0 ≤ sizeLine; decide, ?_⟩
      walk_at "w"
      refine ⟨fun z => absurd (show (1 : Nat) = 0 from z.1) (by decide), ?_⟩
      walk_at "w"
      rw [e0]
      walk_at "i"
      walk_at "w"
      refine ⟨t, by rw [e0], by omega, by omega, ?_⟩
      walk_at "w"
      refine ⟨by rw [List.length_map]; unfold sizeLine; omega, fun p hp => ?_⟩
      refine lc_fm (fstr fun w => !([] : List Str).contains w) (fun d => ∃ x, d = .str x) hp (fun d hd => ?_) ?_ ?_
      · obtain ⟨x, _, rfl⟩ := List.mem_map.mp hd
        exact ⟨x, rfl⟩
      rotate_left
      · rintro d ds acc ⟨x, rfl⟩ h1 h2
        walk_at "w"
        refine ⟨rfl, rfl, ?_⟩
        walk_at "w"
        exact h1 _ rfl
      rw [fm_str, all_free]
      walk_at "w"
      refine ⟨by rw [List.length_map]; show 0 + _ ≤ sizeLine; unfold sizeLine; omega, ?_⟩
      walk_at "w"
      exact fin _ rfl
    | neg t =>
      simp only [Tr.deep] at hd h16
      have hz1 : t.sz ≤ 131072 := sz_le (by omega)
      have hl1 := names_len t
      obtain ⟨ds, e0⟩ := encT_tup t
      walk_at "w"
      refine ⟨by show 0 ≤ sizeLine; decide, ?_⟩
      walk_at "w"
      refine ⟨fun z => absurd (show (1 : Nat) = 0 from z.1) (by decide), ?_⟩
      walk_at "w"
      rw [e0]
      walk_at "i"
      walk_at "w"
      refine ⟨t, by rw [e0], by omega, by omega, ?_⟩
      walk_at "w"
      refine ⟨by rw [List.length_map]; unfold sizeLine; omega, fun p hp => ?_⟩
      refine lc_fm (fstr fun w => !([] : List Str).contains w) (fun d => ∃ x, d = .str x) hp (fun d hd => ?_) ?_ ?_
      · obtain ⟨x, _, rfl⟩ := List.mem_map.mp hd
        exact ⟨x, rfl⟩
      rotate_left
      · rintro d ds acc ⟨x, rfl⟩ h1 h2
        walk_at "w"
        refine ⟨rfl, rfl, ?_⟩
        walk_at "w"
        exact h1 _ rfl
      rw [fm_str, all_free]
      walk_at "w"
      refine ⟨by rw [List.length_map]; show 0 + _ ≤ sizeLine; unfold sizeLine; omega, ?_⟩
      walk_at "w"
      exact fin _ rfl
    | pow t e =>
      simp only [Tr.deep] at hd h16
      have hz1 : t.sz ≤ 131072 := sz_le (by omega)
      have hl1 := names_len t
      obtain ⟨ds, e0⟩ := encT_tup t
      walk_at "w"
      refine ⟨by show 0 ≤ sizeLine; decide, ?_⟩
      walk_at "w"
      refine ⟨fun z => absurd (show (1 : Nat) = 0 from z.1) (by decide), ?_⟩
      walk_at "w"
      rw [e0]
      walk_at "i"
      walk_at "w"
      refine ⟨t, by rw [e0], by omega, by omega, ?_⟩
      walk_at "w"
      refine ⟨by rw [List.length_map]; unfold sizeLine; omega, fun p hp => ?_⟩
      refine lc_fm (fstr fun w => !([] : List Str).contains w) (fun d => ∃ x, d = .str x) hp (fun d hd => ?_) ?_ ?_
      · obtain ⟨x, _, rfl⟩ := List.mem_map.mp hd
        exact ⟨x, rfl⟩
      rotate_left
      · rintro d ds acc ⟨x, rfl⟩ h1 h2
        walk_at "w"
        refine ⟨rfl, rfl, ?_⟩
        walk_at "w"
        exact h1 _ rfl
      rw [fm_str, all_free]
      walk_at "w"
      refine ⟨by rw [List.length_map]; show 0 + _ ≤ sizeLine; unfold sizeLine; omega, ?_⟩
      walk_at "i"
      walk_at "w"
      exact fin _ rfl
    | bin o a b =>
      simp only [Tr.deep] at hd h16
      have hz1 : a.sz ≤ 131072 := sz_le (by omega)
      have hl1 := names_len a
      have hz2 : b.sz ≤ 131072 := sz_le (by omega)
      have hl2 := names_len b
      obtain ⟨ds, e0⟩ := encT_tup a
      obtain ⟨ds2, e2⟩ := encT_tup b
      have etag : (o.tag = ("name" : Str)) = False := by cases o <;> exact eq_false (by decide)
      walk_at "w"
      refine wite_d (fun z => by rw [etag] at z; exact z.elim) fun _ => ?_
      walk_at "w"
      refine ⟨by show 0 ≤ sizeLine; decide, ?_⟩
      walk_at "w"
      refine ⟨fun z => absurd (show (1 : Nat) = 0 from z.1) (by decide), ?_⟩
      walk_at "w"
      rw [e0]
      walk_at "i"
      walk_at "w"
      refine ⟨a, by rw [e0], by omega, by omega, ?_⟩
      walk_at "w"
      refine ⟨by rw [List.length_map]; unfold sizeLine; omega, fun p hp => ?_⟩
      refine lc_fm (fstr fun w => !([] : List Str).contains w) (fun d => ∃ x, d = .str x) hp (fun d hd => ?_) ?_ ?_
      · obtain ⟨x, _, rfl⟩ := List.mem_map.mp hd
        exact ⟨x, rfl⟩
      · rw [fm_str, all_free]
        walk_at "w"
        refine ⟨by rw [List.length_map]; show 0 + _ ≤ sizeLine; unfold sizeLine; omega, ?_⟩
        walk_at "w"
        rw [e2]
        walk_at "i"
        walk_at "w"
        refine ⟨b, by rw [e2], by omega, by omega, ?_⟩
        walk_at "w"
        refine ⟨by rw [List.length_map]; unfold sizeLine; omega, fun p hp => ?_⟩
        refine lc_fm (fstr fun w => !(namesT a).contains w) (fun d => ∃ x, d = .str x) hp (fun d hd => ?_) ?_ ?_
        · obtain ⟨x, _, rfl⟩ := List.mem_map.mp hd
          exact ⟨x, rfl⟩
        · rw [fm_str]
          walk_at "w"
          refine ⟨by
            have := List.length_filter_le (fun s => !(namesT a).contains s) (namesT b)
            rw [List.length_append, List.length_map, List.length_map]; show 0 + _ + _ ≤ sizeLine; unfold sizeLine; omega, ?_⟩
          walk_at "w"
          exact fin _ (by show D.lst _ = D.lst (List.map D.str (namesT a ++ _)); rw [List.map_append]; rfl)
        · rintro d ds acc ⟨x, rfl⟩ h1 h2
          walk_at "w"
          refine ⟨rfl, flat_strs _, ?_⟩
          walk_at "w"
          rw [show inD (D.str x) ([] ++ List.map D.str (namesT a)) = (namesT a).contains x from inD_str x (namesT a)]
          refine wite_of (fun z => ?_) fun z => ?_
          · walk_at "w"
            exact h1 _ (by simp only [fstr, z, if_true])
          · exact h2 (by simp only [fstr, z]; rfl)
      · rintro d ds acc ⟨x, rfl⟩ h1 h2
        walk_at "w"
        refine ⟨rfl, rfl, ?_⟩
        walk_at "w"
        exact h1 _ rfl
end
end D2

set_option maxRecDepth 100000
set_option maxHeartbeats 2000000
set_option pp.maxSteps 400
set_option pp.deepTerms false
namespace D2
open PySem PySem.Spec PyProof.Rows L2
local macro_rules | `(tactic| walk_at "wp") => `(tactic| conv => whnf)
local macro_rules | `(tactic| walk_at "w") => `(tactic| (conv => whnf) <;> repeat ((first | rw [seqD_ptr Mem.put_same] | rw [atI_zero] | rw [lstD_ptr Mem.put_same] | rw [dctD_ptr Mem.put_same] | rw [objD_ptr Mem.put_same] | rw [Mem.put_same]); conv => whnf))
local macro_rules | `(tactic| walk_at "v") => `(tactic| (conv => whnf) <;> repeat ((first | rw [seqD_ptr Mem.put_same] | rw [atI_zero] | rw [Mem.put_same] | rw [seqD_ptr (Mem.at2 (by assumption))] | rw [Mem.at2 (by assumption)]); conv => whnf))
local macro_rules | `(tactic| walk_at "a") => `(tactic| (walk_at "w") <;> repeat (refine ⟨(by first | exact mulR ⟨by omega, by omega⟩ | exact mulL ⟨by omega, by omega⟩ | (show (0 : Int) < _; omega) | exact ⟨by omega, by decide +kernel⟩ | exact ⟨by decide, by decide, by decide⟩), ?_⟩ <;> walk_at "w"))
local macro_rules | `(tactic| walk_at "i") => `(tactic| ((walk_at "w") <;> (refine ⟨trivial, by first | exact .inl rfl | exact .inr (.inl rfl) | exact .inr (.inr (.inl rfl)) | exact .inr (.inr (.inr (.inl rfl))) | exact .inr (.inr (.inr (.inr (.inl rfl)))), ?_⟩)))
section
variable {P : Program} {w : World} {K : W.Frag} {mg : Str → Option Value} {base : Heap} {A : Ad}
theorem sc_l_many : FnScope ["tree", "sort", "part"] ["tree", "sort"] (defScope (top 51)) := ⟨rfl, rfl, rfl, by decide +kernel, rfl, by decide +kernel, by decide +kernel⟩
theorem ok_l_many (T : Txt K mg A) (n : Nat) : FnAt P w K mg base (n + 0) "_law_many" (S_l_many n) := by
  induction n with
  | zero => exact fnAt_no T.F_l_many (fun ds M q h => by obtain ⟨_,_,_,h,_⟩ := h; omega)
  | succ n ih =>
    have G_l_many := ih
    refine fnAt_of T.F_l_many sc_l_many (fun ds M q h => by first | (obtain ⟨e, _⟩ := h; rw [e]; rfl) | (obtain ⟨_, e, _⟩ := h; rw [e]; rfl) | (obtain ⟨_, _, e, _⟩ := h; rw [e]; rfl) | (obtain ⟨_, _, _, e, _⟩ := h; rw [e]; rfl) | (obtain ⟨_, _, _, _, e, _⟩ := h; rw [e]; rfl) | (obtain ⟨_, _, _, _, _, e, _⟩ := h; rw [e]; rfl) | (obtain ⟨_, _, _, _, _, _, e, _⟩ := h; rw [e]; rfl) | (obtain ⟨_, _, _, _, _, _, _, e, _⟩ := h; rw [e]; rfl) | (obtain ⟨_, _, _, _, _, _, _, _, e, _⟩ := h; rw [e]; rfl) | (obtain ⟨_, _, _, _, _, _, _, _, _, e, _⟩ := h; rw [e]; rfl) | (obtain ⟨_, _, _, _, _, _, _, _, _, _, e, _⟩ := h; rw [e]; rfl) | (obtain ⟨_, _, _, _, _, _, _, _, _, _, _, e, _⟩ := h; rw [e]; rfl)) ?_
    intro f cdv A' outer s H E hr
    have S := sc_l_many
    have hu := hr.units
    have hu1 := Nat.lt_of_le_of_lt (Nat.add_le_add_left (by decide : 1 ≤ 64) _) hu
    refine ⟨_, _, (pdb_one (pds_ret (pd_op po_add (pd_if (pdt_cmp (po_eq hu) (pd_ix (pd_var 0) pd_int fun _ _ => rfl) (pd_var 1) (nomark _)) pd_int pd_int) (pd_callB (pc_sum rfl) rfl T.n_sum (by decide +kernel) (pda_cons (pd_lc (own := [("part", 2)]) rfl S.nd (pi_t (pd_sl (pd_var 0) (pdo_some pd_int) pdo_none)) (blkOk_by (N := ["tree", "sort", "part"]) (sc := (defScope (top 51))) (by decide +kernel)) (fun _ _ _ _ _ => (pg_name (i := 2) S.nd rfl (Or.inl rfl))) pdgc_1 (fun _ _ _ _ _ => blkT (pdts_one (pdt_val (pd_callB pc_isi rfl T.n_isinstance (by decide +kernel) (pda_cons (pd_var 2) (pda_cons (pd_ty "tuple" rfl T.n_tuple (by decide +kernel)) pda_nil))))) (by first | dsimp only | exact rfl) (by first | dsimp only | exact rfl)) fun _ _ _ _ _ => blkE (pd_call G_l_many hr rfl (pda_cons (pd_var 2) (pda_cons (pd_var 1) pda_nil))) (by first | dsimp only | exact rfl) (by first | dsimp only | exact rfl)) pda_nil))))), fun ds M q h => ?_⟩
    obtain ⟨t, s0, rfl, hd, hq⟩ := h
    have fin : ∀ i : Int, i = (manyT s0 t : Int) → Rt q (.int i) M := fun i e => .of (by rw [e]; exact hq)
    cases t with
    | num n =>
      simp only [Tr.deep] at hd
      walk_at "w"
      refine wite_d (fun z => ?_) fun z => ?_
      all_goals
        walk_at "w"
        refine ⟨fun z => absurd (show (1 : Nat) = 0 from z.1) (by decide), ?_⟩
        walk_at "w"
        refine ⟨(Nat.le_of_ble_eq_true rfl : _ ≤ sizeLine), fun p hp => ?_⟩
        walk_at "w"
        walk_at "i"
        walk_at "w"
        refine ⟨_, hp, rfl, ?_⟩
        walk_at "w"
        refine ⟨fun es z => (nomatch z), [], rfl, ?_⟩
        walk_at "w"
        refine fin _ ?_
        simp only [manyT, tagT, z, if_true, if_false, List.sum_cons, List.sum_nil]
        first | rfl | omega | (simp; done) | (simp; omega)
    | name n =>
      simp only [Tr.deep] at hd
      walk_at "w"
      refine wite_d (fun z => ?_) fun z => ?_
      all_goals
        walk_at "w"
        refine ⟨fun z => absurd (show (1 : Nat) = 0 from z.1) (by decide), ?_⟩
        walk_at "w"
        refine ⟨(Nat.le_of_ble_eq_true rfl : _ ≤ sizeLine), fun p hp => ?_⟩
        walk_at "w"
        walk_at "i"
        walk_at "w"
        refine ⟨_, hp, rfl, ?_⟩
        walk_at "w"
        refine ⟨fun es z => (nomatch z), [], rfl, ?_⟩
        walk_at "w"
        refine fin _ ?_
        simp only [manyT, tagT, z, if_true, if_false, List.sum_cons, List.sum_nil]
        first | rfl | omega | (simp; done) | (simp; omega)
    | im =>
      walk_at "w"
      refine wite_d (fun z => ?_) fun z => ?_
      all_goals
        walk_at "w"
        refine ⟨fun z => absurd (show (1 : Nat) = 0 from z.1) (by decide), ?_⟩
        walk_at "w"
        refine ⟨(Nat.le_of_ble_eq_true rfl : _ ≤ sizeLine), fun p hp => ?_⟩
        walk_at "w"
        refine ⟨fun es z => (nomatch z), [], rfl, ?_⟩
        walk_at "w"
        refine fin _ ?_
        simp only [manyT, tagT, z, if_true, if_false, List.sum_cons, List.sum_nil]
        first | rfl | omega | (simp; done) | (simp; omega)
    | root t =>
      simp only [Tr.deep] at hd
      obtain ⟨dt, et⟩ := encT_tup t
      walk_at "w"
      refine wite_d (fun z => ?_) fun z => ?_
      all_goals
        walk_at "w"
        refine ⟨fun z => absurd (show (1 : Nat) = 0 from z.1) (by decide), ?_⟩
        walk_at "w"
        refine ⟨(Nat.le_of_ble_eq_true rfl : _ ≤ sizeLine), fun p hp => ?_⟩
        walk_at "w"
        rw [et]
        walk_at "i"
        walk_at "w"
        refine ⟨t, s0, by rw [et], by omega, ?_⟩
        walk_at "w"
        refine ⟨_, hp, rfl, ?_⟩
        walk_at "w"
        refine ⟨fun es z => (nomatch z), [(manyT s0 t : Int)], rfl, ?_⟩
        walk_at "w"
        refine fin _ ?_
        simp only [manyT, tagT, z, if_true, if_false, List.sum_cons, List.sum_nil]
        first | rfl | omega | (simp; done) | (simp; omega)
    | neg t =>
      simp only [Tr.deep] at hd
      obtain ⟨dt, et⟩ := encT_tup t
      walk_at "w"
      refine wite_d (fun z => ?_) fun z => ?_
      all_goals
        walk_at "w"
        refine ⟨fun z => absurd (show (1 : Nat) = 0 from z.1) (by decide), ?_⟩
        walk_at "w"
        refine ⟨(Nat.le_of_ble_eq_true rfl : _ ≤ sizeLine), fun p hp => ?_⟩
        walk_at "w"
        rw [et]
        walk_at "i"
        walk_at "w"
        refine ⟨t, s0, by rw [et], by omega, ?_⟩
        walk_at "w"
        refine ⟨_, hp, rfl, ?_⟩
        walk_at "w"
        refine ⟨fun es z => (nomatch z), [(manyT s0 t : Int)], rfl, ?_⟩
        walk_at "w"
        refine fin _ ?_
        simp only [manyT, tagT, z, if_true, if_false, List.sum_cons, List.sum_nil]
        first | rfl | omega | (simp; done) | (simp; omega)
    | pow t e =>
      simp only [Tr.deep] at hd
      obtain ⟨dt, et⟩ := encT_tup t
      walk_at "w"
      refine wite_d (fun z => ?_) fun z => ?_
      all_goals
        walk_at "w"
        refine ⟨fun z => absurd (show (1 : Nat) = 0 from z.1) (by decide), ?_⟩
        walk_at "w"
        refine ⟨(Nat.le_of_ble_eq_true rfl : _ ≤ sizeLine), fun p hp => ?_⟩
        walk_at "w"
        rw [et]
        walk_at "i"
        walk_at "w"
        refine ⟨t, s0, by rw [et], by omega, ?_⟩
        walk_at "w"
        refine ⟨_, hp, rfl, ?_⟩
        walk_at "w"
        walk_at "i"
        walk_at "w"
        refine ⟨_, hp, rfl, ?_⟩
        walk_at "w"
        refine ⟨fun es z => (nomatch z), [(manyT s0 t : Int)], rfl, ?_⟩
        walk_at "w"
        refine fin _ ?_
        simp only [manyT, tagT, z, if_true, if_false, List.sum_cons, List.sum_nil]
        first | rfl | omega | (simp; done) | (simp; omega)
    | bin o a b =>
      simp only [Tr.deep] at hd
      obtain ⟨da, ea⟩ := encT_tup a
      obtain ⟨db, eb⟩ := encT_tup b
      walk_at "w"
      refine wite_d (fun z => ?_) fun z => ?_
      all_goals
        walk_at "w"
        refine ⟨fun z => absurd (show (1 : Nat) = 0 from z.1) (by decide), ?_⟩
        walk_at "w"
        refine ⟨(Nat.le_of_ble_eq_true rfl : _ ≤ sizeLine), fun p hp => ?_⟩
        walk_at "w"
        rw [ea]
        walk_at "i"
        walk_at "w"
        refine ⟨a, s0, by rw [ea], by omega, ?_⟩
        walk_at "w"
        refine ⟨_, hp, rfl, ?_⟩
        walk_at "w"
        rw [eb]
        walk_at "i"
        walk_at "w"
        refine ⟨b, s0, by rw [eb], by omega, ?_⟩
        walk_at "w"
        refine ⟨_, hp, rfl, ?_⟩
        walk_at "w"
        refine ⟨fun es z => (nomatch z), [(manyT s0 a : Int), (manyT s0 b : Int)], rfl, ?_⟩
        walk_at "w"
        refine fin _ ?_
        simp only [manyT, tagT, z, if_true, if_false, List.sum_cons, List.sum_nil]
        first | rfl | omega | (simp; done) | (simp; omega)
theorem sc_l_put : FnScope ["tree", "news", "part"] ["tree", "news"] (defScope (top 52)) := ⟨rfl, rfl, rfl, by decide +kernel, rfl, by decide +kernel, by decide +kernel⟩
theorem ok_l_put (T : Txt K mg A) (n : Nat) : FnAt P w K mg base (n + 0) "_law_put" (S_l_put n) := by
  induction n with
  | zero => exact fnAt_no T.F_l_put (fun ds M q h => by obtain ⟨_,_,_,_,h,_⟩ := h; omega)
  | succ n ih =>
    have G_l_put := ih
    refine fnAt_of T.F_l_put sc_l_put (fun ds M q h => by first | (obtain ⟨e, _⟩ := h; rw [e]; rfl) | (obtain ⟨_, e, _⟩ := h; rw [e]; rfl) | (obtain ⟨_, _, e, _⟩ := h; rw [e]; rfl) | (obtain ⟨_, _, _, e, _⟩ := h; rw [e]; rfl) | (obtain ⟨_, _, _, _, e, _⟩ := h; rw [e]; rfl) | (obtain ⟨_, _, _, _, _, e, _⟩ := h; rw [e]; rfl) | (obtain ⟨_, _, _, _, _, _, e, _⟩ := h; rw [e]; rfl) | (obtain ⟨_, _, _, _, _, _, _, e, _⟩ := h; rw [e]; rfl) | (obtain ⟨_, _, _, _, _, _, _, _, e, _⟩ := h; rw [e]; rfl) | (obtain ⟨_, _, _, _, _, _, _, _, _, e, _⟩ := h; rw [e]; rfl) | (obtain ⟨_, _, _, _, _, _, _, _, _, _, e, _⟩ := h; rw [e]; rfl) | (obtain ⟨_, _, _, _, _, _, _, _, _, _, _, e, _⟩ := h; rw [e]; rfl)) ?_
    intro f cdv A' outer s H E hr
    have S := sc_l_put
    have hu := hr.units
    have hu1 := Nat.lt_of_le_of_lt (Nat.add_le_add_left (by decide : 1 ≤ 64) _) hu
    refine ⟨_, _, (pdb_cons (pds_if (pdt_cmp (po_eq hu) (pd_ix (pd_var 0) pd_int fun _ _ => rfl) pd_str (nomark _)) (pdb_one (pds_ret (pd_gt2 hu1 (pd_var 1) (pd_ix (pd_var 0) pd_int fun _ _ => rfl) (pd_var 0)))) pdb_nil)
      (pdb_one (pds_ret (pd_callTy pc_tuple rfl T.n_tuple (by decide +kernel) (pda_cons (pd_lc (own := [("part", 2)]) rfl S.nd (pi_t (pd_var 0)) (blkOk_by (N := ["tree", "news", "part"]) (sc := (defScope (top 52))) (by decide +kernel)) (fun _ _ _ _ _ => (pg_name (i := 2) S.nd rfl (Or.inl rfl))) pdgc_1 (fun _ _ _ _ _ => blkT pdts_nil (by first | dsimp only | exact rfl) (by first | dsimp only | exact rfl)) fun _ _ _ _ _ => blkE (pd_if (pdt_val (pd_callB pc_isi rfl T.n_isinstance (by decide +kernel) (pda_cons (pd_var 2) (pda_cons (pd_ty "tuple" rfl T.n_tuple (by decide +kernel)) pda_nil)))) (pd_call G_l_put hr rfl (pda_cons (pd_var 2) (pda_cons (pd_var 1) pda_nil))) (pd_var 2)) (by first | dsimp only | exact rfl) (by first | dsimp only | exact rfl)) pda_nil))))), fun ds M q h => ?_⟩
    obtain ⟨t, a0, es, rfl, hd, hM, hq⟩ := h
    have fin : ∀ x : D, x = encT (putT (fun x => es.lookup x) t) → Rt q x M := fun i e => .of (by rw [e]; exact hq)
    cases t with
    | name x =>
      walk_at "w"
      rw [dctD_ptr hM]
      refine ⟨⟨_, rfl⟩, ?_⟩
      walk_at "w"
      rw [dctD_ptr hM]
      walk_at "w"
      refine fin _ ?_
      rw [getKD_dctT]
      show _ = encT ((es.lookup x).getD (.name x))
      cases es.lookup x <;> rfl
    | num n =>
      simp only [Tr.deep] at hd
      walk_at "w"
      refine ⟨(Nat.le_of_ble_eq_true rfl : _ ≤ sizeLine), fun p hp => ?_⟩
      walk_at "w"
      walk_at "i"
      walk_at "w"
      refine ⟨_, hp, rfl, ?_⟩
      walk_at "w"
      walk_at "i"
      walk_at "w"
      refine ⟨_, hp, rfl, ?_⟩
      walk_at "w"
      exact fin _ rfl
    | im =>
      walk_at "w"
      refine ⟨(Nat.le_of_ble_eq_true rfl : _ ≤ sizeLine), fun p hp => ?_⟩
      walk_at "w"
      walk_at "i"
      walk_at "w"
      refine ⟨_, hp, rfl, ?_⟩
      walk_at "w"
      exact fin _ rfl
    | root t =>
      simp only [Tr.deep] at hd
      obtain ⟨dt, et⟩ := encT_tup t
      walk_at "w"
      refine ⟨(Nat.le_of_ble_eq_true rfl : _ ≤ sizeLine), fun p hp => ?_⟩
      walk_at "w"
      walk_at "i"
      walk_at "w"
      refine ⟨_, hp, rfl, ?_⟩
      walk_at "w"
      rw [et]
      walk_at "i"
      walk_at "w"
      refine ⟨t, a0, es, by rw [et], by omega, by rw [Mem.put_ne (ne_of_mem hM hp).symm]; exact hM, ?_⟩
      walk_at "w"
      refine ⟨_, hp, rfl, ?_⟩
      walk_at "w"
      exact fin _ rfl
    | neg t =>
      simp only [Tr.deep] at hd
      obtain ⟨dt, et⟩ := encT_tup t
      walk_at "w"
      refine ⟨(Nat.le_of_ble_eq_true rfl : _ ≤ sizeLine), fun p hp => ?_⟩
      walk_at "w"
      walk_at "i"
      walk_at "w"
      refine ⟨_, hp, rfl, ?_⟩
      walk_at "w"
      rw [et]
      walk_at "i"
      walk_at "w"
      refine ⟨t, a0, es, by rw [et], by omega, by rw [Mem.put_ne (ne_of_mem hM hp).symm]; exact hM, ?_⟩
      walk_at "w"
      refine ⟨_, hp, rfl, ?_⟩
      walk_at "w"
      exact fin _ rfl
    | pow t e =>
      simp only [Tr.deep] at hd
      obtain ⟨dt, et⟩ := encT_tup t
      walk_at "w"
      refine ⟨(Nat.le_of_ble_eq_true rfl : _ ≤ sizeLine), fun p hp => ?_⟩
      walk_at "w"
      walk_at "i"
      walk_at "w"
      refine ⟨_, hp, rfl, ?_⟩
      walk_at "w"
      rw [et]
      walk_at "i"
      walk_at "w"
      refine ⟨t, a0, es, by rw [et], by omega, by rw [Mem.put_ne (ne_of_mem hM hp).symm]; exact hM, ?_⟩
      walk_at "w"
      refine ⟨_, hp, rfl, ?_⟩
      walk_at "w"
      walk_at "i"
      walk_at "w"
      refine ⟨_, hp, rfl, ?_⟩
      walk_at "w"
      exact fin _ rfl
    | bin o a b =>
      simp only [Tr.deep] at hd
      obtain ⟨da, ea⟩ := encT_tup a
      obtain ⟨db, eb⟩ := encT_tup b
      have etag : (o.tag = ("name" : Str)) = False := by cases o <;> exact eq_false (by decide)
      walk_at "w"
      refine wite_d (fun z => by rw [etag] at z; exact z.elim) fun _ => ?_
      walk_at "w"
      refine ⟨(Nat.le_of_ble_eq_true rfl : _ ≤ sizeLine), fun p hp => ?_⟩
      walk_at "w"
      walk_at "i"
      walk_at "w"
      refine ⟨_, hp, rfl, ?_⟩
      walk_at "w"
      rw [ea]
      walk_at "i"
      walk_at "w"
      refine ⟨a, a0, es, by rw [ea], by omega, by rw [Mem.put_ne (ne_of_mem hM hp).symm]; exact hM, ?_⟩
      walk_at "w"
      refine ⟨_, hp, rfl, ?_⟩
      walk_at "w"
      rw [eb]
      walk_at "i"
      walk_at "w"
      refine ⟨b, a0, es, by rw [eb], by omega, by rw [Mem.put_ne (ne_of_mem hM hp).symm]; exact hM, ?_⟩
      walk_at "w"
      refine ⟨_, hp, rfl, ?_⟩
      walk_at "w"
      exact fin _ rfl
end
end D2

set_option maxRecDepth 100000
set_option maxHeartbeats 2000000
set_option pp.maxSteps 400
set_option pp.deepTerms false
namespace D2
open PySem PySem.Spec PyProof.Rows L2
local macro_rules | `(tactic| walk_at "wp") => `(tactic| conv => whnf)
local macro_rules | `(tactic| walk_at "w") => `(tactic| (conv => whnf) <;> repeat ((first | rw [seqD_ptr Mem.put_same] | rw [atI_zero] | rw [lstD_ptr Mem.put_same] | rw [dctD_ptr Mem.put_same] | rw [objD_ptr Mem.put_same] | rw [Mem.put_same]); conv => whnf))
local macro_rules | `(tactic| walk_at "v") => `(tactic| (conv => whnf) <;> repeat ((first | rw [seqD_ptr Mem.put_same] | rw [atI_zero] | rw [Mem.put_same] | rw [seqD_ptr (Mem.at2 (by assumption))] | rw [Mem.at2 (by assumption)]); conv => whnf))
local macro_rules | `(tactic| walk_at "a") => `(tactic| (walk_at "w") <;> repeat (refine ⟨(by first | exact mulR ⟨by omega, by omega⟩ | exact mulL ⟨by omega, by omega⟩ | (show (0 : Int) < _; omega) | exact ⟨by omega, by decide +kernel⟩ | exact ⟨by decide, by decide, by decide⟩), ?_⟩ <;> walk_at "w"))
local macro_rules | `(tactic| walk_at "i") => `(tactic| ((walk_at "w") <;> (refine ⟨trivial, by first | exact .inl rfl | exact .inr (.inl rfl) | exact .inr (.inr (.inl rfl)) | exact .inr (.inr (.inr (.inl rfl))) | exact .inr (.inr (.inr (.inr (.inl rfl)))), ?_⟩)))
section
variable {P : Program} {w : World} {K : W.Frag} {mg : Str → Option Value} {base : Heap} {A : Ad}
theorem sc_l_tree : FnScope ["jar", "syms", "deep", "menu", "sort", "left", "far", "m"] ["jar", "syms", "deep", "menu"] (defScope (top 49)) := ⟨rfl, rfl, rfl, by decide +kernel, rfl, by decide +kernel, by decide +kernel⟩
theorem ok_l_tree (T : Txt K mg A) (G_l_draw : FnAt P w K mg base 1 "_law_draw" S_l_draw) (G_l_pick : FnAt P w K mg base 2 "_law_pick" S_l_pick) (n : Nat) : FnAt P w K mg base (n + 2) "_law_tree" (S_l_tree n) := by
  induction n with
  | zero => exact fnAt_no T.F_l_tree (fun ds M q h => by obtain ⟨_,_,_,_,_,_,h,_⟩ := h; omega)
  | succ n ih =>
    have G_l_tree := ih
    refine fnAt_of T.F_l_tree sc_l_tree (fun ds M q h => by first | (obtain ⟨e, _⟩ := h; rw [e]; rfl) | (obtain ⟨_, e, _⟩ := h; rw [e]; rfl) | (obtain ⟨_, _, e, _⟩ := h; rw [e]; rfl) | (obtain ⟨_, _, _, e, _⟩ := h; rw [e]; rfl) | (obtain ⟨_, _, _, _, e, _⟩ := h; rw [e]; rfl) | (obtain ⟨_, _, _, _, _, e, _⟩ := h; rw [e]; rfl) | (obtain ⟨_, _, _, _, _, _, e, _⟩ := h; rw [e]; rfl) | (obtain ⟨_, _, _, _, _, _, _, e, _⟩ := h; rw [e]; rfl) | (obtain ⟨_, _, _, _, _, _, _, _, e, _⟩ := h; rw [e]; rfl) | (obtain ⟨_, _, _, _, _, _, _, _, _, e, _⟩ := h; rw [e]; rfl) | (obtain ⟨_, _, _, _, _, _, _, _, _, _, e, _⟩ := h; rw [e]; rfl) | (obtain ⟨_, _, _, _, _, _, _, _, _, _, _, e, _⟩ := h; rw [e]; rfl)) ?_
    intro f cdv A' outer s H E hr
    have S := sc_l_tree
    have hu := hr.units
    have hu1 := Nat.lt_of_le_of_lt (Nat.add_le_add_left (by decide : 1 ≤ 64) _) hu
    refine ⟨_, _, (pdb_cut (pds_if (PDW.pdt (pdt_or (pdt_cmp (po_eq hu) (pd_var 2) pd_int (nomark _)) (pdt_or1 (pdt_cmp (po_eq hu) (pd_call G_l_draw (hr.mono (by omega)) rfl (pda_cons (pd_var 0) (pda_cons pd_int pda_nil))) pd_int (nomark _))))) (pdb_cons (pds_set (i := 6) S.nd rfl (Or.inl rfl) (pd_call G_l_draw (hr.mono (by omega)) rfl (pda_cons (pd_var 0) (pda_cons pd_int pda_nil))))
      (pdb_cut (pds_if (PDW.pdt (pdt_and (pdt_cmp po_in pd_str (pd_var 3) (by with_unfolding_all rfl)) (pdt_and1 (pdt_cmp po_lt (pd_var 6) pd_int (nomark _))))) (pdb_one (pds_ret (pd_tup (pda_cons pd_str pda_nil)))) pdb_nil)
      (pdb_cut (pds_if (PDW.pdt (pdt_and (pdt_cmp (po_ne hu) (pd_var 1) (pd_lst pda_nil) (nomark _)) (pdt_and1 (pdt_cmp po_lt (pd_var 6) pd_int (nomark _))))) (pdb_one (pds_ret (pd_tup (pda_cons pd_str (pda_cons (pd_call G_l_pick (hr.mono (by omega)) rfl (pda_cons (pd_var 0) (pda_cons (pd_var 1) pda_nil))) pda_nil))))) pdb_nil)
      (pdb_one (pds_ret (pd_tup (pda_cons pd_str (pda_cons (pd_if (pdt_cmp po_lt (pd_var 6) pd_int (nomark _)) (pd_call G_l_draw (hr.mono (by omega)) rfl (pda_cons (pd_var 0) (pda_cons pd_int pda_nil))) (pd_op po_add pd_int (pd_op po_mul (pd_call G_l_draw (hr.mono (by omega)) rfl (pda_cons (pd_var 0) (pda_cons (pd_op po_pow pd_int pd_int) pda_nil))) (pd_op po_pow pd_int pd_int)))) pda_nil)))))))) pdb_nil)
      (pdb_cons (pds_set (i := 4) S.nd rfl (Or.inl rfl) (pd_call G_l_pick (hr.mono (by omega)) rfl (pda_cons (pd_var 0) (pda_cons (pd_lc (own := [("m", 7)]) rfl S.nd (pi_l (pd_var 3)) (blkOk_by (N := ["jar", "syms", "deep", "menu", "sort", "left", "far", "m"]) (sc := (defScope (top 49))) (by decide +kernel)) (fun _ _ _ _ _ => (pg_name (i := 7) S.nd rfl (Or.inl rfl))) pdgc_1 (fun _ _ _ _ _ => blkT (pdts_one (pdt_cmp (po_ne hu) (pd_var 7) pd_str (nomark _))) (by first | dsimp only | exact rfl) (by first | dsimp only | exact rfl)) fun _ _ _ _ _ => blkE (pd_var 7) (by first | dsimp only | exact rfl) (by first | dsimp only | exact rfl)) pda_nil))))
      (pdb_cons (pds_if (PDW.pdt (pdt_or (pdt_cmp (po_eq hu) (pd_var 4) pd_str (nomark _)) (pdt_or1 (pdt_cmp (po_eq hu) (pd_var 4) pd_str (nomark _))))) (pdb_one (pds_ret (pd_tup (pda_cons (pd_var 4) (pda_cons (pd_call G_l_tree hr rfl (pda_cons (pd_var 0) (pda_cons (pd_var 1) (pda_cons (pd_op po_sub (pd_var 2) pd_int) (pda_cons (pd_var 3) pda_nil))))) pda_nil))))) pdb_nil)
      (pdb_cons (pds_if (pdt_cmp (po_eq hu) (pd_var 4) pd_str (nomark _)) (pdb_one (pds_ret (pd_tup (pda_cons pd_str (pda_cons (pd_call G_l_tree hr rfl (pda_cons (pd_var 0) (pda_cons (pd_var 1) (pda_cons (pd_op po_sub (pd_var 2) pd_int) (pda_cons (pd_var 3) pda_nil))))) (pda_cons (pd_call G_l_pick (hr.mono (by omega)) rfl (pda_cons (pd_var 0) (pda_cons (pd_lst (pda_cons pd_int (pda_cons pd_int (pda_cons pd_int (pda_cons pd_int (pda_cons pd_int (pda_cons pd_int (pda_cons pd_int (pda_cons pd_int (pda_cons pd_int (pda_cons pd_int (pda_cons pd_int (pda_cons pd_int pda_nil))))))))))))) pda_nil))) pda_nil)))))) pdb_nil)
      (pdb_cons (pds_set (i := 5) S.nd rfl (Or.inl rfl) (pd_call G_l_tree hr rfl (pda_cons (pd_var 0) (pda_cons (pd_var 1) (pda_cons (pd_op po_sub (pd_var 2) pd_int) (pda_cons (pd_var 3) pda_nil))))))
      (pdb_one (pds_ret (pd_tup (pda_cons (pd_var 4) (pda_cons (pd_var 5) (pda_cons (pd_call G_l_tree hr rfl (pda_cons (pd_var 0) (pda_cons (pd_var 1) (pda_cons (pd_op po_sub (pd_var 2) pd_int) (pda_cons (pd_var 3) pda_nil))))) pda_nil))))))))))), fun ds M q h => ?_⟩
    obtain ⟨a, js, syms, deep, menu, rfl, hd, h0, hM, hj, hsy, hsl, hmn, hml, hnz, hq⟩ := h
    have hleaf : ∀ (t : Tr) js', t.deep = 0 → GoodN syms t → JarL js' → Rt q (encT t) (M.put a (.lst js')) := fun t js' h1 h2 h3 => .of (hq t js' h2 (by omega) h3)
    walk_at "w"
    refine ⟨fun Γ M' => ∃ js', Γ = [some (.ptr a), some (.lst (syms.map .str)), some (.int deep), some (.lst (menu.map .str)), none, none, none, none] ∧ M' = M.put a (.lst js') ∧ JarL js' ∧ 0 < deep, ?_, ?_⟩
    · -- a leaf
      have leaf : ∀ js', JarL js' → wSeq (wAsg (wCall S_l_draw (wCons (wVar 0) (wCons (wC (D.int 12)) wNil))) (gN 6))
          (wCut
            (wIfS (wAnd (wB (wOp wIn (wC (D.str (Str.ofString "i"))) (wVar 3))) (wB (wOp wLt (wVar 6) (wC (D.int 2)))))
              (wRet (wTup (wCons (wC (D.str (Str.ofString "i"))) wNil))) wNx)
            (wCut
              (wIfS (wAnd (wB (wOp wNe (wVar 1) (wLst wNil))) (wB (wOp wLt (wVar 6) (wC (D.int 8)))))
                (wRet
                  (wTup
                    (wCons (wC (D.str (Str.ofString "name")))
                      (wCons (wCall S_l_pick (wCons (wVar 0) (wCons (wVar 1) wNil))) wNil))))
                wNx)
              (wRet
                (wTup
                  (wCons (wC (D.str (Str.ofString "num")))
                    (wCons
                      (wIf (wB (wOp wLt (wVar 6) (wC (D.int 11))))
                        (wCall S_l_draw (wCons (wVar 0) (wCons (wC (D.int 10)) wNil)))
                        (wOp wAdd (wC (D.int 1))
                          (wOp wMul
                            (wCall S_l_draw (wCons (wVar 0) (wCons (wOp wPow (wC (D.int 10)) (wC (D.int 9))) wNil)))
                            (wOp wPow (wC (D.int 10)) (wC (D.int 30))))))
                      wNil)))))) [some (.ptr a), some (.lst (syms.map .str)), some (.int deep), some (.lst (menu.map .str)), none, none, none, none] (M.put a (.lst js')) { nx := fun Γ M' => ∃ js', Γ = [some (.ptr a), some (.lst (syms.map .str)), some (.int deep), some (.lst (menu.map .str)), none, none, none, none] ∧ M' = M.put a (.lst js') ∧ JarL js' ∧ 0 < deep, rt := (endsT q).rt, bk := (endsT q).bk, ct := (endsT q).ct } := by
        intro js' hj'
        walk_at "w"
        refine ⟨a, 12, js', rfl, Mem.put_same, hj', ⟨by decide, by decide +kernel⟩, fun r js2 r0 r1 hj2 => ?_⟩
        rw [Mem.put_put]
        walk_at "w"
        refine ⟨fun Γ M' => Γ = [some (.ptr a), some (.lst (syms.map .str)), some (.int deep), some (.lst (menu.map .str)), none, none, some (.int r), none] ∧ M' = M.put a (.lst js2), ?_, ?_⟩
        · walk_at "w"
          refine ⟨rfl, flat_strs _, ?_⟩
          refine wite_of (fun z => ?_) fun z => ⟨rfl, rfl⟩
          walk_at "w"
          refine wite_d (fun z2 => ?_) fun z2 => ⟨rfl, rfl⟩
          walk_at "w"
          refine ⟨(Nat.le_of_ble_eq_true rfl : _ ≤ sizeLine), ?_⟩
          exact hleaf .im js2 rfl ⟨trivial, fun x h => nomatch h⟩ hj2
        · rintro Γ M1 ⟨rfl, rfl⟩
          walk_at "w"
          refine ⟨fun Γ M' => Γ = [some (.ptr a), some (.lst (syms.map .str)), some (.int deep), some (.lst (menu.map .str)), none, none, some (.int r), none] ∧ M' = M.put a (.lst js2), ?_, ?_⟩
          · walk_at "w"
            refine ⟨(Nat.le_of_ble_eq_true rfl : _ ≤ sizeLine), ?_⟩
            walk_at "w"
            refine ⟨_, _, .lst (pds_strs _), .lst .nil, shaped_strs _ fun x hx => name_strOk (hsy x hx), by decide +kernel, ?_⟩
            walk_at "w"
            rw [eqv_nil]
            refine wite_of (fun z => ?_) fun z => ⟨rfl, rfl⟩
            walk_at "w"
            refine wite_d (fun z2 => ?_) fun z2 => ⟨rfl, rfl⟩
            walk_at "w"
            have hne : 0 < syms.length := by
              cases syms with
              | nil => exact Bool.noConfusion z
              | cons => exact Nat.succ_pos _
            refine ⟨a, js2, _, rfl, Mem.put_same, hj2, by rw [List.length_map]; exact hne, by rw [List.length_map]; unfold sizeLine; omega, fun r js3 hr hj3 => ?_⟩
            rw [Mem.put_put]
            obtain ⟨x, hx, rfl⟩ := List.mem_map.mp hr
            walk_at "w"
            refine ⟨(Nat.le_of_ble_eq_true rfl : _ ≤ sizeLine), ?_⟩
            exact hleaf (.name x) js3 rfl ⟨hsy x hx, fun y h => by rw [List.mem_singleton.mp h]; exact hx⟩ hj3
          · rintro Γ M1 ⟨rfl, rfl⟩
            walk_at "w"
            refine wite_d (fun z2 => ?_) fun z2 => ?_
            · walk_at "w"
              refine ⟨a, 10, js2, rfl, Mem.put_same, hj2, ⟨by decide, by decide +kernel⟩, fun r js3 r0 r1 hj3 => ?_⟩
              rw [Mem.put_put]
              walk_at "w"
              refine ⟨(Nat.le_of_ble_eq_true rfl : _ ≤ sizeLine), ?_⟩
              exact hleaf (.num r) js3 rfl ⟨⟨r0, by omega⟩, fun x h => nomatch h⟩ hj3
            · walk_at "w"
              refine ⟨⟨by decide, by decide, by decide⟩, ?_⟩
              walk_at "w"
              refine ⟨a, _, js2, rfl, Mem.put_same, hj2, ⟨by decide +kernel, by decide +kernel⟩, fun r js3 r0 r1 hj3 => ?_⟩
              have r1' : r < 1000000000 := r1
              rw [Mem.put_put]
              walk_at "w"
              refine ⟨⟨by decide, by decide, by decide⟩, ?_⟩
              walk_at "w"
              refine ⟨mulL ⟨by omega, by omega⟩, ?_⟩
              walk_at "w"
              refine ⟨(Nat.le_of_ble_eq_true rfl : _ ≤ sizeLine), ?_⟩
              exact hleaf (.num (1 + r * 10 ^ 30)) js3 rfl ⟨⟨by omega, by omega⟩, fun x h => nomatch h⟩ hj3
      walk_at "w"
      refine wite_d (fun z => ?_) fun z => ?_
      · have := leaf js hj
        rw [Mem.put_self hM] at this
        exact this
      · walk_at "w"
        refine ⟨a, 6, js, rfl, hM, hj, ⟨by decide, by decide +kernel⟩, fun r js2 r0 r1 hj2 => ?_⟩
        walk_at "w"
        refine wite_d (fun z2 => ?_) fun z2 => ?_
        · exact leaf js2 hj2
        · exact ⟨js2, rfl, rfl, hj2, by omega⟩
    · rintro Γ M1 ⟨js1, rfl, rfl, hj1, hpos⟩
      walk_at "w"
      refine ⟨by rw [List.length_map]; unfold sizeLine; omega, fun p hp => ?_⟩
      refine lc_fm (fstr fun m => !decide (m = ("i" : Str))) (fun d => ∃ x, d = .str x) hp (fun d hd => ?_) ?_ ?_
      · obtain ⟨x, _, rfl⟩ := List.mem_map.mp hd
        exact ⟨x, rfl⟩
      rotate_left
      · rintro d ds acc ⟨x, rfl⟩ h1 h2
        walk_at "w"
        refine wite_of (fun z => ?_) fun z => ?_
        · walk_at "w"
          exact h1 _ (by simp only [fstr, z, if_true])
        · exact h2 (by simp only [fstr, z]; rfl)
      rw [fm_str]
      walk_at "w"
      have hlen : (menu.filter fun m => !decide (m = ("i" : Str))).length ≤ 100 := Nat.le_trans (List.length_filter_le _ _) hml
      have hne : 0 < (menu.filter fun m => !decide (m = ("i" : Str))).length := by
        obtain ⟨m, hm, hmi⟩ := hnz
        exact List.length_pos_of_mem (List.mem_filter.mpr ⟨hm, by simp [hmi]⟩)
      refine ⟨a, js1, _, rfl, Mem.put_same, hj1, by rw [List.length_map]; exact hne, by rw [List.length_map]; unfold sizeLine; omega, fun r js2 hr hj2 => ?_⟩
      rw [Mem.put_put]
      obtain ⟨m, hm, rfl⟩ := List.mem_map.mp hr
      rw [List.mem_filter] at hm
      have fin : ∀ t js', GoodN syms t → (t.deep : Int) ≤ deep → JarL js' → Rt q (encT t) (M.put a (.lst js')) := fun t js' h1 h2 h3 => .of (hq t js' h1 h2 h3)
      rcases menu_cases (hmn m hm.1) (by simpa using hm.2) with rfl | rfl | rfl | ⟨o, rfl⟩
      · walk_at "w"
        refine ⟨a, js2, syms, deep - 1, menu, rfl, by omega, by omega, Mem.put_same, hj2, hsy, hsl, hmn, hml, hnz, fun t js3 gt dt hj3 => ?_⟩
        rw [Mem.put_put]
        walk_at "w"
        refine ⟨(Nat.le_of_ble_eq_true rfl : _ ≤ sizeLine), ?_⟩
        exact fin (.root t) js3 gt (by show ((t.deep + 1 : Nat) : Int) ≤ _; omega) hj3
      · walk_at "w"
        refine ⟨a, js2, syms, deep - 1, menu, rfl, by omega, by omega, Mem.put_same, hj2, hsy, hsl, hmn, hml, hnz, fun t js3 gt dt hj3 => ?_⟩
        rw [Mem.put_put]
        walk_at "w"
        refine ⟨(Nat.le_of_ble_eq_true rfl : _ ≤ sizeLine), ?_⟩
        exact fin (.neg t) js3 gt (by show ((t.deep + 1 : Nat) : Int) ≤ _; omega) hj3
      · walk_at "w"
        refine ⟨a, js2, syms, deep - 1, menu, rfl, by omega, by omega, Mem.put_same, hj2, hsy, hsl, hmn, hml, hnz, fun t js3 gt dt hj3 => ?_⟩
        rw [Mem.put_put]
        walk_at "w"
        refine ⟨(Nat.le_of_ble_eq_true rfl : _ ≤ sizeLine), ?_⟩
        walk_at "w"
        refine ⟨a, js3, _, rfl, Mem.put_same, hj3, by decide, (Nat.le_of_ble_eq_true rfl : _ ≤ sizeLine), fun r js4 hr hj4 => ?_⟩
        rw [Mem.put_put]
        obtain ⟨e, rfl, he⟩ : ∃ e : Int, r = .int e ∧ 0 ≤ e ∧ e < 1000 := by
          simp only [List.mem_cons, List.not_mem_nil, or_false] at hr
          rcases hr with rfl | rfl | rfl | rfl | rfl | rfl | rfl | rfl | rfl | rfl | rfl | rfl <;> exact ⟨_, rfl, by decide, by decide⟩
        walk_at "w"
        refine ⟨(Nat.le_of_ble_eq_true rfl : _ ≤ sizeLine), ?_⟩
        exact fin (.pow t e) js4 ⟨⟨gt.1, he⟩, gt.2⟩ (by show ((t.deep + 1 : Nat) : Int) ≤ _; omega) hj4
      · have bin : ∀ (x y : Tr) js', GoodN syms x → GoodN syms y → (x.deep : Int) ≤ deep - 1 → (y.deep : Int) ≤ deep - 1 → JarL js' → Rt q (encT (.bin o x y)) (M.put a (.lst js')) := fun x y js' h1 h2 h3 h4 h5 => fin _ js' (h1.bin h2) (by show ((max x.deep y.deep + 1 : Nat) : Int) ≤ _; omega) h5
        cases o
        all_goals
          walk_at "w"
          refine ⟨a, js2, syms, deep - 1, menu, rfl, by omega, by omega, Mem.put_same, hj2, hsy, hsl, hmn, hml, hnz, fun t js3 gt dt hj3 => ?_⟩
          rw [Mem.put_put]
          walk_at "w"
          refine ⟨a, js3, syms, deep - 1, menu, rfl, by omega, by omega, Mem.put_same, hj3, hsy, hsl, hmn, hml, hnz, fun u js4 gu du hj4 => ?_⟩
          rw [Mem.put_put]
          walk_at "w"
          refine ⟨(Nat.le_of_ble_eq_true rfl : _ ≤ sizeLine), ?_⟩
          exact bin t u js4 gt gu dt du hj4
end
end D2

set_option maxRecDepth 100000
set_option maxHeartbeats 2000000
set_option pp.maxSteps 400
set_option pp.deepTerms false
namespace D2
open PySem PySem.Spec PyProof.Rows L2
local macro_rules | `(tactic| walk_at "wp") => `(tactic| conv => whnf)
local macro_rules | `(tactic| walk_at "w") => `(tactic| (conv => whnf) <;> repeat ((first | rw [seqD_ptr Mem.put_same] | rw [atI_zero] | rw [lstD_ptr Mem.put_same] | rw [dctD_ptr Mem.put_same] | rw [objD_ptr Mem.put_same] | rw [Mem.put_same]); conv => whnf))
local macro_rules | `(tactic| walk_at "v") => `(tactic| (conv => whnf) <;> repeat ((first | rw [seqD_ptr Mem.put_same] | rw [atI_zero] | rw [Mem.put_same] | rw [seqD_ptr (Mem.at2 (by assumption))] | rw [Mem.at2 (by assumption)]); conv => whnf))
local macro_rules | `(tactic| walk_at "a") => `(tactic| (walk_at "w") <;> repeat (refine ⟨(by first | exact mulR ⟨by omega, by omega⟩ | exact mulL ⟨by omega, by omega⟩ | (show (0 : Int) < _; omega) | exact ⟨by omega, by decide +kernel⟩ | exact ⟨by decide, by decide, by decide⟩), ?_⟩ <;> walk_at "w"))
local macro_rules | `(tactic| walk_at "i") => `(tactic| ((walk_at "w") <;> (refine ⟨trivial, by first | exact .inl rfl | exact .inr (.inl rfl) | exact .inr (.inr (.inl rfl)) | exact .inr (.inr (.inr (.inl rfl))) | exact .inr (.inr (.inr (.inr (.inl rfl)))), ?_⟩)))
section
variable {P : Program} {w : World} {K : W.Frag} {mg : Str → Option Value} {base : Heap} {A : Ad}
theorem sc_l_loose : FnScope ["jar", "tree", "least", "sort", "level", "turn", "toks"] ["jar", "tree", "least"] (defScope (top 47)) := ⟨rfl, rfl, rfl, by decide +kernel, rfl, by decide +kernel, by decide +kernel⟩
theorem ok_l_loose (T : Txt K mg A) (G_l_pick : FnAt P w K mg base 2 "_law_pick" S_l_pick) (n : Nat) : FnAt P w K mg base (n + 3) "_law_loose" (S_l_loose n) := by
  induction n with
  | zero => exact fnAt_no T.F_l_loose (fun ds M q h => by obtain ⟨_,_,_,_,_,h,_⟩ := h; omega)
  | succ n ih =>
    have G_l_loose := ih
    refine fnAt_of T.F_l_loose sc_l_loose (fun ds M q h => by first | (obtain ⟨e, _⟩ := h; rw [e]; rfl) | (obtain ⟨_, e, _⟩ := h; rw [e]; rfl) | (obtain ⟨_, _, e, _⟩ := h; rw [e]; rfl) | (obtain ⟨_, _, _, e, _⟩ := h; rw [e]; rfl) | (obtain ⟨_, _, _, _, e, _⟩ := h; rw [e]; rfl) | (obtain ⟨_, _, _, _, _, e, _⟩ := h; rw [e]; rfl) | (obtain ⟨_, _, _, _, _, _, e, _⟩ := h; rw [e]; rfl) | (obtain ⟨_, _, _, _, _, _, _, e, _⟩ := h; rw [e]; rfl) | (obtain ⟨_, _, _, _, _, _, _, _, e, _⟩ := h; rw [e]; rfl) | (obtain ⟨_, _, _, _, _, _, _, _, _, e, _⟩ := h; rw [e]; rfl) | (obtain ⟨_, _, _, _, _, _, _, _, _, _, e, _⟩ := h; rw [e]; rfl) | (obtain ⟨_, _, _, _, _, _, _, _, _, _, _, e, _⟩ := h; rw [e]; rfl)) ?_
    intro f cdv A' outer s H E hr
    have S := sc_l_loose
    have hu := hr.units
    have hu1 := Nat.lt_of_le_of_lt (Nat.add_le_add_left (by decide : 1 ≤ 64) _) hu
    refine ⟨_, _, (pdb_cons (pds_set (i := 3) S.nd rfl (Or.inl rfl) (pd_ix (pd_var 1) pd_int fun _ _ => rfl))
      (pdb_cons (pds_set (i := 4) S.nd rfl (Or.inl rfl) pd_int)
      (pdb_cut (pds_if (PDW.pdt (pdt_or (pdt_cmp (po_eq hu) (pd_var 3) pd_str (nomark _)) (pdt_or1 (pdt_cmp (po_eq hu) (pd_var 3) pd_str (nomark _))))) (pdb_one (pds_set (i := 6) S.nd rfl (Or.inl rfl) (pd_lst (pda_cons (pd_callTy pc_str rfl T.n_str (by decide +kernel) (pda_cons (pd_ix (pd_var 1) pd_int fun _ _ => rfl) pda_nil)) pda_nil)))) (pdb_one (pds_if (pdt_cmp (po_eq hu) (pd_var 3) pd_str (nomark _)) (pdb_one (pds_set (i := 6) S.nd rfl (Or.inl rfl) (pd_lst (pda_cons pd_str pda_nil)))) (pdb_one (pds_if (pdt_cmp (po_eq hu) (pd_var 3) pd_str (nomark _)) (pdb_one (pds_set (i := 6) S.nd rfl (Or.inl rfl) (pd_op po_add (pd_op po_add (pd_lst (pda_cons pd_str (pda_cons pd_str pda_nil))) (pd_call G_l_loose hr rfl (pda_cons (pd_var 0) (pda_cons (pd_ix (pd_var 1) pd_int fun _ _ => rfl) (pda_cons pd_int pda_nil))))) (pd_lst (pda_cons pd_str pda_nil))))) (pdb_one (pds_if (pdt_cmp (po_eq hu) (pd_var 3) pd_str (nomark _)) (pdb_cons (pds_set (i := 4) S.nd rfl (Or.inl rfl) pd_int)
      (pdb_one (pds_set (i := 6) S.nd rfl (Or.inl rfl) (pd_op po_add (pd_call G_l_loose hr rfl (pda_cons (pd_var 0) (pda_cons (pd_ix (pd_var 1) pd_int fun _ _ => rfl) (pda_cons pd_int pda_nil)))) (pd_lst (pda_cons pd_str (pda_cons (pd_callTy pc_str rfl T.n_str (by decide +kernel) (pda_cons (pd_ix (pd_var 1) pd_int fun _ _ => rfl) pda_nil)) pda_nil))))))) (pdb_one (pds_if (PDW.pdt (pdt_or (pdt_cmp (po_eq hu) (pd_var 3) pd_str (nomark _)) (pdt_or1 (pdt_cmp (po_eq hu) (pd_var 3) pd_str (nomark _))))) (pdb_cons (pds_set (i := 4) S.nd rfl (Or.inl rfl) pd_int)
      (pdb_one (pds_set (i := 6) S.nd rfl (Or.inl rfl) (pd_op po_add (pd_op po_add (pd_call G_l_loose hr rfl (pda_cons (pd_var 0) (pda_cons (pd_ix (pd_var 1) pd_int fun _ _ => rfl) (pda_cons pd_int pda_nil)))) (pd_lst (pda_cons (pd_if (pdt_cmp (po_eq hu) (pd_var 3) pd_str (nomark _)) pd_str pd_str) pda_nil))) (pd_call G_l_loose hr rfl (pda_cons (pd_var 0) (pda_cons (pd_ix (pd_var 1) pd_int fun _ _ => rfl) (pda_cons pd_int pda_nil)))))))) (pdb_one (pds_if (pdt_cmp (po_eq hu) (pd_var 3) pd_str (nomark _)) (pdb_cons (pds_set (i := 4) S.nd rfl (Or.inl rfl) pd_int)
      (pdb_one (pds_set (i := 6) S.nd rfl (Or.inl rfl) (pd_op po_add (pd_lst (pda_cons pd_str pda_nil)) (pd_call G_l_loose hr rfl (pda_cons (pd_var 0) (pda_cons (pd_ix (pd_var 1) pd_int fun _ _ => rfl) (pda_cons pd_int pda_nil)))))))) (pdb_cons (pds_set (i := 4) S.nd rfl (Or.inl rfl) pd_int)
      (pdb_one (pds_set (i := 6) S.nd rfl (Or.inl rfl) (pd_op po_add (pd_op po_add (pd_call G_l_loose hr rfl (pda_cons (pd_var 0) (pda_cons (pd_ix (pd_var 1) pd_int fun _ _ => rfl) (pda_cons pd_int pda_nil)))) (pd_lst (pda_cons (pd_if (pdt_cmp (po_eq hu) (pd_var 3) pd_str (nomark _)) pd_str pd_str) pda_nil))) (pd_call G_l_loose hr rfl (pda_cons (pd_var 0) (pda_cons (pd_ix (pd_var 1) pd_int fun _ _ => rfl) (pda_cons pd_int pda_nil)))))))))))))))))))
      (pdb_cons (pds_for PassesOwn.never rfl (pi_r1 rfl T.n_range (pda_cons (pd_op po_add (pd_if (pdt_cmp po_lt (pd_var 4) (pd_var 2) (nomark _)) pd_int pd_int) (pd_call G_l_pick (hr.mono (by omega)) rfl (pda_cons (pd_var 0) (pda_cons (pd_lst (pda_cons pd_int (pda_cons pd_int (pda_cons pd_int (pda_cons pd_int (pda_cons pd_int (pda_cons pd_int (pda_cons pd_int (pda_cons pd_int pda_nil))))))))) pda_nil)))) pda_nil)) (pdg_name (i := 5) S.nd rfl (Or.inl rfl)) (pdb_one (pds_set (i := 6) S.nd rfl (Or.inl rfl) (pd_op po_add (pd_op po_add (pd_lst (pda_cons pd_str pda_nil)) (pd_var 6)) (pd_lst (pda_cons pd_str pda_nil))))))
      (pdb_one (pds_ret (pd_var 6))))))), fun ds M q h => ?_⟩
    obtain ⟨a, js, t, l, rfl, hd, hM, hj, ⟨ok, h12, hl1, hl4⟩, hq⟩ := h
    have hsz : t.sz ≤ 131072 := sz_le (by omega)
    have hpos := t.sz_pos
    obtain ⟨dt, et⟩ := encT_tag t
    rw [et]
    walk_at "w"
    refine ⟨fun Γ M' => ∃ js' lv toks v, Γ = [some (.ptr a), some (.tup (.str (tagT t) :: dt)), some (.int l), some (.str (tagT t)), some (.int lv), v, some (.lst (List.map D.str toks))] ∧ M' = M.put a (.lst js') ∧ JarL js' ∧ Lo (4 * t.deep + 1) t lv toks ∧ 1 ≤ lv ∧ toks.length + 6 ≤ 10 * t.sz, ?_, ?_⟩
    · cases t with
      | num n =>
        cases et
        walk_at "w"
        refine ⟨log40 ok.1 ok.2, ?_⟩
        walk_at "w"
        refine ⟨(Nat.le_of_ble_eq_true rfl : _ ≤ sizeLine), ?_⟩
        exact ⟨js, 4, [numS n], none, rfl, (Mem.put_self hM).symm, hj, .num n, by decide, by show 1 + 6 ≤ 10 * 1; decide⟩
      | name x =>
        cases et
        walk_at "w"
        refine ⟨(Nat.le_of_ble_eq_true rfl : _ ≤ sizeLine), ?_⟩
        exact ⟨js, 4, [x], none, rfl, (Mem.put_self hM).symm, hj, .name x, by decide, by show 1 + 6 ≤ 10 * 1; decide⟩
      | im =>
        cases et
        walk_at "w"
        refine ⟨(Nat.le_of_ble_eq_true rfl : _ ≤ sizeLine), ?_⟩
        exact ⟨js, 4, ["i"], none, rfl, (Mem.put_self hM).symm, hj, .im, by decide, by show 1 + 6 ≤ 10 * 1; decide⟩
      | root t =>
        cases et
        simp only [Tr.deep, Tr.sz] at hd h12 hsz ⊢
        walk_at "w"
        refine ⟨(Nat.le_of_ble_eq_true rfl : _ ≤ sizeLine), ?_⟩
        walk_at "w"
        refine ⟨a, js, t, 1, rfl, by omega, hM, hj, ⟨ok, by omega, by decide, by decide⟩, fun toks js2 hL hlen hj2 => ?_⟩
        walk_at "w"
        refine ⟨by rw [List.length_map]; show 2 + _ ≤ sizeLine; unfold sizeLine; omega, ?_⟩
        walk_at "w"
        refine ⟨(Nat.le_of_ble_eq_true rfl : _ ≤ sizeLine), ?_⟩
        walk_at "w"
        refine ⟨by rw [List.length_append, List.length_map]; show 2 + _ + 1 ≤ sizeLine; unfold sizeLine; omega, ?_⟩
        refine ⟨js2, 4, "root" :: "(" :: (toks ++ [(")" : Str)]), none, by simp only [List.map_append, List.map_cons, List.map_nil]; rfl, rfl, hj2, (Lo.root hL).mono (by omega), by decide, ?_⟩
        simp only [List.length_cons, List.length_append, List.length_nil]
        omega
      | neg t =>
        cases et
        simp only [Tr.deep, Tr.sz] at hd h12 hsz ⊢
        walk_at "w"
        refine ⟨(Nat.le_of_ble_eq_true rfl : _ ≤ sizeLine), ?_⟩
        walk_at "w"
        refine ⟨a, js, t, 2, rfl, by omega, hM, hj, ⟨ok, by omega, by decide, by decide⟩, fun toks js2 hL hlen hj2 => ?_⟩
        walk_at "w"
        refine ⟨by rw [List.length_map]; show 1 + _ ≤ sizeLine; unfold sizeLine; omega, ?_⟩
        refine ⟨js2, 1, "-" :: toks, none, rfl, rfl, hj2, (Lo.neg (by decide) hL).mono (by omega), by decide, ?_⟩
        simp only [List.length_cons]
        omega
      | pow t e =>
        cases et
        simp only [Tr.deep, Tr.sz] at hd h12 hsz ⊢
        walk_at "w"
        refine ⟨a, js, t, 4, rfl, by omega, hM, hj, ⟨ok.1, by omega, by decide, by decide⟩, fun toks js2 hL hlen hj2 => ?_⟩
        walk_at "w"
        refine ⟨log40 ok.2.1 (by have := ok.2.2; omega), ?_⟩
        walk_at "w"
        refine ⟨(Nat.le_of_ble_eq_true rfl : _ ≤ sizeLine), ?_⟩
        walk_at "w"
        refine ⟨by rw [List.length_map]; show _ + 2 ≤ sizeLine; unfold sizeLine; omega, ?_⟩
        refine ⟨js2, 3, toks ++ [("^" : Str), numS e], none, by simp only [List.map_append, List.map_cons, List.map_nil]; rfl, rfl, hj2, (Lo.pow e (by decide) hL).mono (by omega), by decide, ?_⟩
        simp only [List.length_cons, List.length_append, List.length_nil]
        omega
      | bin o x y =>
        simp only [Tr.deep, Tr.sz] at hd h12 hsz ⊢
        have mk : ∀ (t1 t2 : List Str), Lo (4 * x.deep + 4) x o.lvl t1 → Lo (4 * y.deep + 4) y (o.lvl + 1) t2 → Lo (4 * (max x.deep y.deep + 1) + 1) (.bin o x y) o.lvl (t1 ++ (o.tok :: t2)) := fun t1 t2 h1 h2 => .bin o (Int.le_refl _) (h1.mono (by omega)) (h2.mono (by omega))
        cases o
        all_goals
          cases et
          walk_at "w"
          refine ⟨a, js, x, _, rfl, by omega, hM, hj, ⟨ok.1, by omega, by decide, by decide⟩, fun t1 js2 hL1 hlen1 hj2 => ?_⟩
          walk_at "w"
          refine ⟨(Nat.le_of_ble_eq_true rfl : _ ≤ sizeLine), ?_⟩
          walk_at "w"
          refine ⟨by rw [List.length_map]; show _ + 1 ≤ sizeLine; unfold sizeLine; omega, ?_⟩
          walk_at "w"
          refine ⟨a, js2, y, _, rfl, by omega, Mem.put_same, hj2, ⟨ok.2, by omega, by decide, by decide⟩, fun t2 js3 hL2 hlen2 hj3 => ?_⟩
          walk_at "w"
          refine ⟨by rw [List.length_append, List.length_map, List.length_map]; show _ + 1 + _ ≤ sizeLine; unfold sizeLine; omega, ?_⟩
          refine ⟨js3, _, _, none, ?_, by rw [Mem.put_put], hj3, mk t1 t2 hL1 hL2, by decide, ?_⟩
          · simp only [List.map_append, List.map_cons, List.map_nil, List.append_assoc]; rfl
          · simp only [List.length_cons, List.length_append]
            omega
    · rintro Γ M1 ⟨js1, lv, toks, v, rfl, rfl, hj1, hL, hlv, hlen⟩
      have goal : ∀ m : Int, (m = 0 ∨ m = 1) → (lv < l → m = 1) → ∀ r : Int, (r = 0 ∨ r = 1 ∨ r = 2) → ∀ js2, JarL js2 → -(2 ^ 62) ≤ m + r ∧ m + r < 2 ^ 62 ∧ True := fun m h1 h2 r h3 js2 h4 => ⟨by omega, by omega, trivial⟩
      walk_at "w"
      refine wite_d (fun z => ?_) fun z => ?_
      all_goals
        walk_at "w"
        refine ⟨(Nat.le_of_ble_eq_true rfl : _ ≤ sizeLine), ?_⟩
        walk_at "w"
        refine ⟨a, js1, _, rfl, Mem.put_same, hj1, by decide, (Nat.le_of_ble_eq_true rfl : _ ≤ sizeLine), fun r js2 hr hj2 => ?_⟩
        rw [Mem.put_put]
        obtain ⟨e, rfl, he⟩ : ∃ e : Int, r = .int e ∧ 0 ≤ e ∧ e ≤ 2 := by
          simp only [List.mem_cons, List.not_mem_nil, or_false] at hr
          rcases hr with rfl | rfl | rfl | rfl | rfl | rfl | rfl | rfl <;> exact ⟨_, rfl, by decide, by decide⟩
        walk_at "w"
        refine ⟨by omega, by omega, ?_⟩
        refine for_by (fun ds Γ M' => ∃ j v, Γ = [some (.ptr a), some (.tup (.str (tagT t) :: dt)), some (.int l), some (.str (tagT t)), some (.int lv), v, some (.lst (List.map D.str (pars j toks)))] ∧ M' = M.put a (.lst js2) ∧ ds.length + j ≤ 3 ∧ (lv < l → 1 ≤ ds.length + j)) ?_ ?_ _ _ _ ⟨0, v, rfl, rfl, ?_, ?_⟩
        · rintro Γ M' ⟨j, v, rfl, rfl, hj3, hlt⟩
          simp only [List.length_nil, Nat.zero_add] at hj3 hlt
          walk_at "w"
          refine .of (hq _ js2 ?_ (by rw [pars_len]; omega) hj2)
          by_cases h : lv < l
          · have h1 := hlt h
            obtain ⟨j, rfl⟩ : ∃ i, j = i + 1 := ⟨j - 1, by omega⟩
            exact (Lo.par ((hL.pars hlv j).low hlv)).mono (by omega)
          · exact ((hL.pars hlv j).low (by omega)).mono (by omega)
        · rintro d ds Γ M' ⟨j, v, rfl, rfl, hj3, hlt⟩ ih
          simp only [List.length_cons] at hj3 hlt
          walk_at "w"
          refine ⟨(Nat.le_of_ble_eq_true rfl : _ ≤ sizeLine), ?_⟩
          walk_at "w"
          refine ⟨by rw [List.length_map, pars_len]; show 1 + _ ≤ sizeLine; unfold sizeLine; omega, ?_⟩
          walk_at "w"
          refine ⟨(Nat.le_of_ble_eq_true rfl : _ ≤ sizeLine), ?_⟩
          walk_at "w"
          refine ⟨by rw [List.length_append, List.length_map, pars_len]; show 1 + _ + 1 ≤ sizeLine; unfold sizeLine; omega, ?_⟩
          refine ih _ _ ⟨j + 1, some d, ?_, rfl, by omega, fun h => by omega⟩
          show _ = [_, _, _, _, _, _, some (D.lst (List.map D.str ("(" :: (pars j toks ++ [(")" : Str)]))))]
          simp only [List.map_append, List.map_cons, List.map_nil]
          rfl
        · simp [nums]; omega
        · intro h; simp [nums]; omega
theorem sc_l_spaced : FnScope ["jar", "toks", "said", "last", "tok"] ["jar", "toks"] (defScope (top 48)) := ⟨rfl, rfl, rfl, by decide +kernel, rfl, by decide +kernel, by decide +kernel⟩
theorem ok_l_spaced (T : Txt K mg A) (G_l_pick : FnAt P w K mg base 2 "_law_pick" S_l_pick) : FnAt P w K mg base 3 "_law_spaced" S_l_spaced := by
  refine fnAt_of T.F_l_spaced sc_l_spaced (fun ds M q h => by first | (obtain ⟨e, _⟩ := h; rw [e]; rfl) | (obtain ⟨_, e, _⟩ := h; rw [e]; rfl) | (obtain ⟨_, _, e, _⟩ := h; rw [e]; rfl) | (obtain ⟨_, _, _, e, _⟩ := h; rw [e]; rfl) | (obtain ⟨_, _, _, _, e, _⟩ := h; rw [e]; rfl) | (obtain ⟨_, _, _, _, _, e, _⟩ := h; rw [e]; rfl) | (obtain ⟨_, _, _, _, _, _, e, _⟩ := h; rw [e]; rfl) | (obtain ⟨_, _, _, _, _, _, _, e, _⟩ := h; rw [e]; rfl) | (obtain ⟨_, _, _, _, _, _, _, _, e, _⟩ := h; rw [e]; rfl) | (obtain ⟨_, _, _, _, _, _, _, _, _, e, _⟩ := h; rw [e]; rfl) | (obtain ⟨_, _, _, _, _, _, _, _, _, _, e, _⟩ := h; rw [e]; rfl) | (obtain ⟨_, _, _, _, _, _, _, _, _, _, _, e, _⟩ := h; rw [e]; rfl)) ?_
  intro f cdv A' outer s H E hr
  have S := sc_l_spaced
  have hu := hr.units
  have hu1 := Nat.lt_of_le_of_lt (Nat.add_le_add_left (by decide : 1 ≤ 64) _) hu
  refine ⟨_, _, (pdb_cons (pds_set (i := 2) S.nd rfl (Or.inl rfl) (pd_call G_l_pick (hr.mono (by omega)) rfl (pda_cons (pd_var 0) (pda_cons (pd_lst (pda_cons pd_str (pda_cons pd_str (pda_cons pd_str pda_nil)))) pda_nil))))
      (pdb_cons (pds_set (i := 3) S.nd rfl (Or.inl rfl) pd_str)
      (pdb_cons (pds_for PassesOwn.never rfl (pi_l (pd_var 1)) (pdg_name (i := 4) S.nd rfl (Or.inl rfl)) (pdb_cut (pds_if (PDW.pdt (pdt_and (pdt_val (pd_aln (pd_sl (pd_var 3) (pdo_some (pd_un pu_neg pd_int)) pdo_none))) (pdt_and1 (pdt_val (pd_aln (pd_sl (pd_var 4) pdo_none (pdo_some pd_int))))))) (pdb_one (pds_set (i := 2) S.nd rfl (Or.inl rfl) (pd_op po_add (pd_var 2) pd_str))) pdb_nil)
      (pdb_cons (pds_set (i := 2) S.nd rfl (Or.inl rfl) (pd_op po_add (pd_op po_add (pd_var 2) (pd_call G_l_pick (hr.mono (by omega)) rfl (pda_cons (pd_var 0) (pda_cons (pd_lst (pda_cons pd_str (pda_cons pd_str (pda_cons pd_str (pda_cons pd_str pda_nil))))) pda_nil)))) (pd_var 4)))
      (pdb_one (pds_set (i := 3) S.nd rfl (Or.inl rfl) (pd_var 4))))))
      (pdb_one (pds_ret (pd_op po_add (pd_var 2) (pd_call G_l_pick (hr.mono (by omega)) rfl (pda_cons (pd_var 0) (pda_cons (pd_lst (pda_cons pd_str (pda_cons pd_str (pda_cons pd_str pda_nil)))) pda_nil))))))))), fun ds M q h => ?_⟩
  obtain ⟨a, js, toks, rfl, hM, hj, htk, hlen, hq⟩ := h
  walk_at "w"
  refine ⟨(Nat.le_of_ble_eq_true rfl : _ ≤ sizeLine), ?_⟩
  walk_at "w"
  refine ⟨a, js, _, rfl, hM, hj, by decide, (Nat.le_of_ble_eq_true rfl : _ ≤ sizeLine), fun r js1 hr hj1 => ?_⟩
  obtain ⟨z, rfl, hz⟩ : ∃ z : Str, r = .str z ∧ z ∈ (["", " ", "  "] : List Str) := by
    simp only [List.mem_cons, List.not_mem_nil, or_false] at hr
    rcases hr with rfl | rfl | rfl <;> exact ⟨_, rfl, by decide⟩
  obtain ⟨e0, hsp, he0, hzl⟩ := blanks hz false
  walk_at "w"
  refine for_by (fun ds Γ M' => ∃ (don rest : List Str) (js : List D) (v : Option D) (e : Bool) (said last : Str), Γ = [some (.ptr a), some (.lst (toks.map .str)), some (.str said), some (.str last), v] ∧ M' = M.put a (.lst js) ∧ JarL js ∧ toks = don ++ rest ∧ ds = List.map D.str rest ∧ Sp false don said.cps.toList e ∧ (e = true → isRun last = true) ∧ said.length ≤ 43 * don.length + 2 ∧ TokOk last) ?_ ?_ _ _ _ ⟨[], toks, js1, none, e0, z, "(", rfl, rfl, hj1, rfl, rfl, hsp, fun h => by rw [he0 rfl] at h; exact Bool.noConfusion h, by simpa using hzl, tok_open⟩
  · rintro Γ M' ⟨don, rest, js, v, e, said, last, rfl, rfl, hj, ht, hds, hsp, he, hl, hlk⟩
    have hr0 : rest = [] := by
      cases rest with
      | nil => rfl
      | cons => cases hds
    subst hr0
    rw [List.append_nil] at ht
    subst ht
    walk_at "w"
    refine ⟨(Nat.le_of_ble_eq_true rfl : _ ≤ sizeLine), ?_⟩
    walk_at "w"
    refine ⟨a, js, _, rfl, Mem.put_same, hj, by decide, (Nat.le_of_ble_eq_true rfl : _ ≤ sizeLine), fun r js1 hr hj1 => ?_⟩
    rw [Mem.put_put]
    obtain ⟨z, rfl, hz⟩ : ∃ z : Str, r = .str z ∧ z ∈ (["", " ", "  "] : List Str) := by
      simp only [List.mem_cons, List.not_mem_nil, or_false] at hr
      rcases hr with rfl | rfl | rfl <;> exact ⟨_, rfl, by decide⟩
    obtain ⟨e1, hsp1, he1, hzl⟩ := blanks hz e
    walk_at "w"
    refine ⟨by unfold sizeLine; omega, ?_⟩
    have h2 := hsp.str hsp1
    rw [List.append_nil] at h2
    exact .of (hq _ js1 _ h2 (by rw [str_len_app]; omega) hj1)
  · rintro d ds Γ M' ⟨don, rest, js, v, e, said, last, rfl, rfl, hj, ht, hds, hsp, he, hl, hlk⟩ ih
    cases rest with
    | nil => cases hds
    | cons w rest =>
      cases hds
      have hw : TokOk w := htk w (by rw [ht]; exact List.mem_append_right _ (List.mem_cons_self ..))
      have hwl := tok_len hw
      have hll := tok_len hlk
      have hdl : don.length < 100000 := by
        have := congrArg List.length ht
        rw [List.length_append, List.length_cons] at this
        omega
      walk_at "w"
      refine ⟨fun Γ M' => ∃ (e : Bool) (said : Str), Γ = [some (.ptr a), some (.lst (toks.map .str)), some (.str said), some (.str last), some (.str w)] ∧ M' = M.put a (.lst js) ∧ Sp false don said.cps.toList e ∧ (isRun w = true → e = false) ∧ said.length ≤ 43 * don.length + 3, ?_, ?_⟩
      · walk_at "w"
        refine ⟨by unfold sizeLine; omega, ?_⟩
        walk_at "w"
        rw [tok_last hlk]
        refine wite_of (fun z1 => ?_) fun z1 => ⟨e, said, rfl, rfl, hsp, fun _ => ?_, by omega⟩
        · walk_at "w"
          refine ⟨by unfold sizeLine; omega, ?_⟩
          walk_at "w"
          rw [tok_first hw]
          refine wite_of (fun z2 => ?_) fun z2 => ⟨e, said, rfl, rfl, hsp, fun h => by rw [z2] at h; exact Bool.noConfusion h, by omega⟩
          walk_at "w"
          refine ⟨by show _ + 1 ≤ sizeLine; unfold sizeLine; omega, ?_⟩
          have h2 := hsp.str (y := (" " : Str)) (u := []) (.sp (.nil false))
          rw [List.append_nil] at h2
          exact ⟨false, _, rfl, rfl, h2, fun _ => rfl, by rw [str_len_app]; show _ + 1 ≤ _; omega⟩
        · cases e with
          | false => rfl
          | true => rw [he rfl] at z1; exact Bool.noConfusion z1
      · rintro Γ M1 ⟨e, said, rfl, rfl, hsp, he, hl⟩
        walk_at "w"
        refine ⟨(Nat.le_of_ble_eq_true rfl : _ ≤ sizeLine), ?_⟩
        walk_at "w"
        refine ⟨a, js, _, rfl, Mem.put_same, hj, by decide, (Nat.le_of_ble_eq_true rfl : _ ≤ sizeLine), fun r js1 hr hj1 => ?_⟩
        rw [Mem.put_put]
        obtain ⟨z, rfl, hz⟩ : ∃ z : Str, r = .str z ∧ z ∈ (["", " ", "  "] : List Str) := by
          simp only [List.mem_cons, List.not_mem_nil, or_false] at hr
          rcases hr with rfl | rfl | rfl | rfl <;> exact ⟨_, rfl, by decide⟩
        obtain ⟨e1, hsp1, he1, hzl⟩ := blanks hz e
        walk_at "w"
        refine ⟨by unfold sizeLine; omega, ?_⟩
        walk_at "w"
        refine ⟨by rw [str_len_app]; unfold sizeLine; omega, ?_⟩
        walk_at "w"
        have h2 := (hsp.str hsp1).str (Sp.tok hw fun h => he1 (he h))
        rw [List.append_nil] at h2
        refine ih _ _ ⟨don ++ [w], rest, js1, some (.str w), _, _, w, rfl, rfl, hj1, by rw [List.append_assoc]; exact ht, rfl, h2, fun h => h, ?_, hw⟩
        rw [str_len_app, str_len_app, List.length_append]
        show _ ≤ 43 * (_ + 1) + 2
        omega
end
end D2

set_option maxRecDepth 100000
set_option maxHeartbeats 2000000
set_option pp.maxSteps 400
set_option pp.deepTerms false
namespace D2
open PySem PySem.Spec PyProof.Rows L2
local macro_rules | `(tactic| walk_at "wp") => `(tactic| conv => whnf)
local macro_rules | `(tactic| walk_at "w") => `(tactic| (conv => whnf) <;> repeat ((first | rw [seqD_ptr Mem.put_same] | rw [atI_zero] | rw [lstD_ptr Mem.put_same] | rw [dctD_ptr Mem.put_same] | rw [objD_ptr Mem.put_same] | rw [Mem.put_same]); conv => whnf))
local macro_rules | `(tactic| walk_at "v") => `(tactic| (conv => whnf) <;> repeat ((first | rw [seqD_ptr Mem.put_same] | rw [atI_zero] | rw [Mem.put_same] | rw [seqD_ptr (Mem.at2 (by assumption))] | rw [Mem.at2 (by assumption)]); conv => whnf))
local macro_rules | `(tactic| walk_at "a") => `(tactic| (walk_at "w") <;> repeat (refine ⟨(by first | exact mulR ⟨by omega, by omega⟩ | exact mulL ⟨by omega, by omega⟩ | (show (0 : Int) < _; omega) | exact ⟨by omega, by decide +kernel⟩ | exact ⟨by decide, by decide, by decide⟩), ?_⟩ <;> walk_at "w"))
local macro_rules | `(tactic| walk_at "i") => `(tactic| ((walk_at "w") <;> (refine ⟨trivial, by first | exact .inl rfl | exact .inr (.inl rfl) | exact .inr (.inr (.inl rfl)) | exact .inr (.inr (.inr (.inl rfl))) | exact .inr (.inr (.inr (.inr (.inl rfl)))), ?_⟩)))
section
variable {P : Program} {w : World} {K : W.Frag} {mg : Str → Option Value} {base : Heap} {A : Ad}
theorem sc_l_twin : FnScope ["jar", "tree", "sort", "far"] ["jar", "tree"] (defScope (top 55)) := ⟨rfl, rfl, rfl, by decide +kernel, rfl, by decide +kernel, by decide +kernel⟩
theorem ok_l_twin (T : Txt K mg A) (G_l_draw : FnAt P w K mg base 1 "_law_draw" S_l_draw) (n : Nat) : FnAt P w K mg base (n + 2) "_law_twin" (S_l_twin n) := by
  induction n with
  | zero => exact fnAt_no T.F_l_twin (fun ds M q h => by obtain ⟨_,_,_,_,h,_⟩ := h; omega)
  | succ n ih =>
    have G_l_twin := ih
    refine fnAt_of T.F_l_twin sc_l_twin (fun ds M q h => by first | (obtain ⟨e, _⟩ := h; rw [e]; rfl) | (obtain ⟨_, e, _⟩ := h; rw [e]; rfl) | (obtain ⟨_, _, e, _⟩ := h; rw [e]; rfl) | (obtain ⟨_, _, _, e, _⟩ := h; rw [e]; rfl) | (obtain ⟨_, _, _, _, e, _⟩ := h; rw [e]; rfl) | (obtain ⟨_, _, _, _, _, e, _⟩ := h; rw [e]; rfl) | (obtain ⟨_, _, _, _, _, _, e, _⟩ := h; rw [e]; rfl) | (obtain ⟨_, _, _, _, _, _, _, e, _⟩ := h; rw [e]; rfl) | (obtain ⟨_, _, _, _, _, _, _, _, e, _⟩ := h; rw [e]; rfl) | (obtain ⟨_, _, _, _, _, _, _, _, _, e, _⟩ := h; rw [e]; rfl) | (obtain ⟨_, _, _, _, _, _, _, _, _, _, e, _⟩ := h; rw [e]; rfl) | (obtain ⟨_, _, _, _, _, _, _, _, _, _, _, e, _⟩ := h; rw [e]; rfl)) ?_
    intro f cdv A' outer s H E hr
    have S := sc_l_twin
    have hu := hr.units
    have hu1 := Nat.lt_of_le_of_lt (Nat.add_le_add_left (by decide : 1 ≤ 64) _) hu
    refine ⟨_, _, (pdb_cons (pds_set (i := 2) S.nd rfl (Or.inl rfl) (pd_ix (pd_var 1) pd_int fun _ _ => rfl))
      (pdb_cons (pds_if (pdt_cmp po_in (pd_var 2) (pd_lst (pda_cons pd_str (pda_cons pd_str (pda_cons pd_str (pda_cons pd_str pda_nil))))) (by with_unfolding_all rfl)) (pdb_cons (pds_set (i := 3) S.nd rfl (Or.inl rfl) (pd_call G_l_draw (hr.mono (by omega)) rfl (pda_cons (pd_var 0) (pda_cons pd_int pda_nil))))
      (pdb_cut (pds_if (pdt_cmp (po_eq hu) (pd_var 3) pd_int (nomark _)) (pdb_one (pds_ret (pd_tup (pda_cons (pd_var 2) (pda_cons (pd_ix (pd_var 1) pd_int fun _ _ => rfl) (pda_cons (pd_ix (pd_var 1) pd_int fun _ _ => rfl) pda_nil)))))) pdb_nil)
      (pdb_cut (pds_if (PDW.pdt (pdt_and (pdt_cmp (po_eq hu) (pd_var 3) pd_int (nomark _)) (pdt_and1 (pdt_cmp (po_eq hu) (pd_ix (pd_ix (pd_var 1) pd_int fun _ _ => rfl) pd_int fun _ _ => rfl) (pd_var 2) (nomark _))))) (pdb_one (pds_ret (pd_tup (pda_cons (pd_var 2) (pda_cons (pd_tup (pda_cons (pd_var 2) (pda_cons (pd_ix (pd_var 1) pd_int fun _ _ => rfl) (pda_cons (pd_ix (pd_ix (pd_var 1) pd_int fun _ _ => rfl) pd_int fun _ _ => rfl) pda_nil)))) (pda_cons (pd_ix (pd_ix (pd_var 1) pd_int fun _ _ => rfl) pd_int fun _ _ => rfl) pda_nil)))))) pdb_nil)
      (pdb_cut (pds_if (PDW.pdt (pdt_and (pdt_cmp (po_eq hu) (pd_var 3) pd_int (nomark _)) (pdt_and1 (pdt_cmp (po_eq hu) (pd_ix (pd_ix (pd_var 1) pd_int fun _ _ => rfl) pd_int fun _ _ => rfl) (pd_var 2) (nomark _))))) (pdb_one (pds_ret (pd_tup (pda_cons (pd_var 2) (pda_cons (pd_ix (pd_ix (pd_var 1) pd_int fun _ _ => rfl) pd_int fun _ _ => rfl) (pda_cons (pd_tup (pda_cons (pd_var 2) (pda_cons (pd_ix (pd_ix (pd_var 1) pd_int fun _ _ => rfl) pd_int fun _ _ => rfl) (pda_cons (pd_ix (pd_var 1) pd_int fun _ _ => rfl) pda_nil)))) pda_nil)))))) pdb_nil)
      (pdb_cut (pds_if (pdt_cmp (po_eq hu) (pd_var 3) pd_int (nomark _)) (pdb_one (pds_ret (pd_tup (pda_cons (pd_var 2) (pda_cons (pd_ix (pd_var 1) pd_int fun _ _ => rfl) (pda_cons (pd_call G_l_twin hr rfl (pda_cons (pd_var 0) (pda_cons (pd_ix (pd_var 1) pd_int fun _ _ => rfl) pda_nil))) pda_nil)))))) pdb_nil)
      (pdb_one (pds_ret (pd_tup (pda_cons (pd_var 2) (pda_cons (pd_call G_l_twin hr rfl (pda_cons (pd_var 0) (pda_cons (pd_ix (pd_var 1) pd_int fun _ _ => rfl) pda_nil))) (pda_cons (pd_ix (pd_var 1) pd_int fun _ _ => rfl) pda_nil))))))))))) pdb_nil)
      (pdb_cons (pds_if (pdt_cmp (po_eq hu) (pd_var 2) pd_str (nomark _)) (pdb_one (pds_ret (pd_tup (pda_cons pd_str (pda_cons (pd_ix (pd_var 1) pd_int fun _ _ => rfl) (pda_cons (pd_op po_mod (pd_callTy pc_int rfl T.n_int (by decide +kernel) (pda_cons (pd_op po_add (pd_ix (pd_var 1) pd_int fun _ _ => rfl) pd_int) pda_nil)) pd_int) pda_nil)))))) pdb_nil)
      (pdb_cons (pds_if (pdt_cmp (po_eq hu) (pd_var 2) pd_str (nomark _)) (pdb_one (pds_ret (pd_ix (pd_var 1) pd_int fun _ _ => rfl))) pdb_nil)
      (pdb_one (pds_ret (pd_tup (pda_cons pd_str (pda_cons (pd_var 1) pda_nil))))))))), fun ds M q h => ?_⟩
    obtain ⟨a, js, t, rfl, hd, hM, hj, ⟨ok, h16⟩, hq⟩ := h
    have fin : ∀ t' js' (x : D), x = encT t' → GoodT t' → t'.deep ≤ t.deep + 1 → JarL js' → Rt q x (M.put a (.lst js')) := fun t' js' x e h1 h2 h3 => .of (by rw [e]; exact hq t' js' h1 h2 h3)
    have fin0 : ∀ t' (x : D), x = encT t' → GoodT t' → t'.deep ≤ t.deep + 1 → Rt q x M := fun t' x e h1 h2 => by
      have := fin t' js x e h1 h2 hj
      rw [Mem.put_self hM] at this
      exact this
    cases t with
    | num n =>
      walk_at "w"
      refine ⟨(Nat.le_of_ble_eq_true rfl : _ ≤ sizeLine), ?_⟩
      walk_at "w"
      refine ⟨rfl, rfl, ?_⟩
      walk_at "w"
      refine ⟨(Nat.le_of_ble_eq_true rfl : _ ≤ sizeLine), ?_⟩
      exact fin0 (.neg (.num n)) _ rfl ok (Nat.le_refl _)
    | name n =>
      walk_at "w"
      refine ⟨(Nat.le_of_ble_eq_true rfl : _ ≤ sizeLine), ?_⟩
      walk_at "w"
      refine ⟨rfl, rfl, ?_⟩
      walk_at "w"
      refine ⟨(Nat.le_of_ble_eq_true rfl : _ ≤ sizeLine), ?_⟩
      exact fin0 (.neg (.name n)) _ rfl ok (Nat.le_refl _)
    | im =>
      walk_at "w"
      refine ⟨(Nat.le_of_ble_eq_true rfl : _ ≤ sizeLine), ?_⟩
      walk_at "w"
      refine ⟨rfl, rfl, ?_⟩
      walk_at "w"
      refine ⟨(Nat.le_of_ble_eq_true rfl : _ ≤ sizeLine), ?_⟩
      exact fin0 (.neg .im) _ rfl ok (Nat.le_refl _)
    | neg t =>
      walk_at "w"
      refine ⟨(Nat.le_of_ble_eq_true rfl : _ ≤ sizeLine), ?_⟩
      walk_at "w"
      refine ⟨rfl, rfl, ?_⟩
      walk_at "w"
      refine ⟨(Nat.le_of_ble_eq_true rfl : _ ≤ sizeLine), ?_⟩
      exact fin0 (.neg (.neg t)) _ rfl ok (Nat.le_refl _)
    | root t =>
      walk_at "w"
      refine ⟨(Nat.le_of_ble_eq_true rfl : _ ≤ sizeLine), ?_⟩
      walk_at "w"
      refine ⟨rfl, rfl, ?_⟩
      walk_at "w"
      exact fin0 t _ rfl ok (by show _ ≤ t.deep + 1 + 1; omega)
    | pow t e =>
      walk_at "w"
      refine ⟨(Nat.le_of_ble_eq_true rfl : _ ≤ sizeLine), ?_⟩
      walk_at "w"
      refine ⟨rfl, rfl, ?_⟩
      walk_at "a"
      refine ⟨(Nat.le_of_ble_eq_true rfl : _ ≤ sizeLine), ?_⟩
      exact fin0 (.pow t ((e + 1) % 1000)) _ rfl ⟨ok.1, Int.emod_nonneg _ (by decide), Int.emod_lt_of_pos _ (by decide)⟩ (by show t.deep + 1 ≤ t.deep + 1 + 1; omega)
    | bin o x y =>
      have hdx : x.deep < n := by simp only [Tr.deep] at hd; omega
      have hdy : y.deep < n := by simp only [Tr.deep] at hd; omega
      have hx16 : x.deep ≤ 16 := by simp only [Tr.deep] at h16; omega
      have hy16 : y.deep ≤ 16 := by simp only [Tr.deep] at h16; omega
      obtain ⟨dx, ex⟩ := encT_tag x
      obtain ⟨dy, ey⟩ := encT_tag y
      have dsw : (Tr.bin o y x).deep ≤ (Tr.bin o x y).deep + 1 := by simp only [Tr.deep]; omega
      have fr : ∀ t' js', GoodT t' → t'.deep ≤ y.deep + 1 → JarL js' → Rt q (encT (.bin o x t')) (M.put a (.lst js')) := fun t' js' h1 h2 h3 => fin _ js' _ rfl ⟨ok.1, h1⟩ (by simp only [Tr.deep]; omega) h3
      have fl : ∀ t' js', GoodT t' → t'.deep ≤ x.deep + 1 → JarL js' → Rt q (encT (.bin o t' y)) (M.put a (.lst js')) := fun t' js' h1 h2 h3 => fin _ js' _ rfl ⟨h1, ok.2⟩ (by simp only [Tr.deep]; omega) h3
      have fas : ∀ u v js', y = .bin o u v → JarL js' → Rt q (encT (.bin o (.bin o x u) v)) (M.put a (.lst js')) := fun u v js' e h3 => by
        subst e
        exact fin _ js' _ rfl ⟨⟨ok.1, ok.2.1⟩, ok.2.2⟩ (by simp only [Tr.deep]; omega) h3
      have fbs : ∀ u v js', x = .bin o u v → JarL js' → Rt q (encT (.bin o u (.bin o v y))) (M.put a (.lst js')) := fun u v js' e h3 => by
        subst e
        exact fin _ js' _ rfl ⟨ok.1.1, ⟨ok.1.2, ok.2⟩⟩ (by simp only [Tr.deep]; omega) h3
      have tby : tagT y = o.tag → ∃ u v, y = .bin o u v := tag_bin
      have tbx : tagT x = o.tag → ∃ u v, x = .bin o u v := tag_bin
      cases o with
      | add =>
        walk_at "w"
        refine ⟨(Nat.le_of_ble_eq_true rfl : _ ≤ sizeLine), ?_⟩
        walk_at "w"
        refine ⟨rfl, rfl, ?_⟩
        walk_at "w"
        refine ⟨a, 4, js, rfl, hM, hj, ⟨by decide, by decide +kernel⟩, fun r js2 r0 r1 hj2 => ?_⟩
        walk_at "w"
        refine ⟨fun Γ M' => Γ = [some (.ptr a), some (encT (.bin .add x y)), some (.str (Bn.tag .add)), some (.int r)] ∧ M' = M.put a (.lst js2), ?_, ?_⟩
        · walk_at "w"
          refine wite_d (fun z => ?_) fun z => ⟨rfl, rfl⟩
          walk_at "w"
          refine ⟨(Nat.le_of_ble_eq_true rfl : _ ≤ sizeLine), ?_⟩
          exact fin (.bin _ y x) js2 _ rfl ⟨ok.2, ok.1⟩ dsw hj2
        rintro Γ M1 ⟨rfl, rfl⟩
        walk_at "w"
        refine ⟨fun Γ M' => Γ = [some (.ptr a), some (encT (.bin .add x y)), some (.str (Bn.tag .add)), some (.int r)] ∧ M' = M.put a (.lst js2), ?_, ?_⟩
        · walk_at "w"
          refine wite_d (fun z => ?_) fun z => ⟨rfl, rfl⟩
          by_cases hy : tagT y = Bn.tag .add
          · obtain ⟨u, v, rfl⟩ := tby hy
            walk_at "w"
            refine ⟨(Nat.le_of_ble_eq_true rfl : _ ≤ sizeLine), ?_⟩
            walk_at "w"
            refine ⟨(Nat.le_of_ble_eq_true rfl : _ ≤ sizeLine), ?_⟩
            exact fas u v js2 rfl hj2
          · walk_at "w"
            rw [ey]
            walk_at "w"
            exact wite_f (decide_eq_false hy) ⟨by simp only [encT, ey]; try rfl, rfl⟩
        rintro Γ M1 ⟨rfl, rfl⟩
        walk_at "w"
        refine ⟨fun Γ M' => Γ = [some (.ptr a), some (encT (.bin .add x y)), some (.str (Bn.tag .add)), some (.int r)] ∧ M' = M.put a (.lst js2), ?_, ?_⟩
        · walk_at "w"
          refine wite_d (fun z => ?_) fun z => ⟨rfl, rfl⟩
          by_cases hx : tagT x = Bn.tag .add
          · obtain ⟨u, v, rfl⟩ := tbx hx
            walk_at "w"
            refine ⟨(Nat.le_of_ble_eq_true rfl : _ ≤ sizeLine), ?_⟩
            walk_at "w"
            refine ⟨(Nat.le_of_ble_eq_true rfl : _ ≤ sizeLine), ?_⟩
            exact fbs u v js2 rfl hj2
          · walk_at "w"
            rw [ex]
            walk_at "w"
            exact wite_f (decide_eq_false hx) ⟨by simp only [encT, ex]; try rfl, rfl⟩
        rintro Γ M1 ⟨rfl, rfl⟩
        walk_at "w"
        refine ⟨fun Γ M' => Γ = [some (.ptr a), some (encT (.bin .add x y)), some (.str (Bn.tag .add)), some (.int r)] ∧ M' = M.put a (.lst js2), ?_, ?_⟩
        · walk_at "w"
          refine wite_d (fun z => ?_) fun z => ⟨rfl, rfl⟩
          walk_at "w"
          refine ⟨a, js2, y, rfl, hdy, Mem.put_same, hj2, ⟨ok.2, hy16⟩, fun t' js3 h1 h2 h3 => ?_⟩
          rw [Mem.put_put]
          walk_at "w"
          refine ⟨(Nat.le_of_ble_eq_true rfl : _ ≤ sizeLine), ?_⟩
          exact fr t' js3 h1 h2 h3
        rintro Γ M1 ⟨rfl, rfl⟩
        walk_at "w"
        refine ⟨a, js2, x, rfl, hdx, Mem.put_same, hj2, ⟨ok.1, hx16⟩, fun t' js3 h1 h2 h3 => ?_⟩
        rw [Mem.put_put]
        walk_at "w"
        refine ⟨(Nat.le_of_ble_eq_true rfl : _ ≤ sizeLine), ?_⟩
        exact fl t' js3 h1 h2 h3
      | sub =>
        walk_at "w"
        refine ⟨(Nat.le_of_ble_eq_true rfl : _ ≤ sizeLine), ?_⟩
        walk_at "w"
        refine ⟨rfl, rfl, ?_⟩
        walk_at "w"
        refine ⟨a, 4, js, rfl, hM, hj, ⟨by decide, by decide +kernel⟩, fun r js2 r0 r1 hj2 => ?_⟩
        walk_at "w"
        refine ⟨fun Γ M' => Γ = [some (.ptr a), some (encT (.bin .sub x y)), some (.str (Bn.tag .sub)), some (.int r)] ∧ M' = M.put a (.lst js2), ?_, ?_⟩
        · walk_at "w"
          refine wite_d (fun z => ?_) fun z => ⟨rfl, rfl⟩
          walk_at "w"
          refine ⟨(Nat.le_of_ble_eq_true rfl : _ ≤ sizeLine), ?_⟩
          exact fin (.bin _ y x) js2 _ rfl ⟨ok.2, ok.1⟩ dsw hj2
        rintro Γ M1 ⟨rfl, rfl⟩
        walk_at "w"
        refine ⟨fun Γ M' => Γ = [some (.ptr a), some (encT (.bin .sub x y)), some (.str (Bn.tag .sub)), some (.int r)] ∧ M' = M.put a (.lst js2), ?_, ?_⟩
        · walk_at "w"
          refine wite_d (fun z => ?_) fun z => ⟨rfl, rfl⟩
          by_cases hy : tagT y = Bn.tag .sub
          · obtain ⟨u, v, rfl⟩ := tby hy
            walk_at "w"
            refine ⟨(Nat.le_of_ble_eq_true rfl : _ ≤ sizeLine), ?_⟩
            walk_at "w"
            refine ⟨(Nat.le_of_ble_eq_true rfl : _ ≤ sizeLine), ?_⟩
            exact fas u v js2 rfl hj2
          · walk_at "w"
            rw [ey]
            walk_at "w"
            exact wite_f (decide_eq_false hy) ⟨by simp only [encT, ey]; try rfl, rfl⟩
        rintro Γ M1 ⟨rfl, rfl⟩
        walk_at "w"
        refine ⟨fun Γ M' => Γ = [some (.ptr a), some (encT (.bin .sub x y)), some (.str (Bn.tag .sub)), some (.int r)] ∧ M' = M.put a (.lst js2), ?_, ?_⟩
        · walk_at "w"
          refine wite_d (fun z => ?_) fun z => ⟨rfl, rfl⟩
          by_cases hx : tagT x = Bn.tag .sub
          · obtain ⟨u, v, rfl⟩ := tbx hx
            walk_at "w"
            refine ⟨(Nat.le_of_ble_eq_true rfl : _ ≤ sizeLine), ?_⟩
            walk_at "w"
            refine ⟨(Nat.le_of_ble_eq_true rfl : _ ≤ sizeLine), ?_⟩
            exact fbs u v js2 rfl hj2
          · walk_at "w"
            rw [ex]
            walk_at "w"
            exact wite_f (decide_eq_false hx) ⟨by simp only [encT, ex]; try rfl, rfl⟩
        rintro Γ M1 ⟨rfl, rfl⟩
        walk_at "w"
        refine ⟨fun Γ M' => Γ = [some (.ptr a), some (encT (.bin .sub x y)), some (.str (Bn.tag .sub)), some (.int r)] ∧ M' = M.put a (.lst js2), ?_, ?_⟩
        · walk_at "w"
          refine wite_d (fun z => ?_) fun z => ⟨rfl, rfl⟩
          walk_at "w"
          refine ⟨a, js2, y, rfl, hdy, Mem.put_same, hj2, ⟨ok.2, hy16⟩, fun t' js3 h1 h2 h3 => ?_⟩
          rw [Mem.put_put]
          walk_at "w"
          refine ⟨(Nat.le_of_ble_eq_true rfl : _ ≤ sizeLine), ?_⟩
          exact fr t' js3 h1 h2 h3
        rintro Γ M1 ⟨rfl, rfl⟩
        walk_at "w"
        refine ⟨a, js2, x, rfl, hdx, Mem.put_same, hj2, ⟨ok.1, hx16⟩, fun t' js3 h1 h2 h3 => ?_⟩
        rw [Mem.put_put]
        walk_at "w"
        refine ⟨(Nat.le_of_ble_eq_true rfl : _ ≤ sizeLine), ?_⟩
        exact fl t' js3 h1 h2 h3
      | mul =>
        walk_at "w"
        refine ⟨(Nat.le_of_ble_eq_true rfl : _ ≤ sizeLine), ?_⟩
        walk_at "w"
        refine ⟨rfl, rfl, ?_⟩
        walk_at "w"
        refine ⟨a, 4, js, rfl, hM, hj, ⟨by decide, by decide +kernel⟩, fun r js2 r0 r1 hj2 => ?_⟩
        walk_at "w"
        refine ⟨fun Γ M' => Γ = [some (.ptr a), some (encT (.bin .mul x y)), some (.str (Bn.tag .mul)), some (.int r)] ∧ M' = M.put a (.lst js2), ?_, ?_⟩
        · walk_at "w"
          refine wite_d (fun z => ?_) fun z => ⟨rfl, rfl⟩
          walk_at "w"
          refine ⟨(Nat.le_of_ble_eq_true rfl : _ ≤ sizeLine), ?_⟩
          exact fin (.bin _ y x) js2 _ rfl ⟨ok.2, ok.1⟩ dsw hj2
        rintro Γ M1 ⟨rfl, rfl⟩
        walk_at "w"
        refine ⟨fun Γ M' => Γ = [some (.ptr a), some (encT (.bin .mul x y)), some (.str (Bn.tag .mul)), some (.int r)] ∧ M' = M.put a (.lst js2), ?_, ?_⟩
        · walk_at "w"
          refine wite_d (fun z => ?_) fun z => ⟨rfl, rfl⟩
          by_cases hy : tagT y = Bn.tag .mul
          · obtain ⟨u, v, rfl⟩ := tby hy
            walk_at "w"
            refine ⟨(Nat.le_of_ble_eq_true rfl : _ ≤ sizeLine), ?_⟩
            walk_at "w"
            refine ⟨(Nat.le_of_ble_eq_true rfl : _ ≤ sizeLine), ?_⟩
            exact fas u v js2 rfl hj2
          · walk_at "w"
            rw [ey]
            walk_at "w"
            exact wite_f (decide_eq_false hy) ⟨by simp only [encT, ey]; try rfl, rfl⟩
        rintro Γ M1 ⟨rfl, rfl⟩
        walk_at "w"
        refine ⟨fun Γ M' => Γ = [some (.ptr a), some (encT (.bin .mul x y)), some (.str (Bn.tag .mul)), some (.int r)] ∧ M' = M.put a (.lst js2), ?_, ?_⟩
        · walk_at "w"
          refine wite_d (fun z => ?_) fun z => ⟨rfl, rfl⟩
          by_cases hx : tagT x = Bn.tag .mul
          · obtain ⟨u, v, rfl⟩ := tbx hx
            walk_at "w"
            refine ⟨(Nat.le_of_ble_eq_true rfl : _ ≤ sizeLine), ?_⟩
            walk_at "w"
            refine ⟨(Nat.le_of_ble_eq_true rfl : _ ≤ sizeLine), ?_⟩
            exact fbs u v js2 rfl hj2
          · walk_at "w"
            rw [ex]
            walk_at "w"
            exact wite_f (decide_eq_false hx) ⟨by simp only [encT, ex]; try rfl, rfl⟩
        rintro Γ M1 ⟨rfl, rfl⟩
        walk_at "w"
        refine ⟨fun Γ M' => Γ = [some (.ptr a), some (encT (.bin .mul x y)), some (.str (Bn.tag .mul)), some (.int r)] ∧ M' = M.put a (.lst js2), ?_, ?_⟩
        · walk_at "w"
          refine wite_d (fun z => ?_) fun z => ⟨rfl, rfl⟩
          walk_at "w"
          refine ⟨a, js2, y, rfl, hdy, Mem.put_same, hj2, ⟨ok.2, hy16⟩, fun t' js3 h1 h2 h3 => ?_⟩
          rw [Mem.put_put]
          walk_at "w"
          refine ⟨(Nat.le_of_ble_eq_true rfl : _ ≤ sizeLine), ?_⟩
          exact fr t' js3 h1 h2 h3
        rintro Γ M1 ⟨rfl, rfl⟩
        walk_at "w"
        refine ⟨a, js2, x, rfl, hdx, Mem.put_same, hj2, ⟨ok.1, hx16⟩, fun t' js3 h1 h2 h3 => ?_⟩
        rw [Mem.put_put]
        walk_at "w"
        refine ⟨(Nat.le_of_ble_eq_true rfl : _ ≤ sizeLine), ?_⟩
        exact fl t' js3 h1 h2 h3
      | div =>
        walk_at "w"
        refine ⟨(Nat.le_of_ble_eq_true rfl : _ ≤ sizeLine), ?_⟩
        walk_at "w"
        refine ⟨rfl, rfl, ?_⟩
        walk_at "w"
        refine ⟨a, 4, js, rfl, hM, hj, ⟨by decide, by decide +kernel⟩, fun r js2 r0 r1 hj2 => ?_⟩
        walk_at "w"
        refine ⟨fun Γ M' => Γ = [some (.ptr a), some (encT (.bin .div x y)), some (.str (Bn.tag .div)), some (.int r)] ∧ M' = M.put a (.lst js2), ?_, ?_⟩
        · walk_at "w"
          refine wite_d (fun z => ?_) fun z => ⟨rfl, rfl⟩
          walk_at "w"
          refine ⟨(Nat.le_of_ble_eq_true rfl : _ ≤ sizeLine), ?_⟩
          exact fin (.bin _ y x) js2 _ rfl ⟨ok.2, ok.1⟩ dsw hj2
        rintro Γ M1 ⟨rfl, rfl⟩
        walk_at "w"
        refine ⟨fun Γ M' => Γ = [some (.ptr a), some (encT (.bin .div x y)), some (.str (Bn.tag .div)), some (.int r)] ∧ M' = M.put a (.lst js2), ?_, ?_⟩
        · walk_at "w"
          refine wite_d (fun z => ?_) fun z => ⟨rfl, rfl⟩
          by_cases hy : tagT y = Bn.tag .div
          · obtain ⟨u, v, rfl⟩ := tby hy
            walk_at "w"
            refine ⟨(Nat.le_of_ble_eq_true rfl : _ ≤ sizeLine), ?_⟩
            walk_at "w"
            refine ⟨(Nat.le_of_ble_eq_true rfl : _ ≤ sizeLine), ?_⟩
            exact fas u v js2 rfl hj2
          · walk_at "w"
            rw [ey]
            walk_at "w"
            exact wite_f (decide_eq_false hy) ⟨by simp only [encT, ey]; try rfl, rfl⟩
        rintro Γ M1 ⟨rfl, rfl⟩
        walk_at "w"
        refine ⟨fun Γ M' => Γ = [some (.ptr a), some (encT (.bin .div x y)), some (.str (Bn.tag .div)), some (.int r)] ∧ M' = M.put a (.lst js2), ?_, ?_⟩
        · walk_at "w"
          refine wite_d (fun z => ?_) fun z => ⟨rfl, rfl⟩
          by_cases hx : tagT x = Bn.tag .div
          · obtain ⟨u, v, rfl⟩ := tbx hx
            walk_at "w"
            refine ⟨(Nat.le_of_ble_eq_true rfl : _ ≤ sizeLine), ?_⟩
            walk_at "w"
            refine ⟨(Nat.le_of_ble_eq_true rfl : _ ≤ sizeLine), ?_⟩
            exact fbs u v js2 rfl hj2
          · walk_at "w"
            rw [ex]
            walk_at "w"
            exact wite_f (decide_eq_false hx) ⟨by simp only [encT, ex]; try rfl, rfl⟩
        rintro Γ M1 ⟨rfl, rfl⟩
        walk_at "w"
        refine ⟨fun Γ M' => Γ = [some (.ptr a), some (encT (.bin .div x y)), some (.str (Bn.tag .div)), some (.int r)] ∧ M' = M.put a (.lst js2), ?_, ?_⟩
        · walk_at "w"
          refine wite_d (fun z => ?_) fun z => ⟨rfl, rfl⟩
          walk_at "w"
          refine ⟨a, js2, y, rfl, hdy, Mem.put_same, hj2, ⟨ok.2, hy16⟩, fun t' js3 h1 h2 h3 => ?_⟩
          rw [Mem.put_put]
          walk_at "w"
          refine ⟨(Nat.le_of_ble_eq_true rfl : _ ≤ sizeLine), ?_⟩
          exact fr t' js3 h1 h2 h3
        rintro Γ M1 ⟨rfl, rfl⟩
        walk_at "w"
        refine ⟨a, js2, x, rfl, hdx, Mem.put_same, hj2, ⟨ok.1, hx16⟩, fun t' js3 h1 h2 h3 => ?_⟩
        rw [Mem.put_put]
        walk_at "w"
        refine ⟨(Nat.le_of_ble_eq_true rfl : _ ≤ sizeLine), ?_⟩
        exact fl t' js3 h1 h2 h3
end
end D2

set_option maxRecDepth 100000
set_option maxHeartbeats 2000000
set_option pp.maxSteps 400
set_option pp.deepTerms false
namespace D2
open PySem PySem.Spec PyProof.Rows L2
local macro_rules | `(tactic| walk_at "wp") => `(tactic| conv => whnf)
local macro_rules | `(tactic| walk_at "w") => `(tactic| (conv => whnf) <;> repeat ((first | rw [seqD_ptr Mem.put_same] | rw [atI_zero] | rw [lstD_ptr Mem.put_same] | rw [dctD_ptr Mem.put_same] | rw [objD_ptr Mem.put_same] | rw [Mem.put_same]); conv => whnf))
local macro_rules | `(tactic| walk_at "v") => `(tactic| (conv => whnf) <;> repeat ((first | rw [seqD_ptr Mem.put_same] | rw [atI_zero] | rw [Mem.put_same] | rw [seqD_ptr (Mem.at2 (by assumption))] | rw [Mem.at2 (by assumption)]); conv => whnf))
local macro_rules | `(tactic| walk_at "a") => `(tactic| (walk_at "w") <;> repeat (refine ⟨(by first | exact mulR ⟨by omega, by omega⟩ | exact mulL ⟨by omega, by omega⟩ | (show (0 : Int) < _; omega) | exact ⟨by omega, by decide +kernel⟩ | exact ⟨by decide, by decide, by decide⟩), ?_⟩ <;> walk_at "w"))
local macro_rules | `(tactic| walk_at "i") => `(tactic| ((walk_at "w") <;> (refine ⟨trivial, by first | exact .inl rfl | exact .inr (.inl rfl) | exact .inr (.inr (.inl rfl)) | exact .inr (.inr (.inr (.inl rfl))) | exact .inr (.inr (.inr (.inr (.inl rfl)))), ?_⟩)))
section
variable {P : Program} {w : World} {K : W.Frag} {mg : Str → Option Value} {base : Heap} {A : Ad}
theorem sc_l_tokens : FnScope ["said", "made", "k", "end"] ["said"] (defScope (top 41)) := ⟨rfl, rfl, rfl, by decide +kernel, rfl, by decide +kernel, by decide +kernel⟩
theorem ok_l_tokens (T : Txt K mg A) : FnAt P w K mg base 1 "_law_tokens" S_l_tokens := by
  refine fnAt_of T.F_l_tokens sc_l_tokens (fun ds M q h => by first | (obtain ⟨e, _⟩ := h; rw [e]; rfl) | (obtain ⟨_, e, _⟩ := h; rw [e]; rfl) | (obtain ⟨_, _, e, _⟩ := h; rw [e]; rfl) | (obtain ⟨_, _, _, e, _⟩ := h; rw [e]; rfl) | (obtain ⟨_, _, _, _, e, _⟩ := h; rw [e]; rfl) | (obtain ⟨_, _, _, _, _, e, _⟩ := h; rw [e]; rfl) | (obtain ⟨_, _, _, _, _, _, e, _⟩ := h; rw [e]; rfl) | (obtain ⟨_, _, _, _, _, _, _, e, _⟩ := h; rw [e]; rfl) | (obtain ⟨_, _, _, _, _, _, _, _, e, _⟩ := h; rw [e]; rfl) | (obtain ⟨_, _, _, _, _, _, _, _, _, e, _⟩ := h; rw [e]; rfl) | (obtain ⟨_, _, _, _, _, _, _, _, _, _, e, _⟩ := h; rw [e]; rfl) | (obtain ⟨_, _, _, _, _, _, _, _, _, _, _, e, _⟩ := h; rw [e]; rfl)) ?_
  intro f cdv A' outer s H E hr
  have S := sc_l_tokens
  have hu := hr.units
  have hu1 := Nat.lt_of_le_of_lt (Nat.add_le_add_left (by decide : 1 ≤ 64) _) hu
  refine ⟨_, _, (pdb_cons (pds_set (i := 1) S.nd rfl (Or.inl rfl) (pd_lstP pda_nil))
      (pdb_cons (pds_set (i := 2) S.nd rfl (Or.inl rfl) pd_int)
      (pdb_cons (pds_while PassesOwn.never (pdt_cmp po_lt (pd_var 2) (pd_callB pc_len rfl T.n_len (by decide +kernel) (pda_cons (pd_var 0) pda_nil)) (nomark _)) (pdb_cons (pds_set (i := 3) S.nd rfl (Or.inl rfl) (pd_var 2))
      (pdb_cut (pds_while PassesOwn.never (PDW.pdt (pdt_and (pdt_cmp po_lt (pd_var 3) (pd_callB pc_len rfl T.n_len (by decide +kernel) (pda_cons (pd_var 0) pda_nil)) (nomark _)) (pdt_and1 (pdt_cmp po_in (pd_ix (pd_var 0) (pd_var 3) fun _ _ => rfl) (pd_callTy (pc_list rfl) rfl T.n_list (by decide +kernel) (pda_cons pd_str pda_nil)) (by with_unfolding_all rfl))))) (pdb_one (pds_set (i := 3) S.nd rfl (Or.inl rfl) (pd_op po_add (pd_var 3) pd_int))))
      (pdb_one (pds_if (pdt_cmp po_gt (pd_var 3) (pd_var 2) (nomark _)) (pdb_cons (pds_expr (pd_app (pd_var 1) (pd_tup (pda_cons (pd_sl (pd_var 0) (pdo_some (pd_var 2)) (pdo_some (pd_var 3))) (pda_cons (pd_var 2) pda_nil)))))
      (pdb_one (pds_set (i := 2) S.nd rfl (Or.inl rfl) (pd_var 3)))) (pdb_cons (pds_if (pdt_cmp (po_ne hu) (pd_ix (pd_var 0) (pd_var 2) fun _ _ => rfl) pd_str (nomark _)) (pdb_one (pds_expr (pd_app (pd_var 1) (pd_tup (pda_cons (pd_ix (pd_var 0) (pd_var 2) fun _ _ => rfl) (pda_cons (pd_var 2) pda_nil)))))) pdb_nil)
      (pdb_one (pds_set (i := 2) S.nd rfl (Or.inl rfl) (pd_op po_add (pd_var 2) pd_int)))))))))
      (pdb_one (pds_ret (pd_frz (pd_var 1))))))), fun ds M q h => ?_⟩
  obtain ⟨z, rfl, hz, hq⟩ := h
  have hlen : z.length = z.cps.toList.length := TL.len_tl z
  walk_at "w"
  refine ⟨(Nat.le_of_ble_eq_true rfl : _ ≤ sizeLine), fun p hp => ?_⟩
  walk_at "w"
  refine while_by (fun m Γ M' => ∃ (k : Nat) (acc : List (Str × Nat)) (v : Option D), Γ = [some (.str z), some (.ptr p), some (.int k), v] ∧ M' = M.put p (.lst (acc.map tokD)) ∧ k ≤ z.length ∧ m = z.length - k ∧ acc ++ tokR k (z.cps.toList.drop k) = tokL z ∧ acc.length ≤ k) ?_ (m := z.length) ⟨0, [], none, rfl, rfl, Nat.zero_le _, rfl, rfl, Nat.le_refl _⟩
  rintro m Γ M' n ⟨k, acc, v, rfl, rfl, hk, rfl, hacc, hal⟩ ih
  walk_at "w"
  refine ⟨by unfold sizeLine; omega, ?_⟩
  refine wite_d (fun hlt => ?_) fun hge => ?_
  · obtain ⟨c, hc⟩ : ∃ c, z.cps.toList[k]? = some c := ⟨_, List.getElem?_eq_getElem (by omega)⟩
    have hdr : z.cps.toList.drop k = c :: z.cps.toList.drop (k + 1) := by
      rw [List.drop_eq_getElem_cons (by omega)]
      rw [List.getElem?_eq_getElem (by omega)] at hc
      rw [Option.some.inj hc]
    have hat : atI z.cps.toList (k : Int) = some c := by
      unfold atI ixN
      rw [if_pos (by omega), if_pos (by omega)]
      exact hc
    have tw0 : (((z.cps.toList.drop k).takeWhile runC).length : Nat) ≤ z.length - k := by
      have := takeWhile_le runC (z.cps.toList.drop k)
      rw [List.length_drop] at this
      omega
    walk_at "w"
    refine ⟨fun Γ M' => Γ = [some (.str z), some (.ptr p), some (.int k), some (.int ((k + ((z.cps.toList.drop k).takeWhile runC).length : Nat) : Int))] ∧ M' = M.put p (.lst (acc.map tokD)), ?_, ?_⟩
    · refine while_by (fun m Γ M' => ∃ j : Nat, Γ = [some (.str z), some (.ptr p), some (.int k), some (.int ((k + j : Nat) : Int))] ∧ M' = M.put p (.lst (acc.map tokD)) ∧ j ≤ ((z.cps.toList.drop k).takeWhile runC).length ∧ m = z.length - j) ?_ (m := z.length) ⟨0, rfl, rfl, Nat.zero_le _, rfl⟩
      rintro m Γ M' n ⟨j, rfl, rfl, hj, rfl⟩ ih
      walk_at "w"
      refine ⟨by unfold sizeLine; omega, ?_⟩
      refine wite_d (fun hlt => ?_) fun hge => ?_
      · obtain ⟨d, hd⟩ : ∃ d, z.cps.toList[k + j]? = some d := ⟨_, List.getElem?_eq_getElem (by omega)⟩
        have hat : atI z.cps.toList ((k + j : Nat) : Int) = some d := by
          unfold atI ixN
          rw [if_pos (by omega), if_pos (by omega)]
          exact hd
        have st := tw_step (p := runC) hj (c := d) (by rw [List.getElem?_drop]; exact hd)
        walk_at "w"
        refine ⟨by unfold sizeLine; omega, ?_⟩
        rw [hat]
        walk_at "w"
        refine ⟨by decide, ?_⟩
        walk_at "w"
        refine ⟨rfl, signs_flat _, ?_⟩
        walk_at "w"
        rw [in_signs]
        refine wite_d (fun hr => ?_) fun hr => ?_
        · have hj2 := st.mp (decide_eq_true hr)
          walk_at "w"
          exact ih _ (by omega) _ _ ⟨j + 1, rfl, rfl, by omega, rfl⟩
        · have hj2 : ¬ j < ((z.cps.toList.drop k).takeWhile runC).length := fun hx => hr (of_decide_eq_true (st.mpr hx))
          refine ⟨?_, rfl⟩
          rw [show j = ((z.cps.toList.drop k).takeWhile runC).length from by omega]
      · refine ⟨?_, rfl⟩
        rw [show j = ((z.cps.toList.drop k).takeWhile runC).length from by omega]
    · rintro Γ M1 ⟨rfl, rfl⟩
      walk_at "w"
      by_cases hr : runC c = true
      · have htw : ((z.cps.toList.drop k).takeWhile runC).length = 1 + ((z.cps.toList.drop (k + 1)).takeWhile runC).length := by
          rw [hdr, List.takeWhile_cons_of_pos hr, List.length_cons]; omega
        refine wite_d (fun _ => ?_) fun h => absurd h (by omega)
        walk_at "w"
        refine ⟨⟨_, rfl⟩, ?_⟩
        walk_at "w"
        refine ⟨by unfold sizeLine; omega, ?_⟩
        walk_at "w"
        refine ⟨(Nat.le_of_ble_eq_true rfl : _ ≤ sizeLine), ?_⟩
        walk_at "w"
        refine ⟨by rw [List.length_map]; unfold sizeLine; omega, ?_⟩
        rw [Mem.put_put]
        refine ih _ (by omega) _ _ ⟨k + ((z.cps.toList.drop k).takeWhile runC).length, acc ++ [(⟨((z.cps.toList.drop k).takeWhile runC).toArray⟩, k)], _, rfl, ?_, by omega, rfl, ?_, by rw [List.length_append]; show _ + 1 ≤ _; omega⟩
        · rw [cut_mid (by omega) (by omega), Nat.add_sub_cancel_left, take_tw, List.map_append]
          rfl
        · rw [List.append_assoc, ← hacc]
          congr 1
          rw [hdr, tokR_run hr, List.takeWhile_cons_of_pos hr, List.length_cons, List.drop_drop]
          show _ :: _ = _
          rw [show k + (((z.cps.toList.drop (k + 1)).takeWhile runC).length + 1) = k + 1 + ((z.cps.toList.drop (k + 1)).takeWhile runC).length from by omega]
          rfl
      · have hf : runC c = false := by simpa using hr
        have htw : ((z.cps.toList.drop k).takeWhile runC).length = 0 := by
          rw [hdr, List.takeWhile_cons_of_neg hr]; rfl
        refine wite_d (fun h => absurd h (by omega)) fun _ => ?_
        walk_at "w"
        refine ⟨by unfold sizeLine; omega, ?_⟩
        rw [hat]
        walk_at "w"
        rw [one_ne]
        refine wite_nd (fun h32 => ?_) fun h32 => ?_
        · walk_at "w"
          refine ⟨⟨_, rfl⟩, ?_⟩
          walk_at "w"
          refine ⟨by unfold sizeLine; omega, ?_⟩
          rw [hat]
          walk_at "w"
          refine ⟨(Nat.le_of_ble_eq_true rfl : _ ≤ sizeLine), ?_⟩
          walk_at "w"
          refine ⟨by rw [List.length_map]; unfold sizeLine; omega, ?_⟩
          rw [Mem.put_put]
          refine ih _ (by omega) _ _ ⟨k + 1, acc ++ [(⟨#[c]⟩, k)], _, rfl, by rw [List.map_append]; rfl, by omega, rfl, ?_, by rw [List.length_append]; show _ + 1 ≤ _; omega⟩
          rw [List.append_assoc, ← hacc, hdr, tokR_sym hf h32]
          rfl
        · walk_at "w"
          refine ih _ (by omega) _ _ ⟨k + 1, acc, _, rfl, rfl, by omega, rfl, ?_, by omega⟩
          rw [← hacc, hdr, h32, tokR_sp]
  · have e : z.cps.toList.drop k = [] := List.drop_eq_nil_of_le (by omega)
    rw [e, tokR_nil, List.append_nil] at hacc
    subst hacc
    walk_at "w"
    rw [Mem.put_del hp]
    exact .of hq
theorem sc_tokens : FnScope ["text", "found", "at", "size", "start"] ["text"] (defScope (top 19)) := ⟨rfl, rfl, rfl, by decide +kernel, rfl, by decide +kernel, by decide +kernel⟩
theorem ok_tokens (T : Txt K mg A) : FnAt P w K mg base 1 "tokens" S_tokens := by
  refine fnAt_of T.F_tokens sc_tokens (fun ds M q h => by first | (obtain ⟨e, _⟩ := h; rw [e]; rfl) | (obtain ⟨_, e, _⟩ := h; rw [e]; rfl) | (obtain ⟨_, _, e, _⟩ := h; rw [e]; rfl) | (obtain ⟨_, _, _, e, _⟩ := h; rw [e]; rfl) | (obtain ⟨_, _, _, _, e, _⟩ := h; rw [e]; rfl) | (obtain ⟨_, _, _, _, _, e, _⟩ := h; rw [e]; rfl) | (obtain ⟨_, _, _, _, _, _, e, _⟩ := h; rw [e]; rfl) | (obtain ⟨_, _, _, _, _, _, _, e, _⟩ := h; rw [e]; rfl) | (obtain ⟨_, _, _, _, _, _, _, _, e, _⟩ := h; rw [e]; rfl) | (obtain ⟨_, _, _, _, _, _, _, _, _, e, _⟩ := h; rw [e]; rfl) | (obtain ⟨_, _, _, _, _, _, _, _, _, _, e, _⟩ := h; rw [e]; rfl) | (obtain ⟨_, _, _, _, _, _, _, _, _, _, _, e, _⟩ := h; rw [e]; rfl)) ?_
  intro f cdv A' outer s H E hr
  have S := sc_tokens
  have hu := hr.units
  have hu1 := Nat.lt_of_le_of_lt (Nat.add_le_add_left (by decide : 1 ≤ 64) _) hu
  refine ⟨_, _, (pdb_cons (pds_set (i := 1) S.nd rfl (Or.inl rfl) (pd_lstP pda_nil))
      (pdb_cons (pd_par (i := 2) (j := 3) rfl S.nd rfl rfl (by decide) rfl rfl (pda_cons pd_int (pda_cons (pd_callB pc_len rfl T.n_len (by decide +kernel) (pda_cons (pd_var 0) pda_nil)) pda_nil)) rfl)
      (pdb_cons (pds_while PassesOwn.never (pdt_cmp po_lt (pd_var 2) (pd_var 3) (nomark _)) (pdb_cons (pds_set (i := 4) S.nd rfl (Or.inl rfl) (pd_var 2))
      (pdb_cons (pds_set (i := 2) S.nd rfl (Or.inl rfl) (pd_op po_add (pd_var 2) pd_int))
      (pdb_cut (pds_if (pdt_cmp po_in (pd_ix (pd_var 0) (pd_var 4) fun _ _ => rfl) (pd_c (pe_glob rfl T.m_RUN (by first | rfl | exact ⟨_, rfl⟩)) T.i_RUN) (by with_unfolding_all rfl)) (pdb_one (pds_while PassesOwn.never (PDW.pdt (pdt_and (pdt_cmp po_lt (pd_var 2) (pd_var 3) (nomark _)) (pdt_and1 (pdt_cmp po_in (pd_ix (pd_var 0) (pd_var 2) fun _ _ => rfl) (pd_c (pe_glob rfl T.m_RUN (by first | rfl | exact ⟨_, rfl⟩)) T.i_RUN) (by with_unfolding_all rfl))))) (pdb_one (pds_set (i := 2) S.nd rfl (Or.inl rfl) (pd_op po_add (pd_var 2) pd_int))))) pdb_nil)
      (pdb_one (pds_if (pdt_cmp (po_ne hu) (pd_ix (pd_var 0) (pd_var 4) fun _ _ => rfl) pd_str (nomark _)) (pdb_one (pds_expr (pd_app (pd_var 1) (pd_tup (pda_cons (pd_sl (pd_var 0) (pdo_some (pd_var 4)) (pdo_some (pd_var 2))) (pda_cons (pd_var 4) pda_nil)))))) pdb_nil))))))
      (pdb_one (pds_ret (pd_frz (pd_var 1))))))), fun ds M q h => ?_⟩
  obtain ⟨z, rfl, hz, hq⟩ := h
  have hlen : z.length = z.cps.toList.length := TL.len_tl z
  walk_at "w"
  refine ⟨(Nat.le_of_ble_eq_true rfl : _ ≤ sizeLine), fun p hp => ?_⟩
  walk_at "w"
  refine ⟨by unfold sizeLine; omega, ?_⟩
  refine while_by (fun m Γ M' => ∃ (k : Nat) (acc : List (Str × Nat)) (v : Option D), Γ = [some (.str z), some (.ptr p), some (.int k), some (.int (z.length : Int)), v] ∧ M' = M.put p (.lst (acc.map tokD)) ∧ k ≤ z.length ∧ m = z.length - k ∧ acc ++ tokR k (z.cps.toList.drop k) = tokL z ∧ acc.length ≤ k) ?_ (m := z.length) ⟨0, [], none, rfl, rfl, Nat.zero_le _, rfl, rfl, Nat.le_refl _⟩
  rintro m Γ M' n ⟨k, acc, v, rfl, rfl, hk, rfl, hacc, hal⟩ ih
  walk_at "w"
  refine wite_d (fun hlt => ?_) fun hge => ?_
  · obtain ⟨c, hc⟩ : ∃ c, z.cps.toList[k]? = some c := ⟨_, List.getElem?_eq_getElem (by omega)⟩
    have hdr : z.cps.toList.drop k = c :: z.cps.toList.drop (k + 1) := by
      rw [List.drop_eq_getElem_cons (by omega)]
      rw [List.getElem?_eq_getElem (by omega)] at hc
      rw [Option.some.inj hc]
    have hat : atI z.cps.toList (k : Int) = some c := by
      unfold atI ixN
      rw [if_pos (by omega), if_pos (by omega)]
      exact hc
    have tw0 : (((z.cps.toList.drop (k + 1)).takeWhile runC).length : Nat) ≤ z.length - (k + 1) := by
      have := takeWhile_le runC (z.cps.toList.drop (k + 1))
      rw [List.length_drop] at this
      omega
    walk_at "w"
    refine ⟨fun Γ M' => ∃ e : Nat, Γ = [some (.str z), some (.ptr p), some (.int (e : Int)), some (.int (z.length : Int)), some (.int k)] ∧ M' = M.put p (.lst (acc.map tokD)) ∧ k < e ∧ e ≤ z.length ∧ (runC c = true → e = k + 1 + ((z.cps.toList.drop (k + 1)).takeWhile runC).length) ∧ (runC c = false → e = k + 1), ?_, ?_⟩
    · walk_at "w"
      refine ⟨by unfold sizeLine; omega, ?_⟩
      rw [hat]
      walk_at "w"
      refine ⟨c, rfl, ?_⟩
      refine wite_d (fun hr => ?_) fun hr => ?_
      · have hrc : runC c = true := decide_eq_true hr
        refine while_by (fun m Γ M' => ∃ j : Nat, Γ = [some (.str z), some (.ptr p), some (.int ((k + 1 + j : Nat) : Int)), some (.int (z.length : Int)), some (.int k)] ∧ M' = M.put p (.lst (acc.map tokD)) ∧ j ≤ ((z.cps.toList.drop (k + 1)).takeWhile runC).length ∧ m = z.length - j) ?_ (m := z.length) ⟨0, rfl, rfl, Nat.zero_le _, rfl⟩
        rintro m Γ M' n ⟨j, rfl, rfl, hj, rfl⟩ ih
        have fin : j = ((z.cps.toList.drop (k + 1)).takeWhile runC).length → ∃ e : Nat, [some (.str z), some (.ptr p), some (.int ((k + 1 + j : Nat) : Int)), some (.int (z.length : Int)), some (.int k)] = [some (D.str z), some (.ptr p), some (.int (e : Int)), some (.int (z.length : Int)), some (.int k)] ∧ M.put p (.lst (acc.map tokD)) = M.put p (.lst (acc.map tokD)) ∧ k < e ∧ e ≤ z.length ∧ (runC c = true → e = k + 1 + ((z.cps.toList.drop (k + 1)).takeWhile runC).length) ∧ (runC c = false → e = k + 1) :=
          fun e => ⟨k + 1 + j, rfl, rfl, by omega, by omega, fun _ => by rw [e], fun h => by rw [hrc] at h; exact Bool.noConfusion h⟩
        walk_at "w"
        refine wite_d (fun hlt => ?_) fun hge => fin (by omega)
        obtain ⟨d, hd⟩ : ∃ d, z.cps.toList[k + 1 + j]? = some d := ⟨_, List.getElem?_eq_getElem (by omega)⟩
        have hat : atI z.cps.toList ((k + 1 + j : Nat) : Int) = some d := by
          unfold atI ixN
          rw [if_pos (by omega), if_pos (by omega)]
          exact hd
        have st := tw_step (p := runC) hj (c := d) (by rw [List.getElem?_drop]; exact hd)
        walk_at "w"
        refine ⟨by unfold sizeLine; omega, ?_⟩
        rw [hat]
        walk_at "w"
        refine ⟨d, rfl, ?_⟩
        refine wite_d (fun hr => ?_) fun hr => ?_
        · have hj2 := st.mp (decide_eq_true hr)
          walk_at "w"
          exact ih _ (by omega) _ _ ⟨j + 1, rfl, rfl, by omega, rfl⟩
        · have hj2 : ¬ j < ((z.cps.toList.drop (k + 1)).takeWhile runC).length := fun hx => hr (of_decide_eq_true (st.mpr hx))
          exact fin (by omega)
      · have hrc : runC c = false := decide_eq_false hr
        exact ⟨k + 1, rfl, rfl, by omega, by omega, fun h => by rw [hrc] at h; exact Bool.noConfusion h, fun _ => rfl⟩
    · rintro Γ M1 ⟨e, rfl, rfl, hke, hez, he1, he2⟩
      walk_at "w"
      refine ⟨by unfold sizeLine; omega, ?_⟩
      rw [hat]
      walk_at "w"
      rw [one_ne]
      refine wite_nd (fun h32 => ?_) fun h32 => ?_
      · walk_at "w"
        refine ⟨⟨_, rfl⟩, ?_⟩
        walk_at "w"
        refine ⟨by unfold sizeLine; omega, ?_⟩
        walk_at "w"
        refine ⟨(Nat.le_of_ble_eq_true rfl : _ ≤ sizeLine), ?_⟩
        walk_at "w"
        refine ⟨by rw [List.length_map]; unfold sizeLine; omega, ?_⟩
        rw [Mem.put_put]
        refine ih _ (by omega) _ _ ⟨e, acc ++ [(⟨((z.cps.toList.drop k).take (e - k)).toArray⟩, k)], _, rfl, ?_, by omega, rfl, ?_, by rw [List.length_append]; show _ + 1 ≤ _; omega⟩
        · rw [cut_mid (by omega) (by omega), List.map_append]
          rfl
        · rw [List.append_assoc, ← hacc]
          congr 1
          by_cases hr : runC c = true
          · have h1 := he1 hr
            rw [hdr, tokR_run hr, show e - k = ((z.cps.toList.drop (k + 1)).takeWhile runC).length + 1 from by omega, List.take_succ_cons, take_tw, List.drop_drop, ← h1]
            rfl
          · have hf : runC c = false := by simpa using hr
            have h1 := he2 hf
            rw [hdr, tokR_sym hf h32, show e - k = 1 from by omega, h1]
            rfl
      · subst h32
        have h1 := he2 (by decide +kernel)
        subst h1
        walk_at "w"
        refine ih _ (by omega) _ _ ⟨k + 1, acc, _, rfl, rfl, by omega, rfl, ?_, by omega⟩
        rw [← hacc, hdr, tokR_sp]
  · have e : z.cps.toList.drop k = [] := List.drop_eq_nil_of_le (by omega)
    rw [e, tokR_nil, List.append_nil] at hacc
    subst hacc
    walk_at "w"
    rw [Mem.put_del hp]
    exact .of hq
end
end D2

set_option maxRecDepth 100000
set_option maxHeartbeats 2000000
set_option pp.maxSteps 400
set_option pp.deepTerms false
namespace D2
open PySem PySem.Spec PyProof.Rows L2
local macro_rules | `(tactic| walk_at "wp") => `(tactic| conv => whnf)
local macro_rules | `(tactic| walk_at "w") => `(tactic| (conv => whnf) <;> repeat ((first | rw [seqD_ptr Mem.put_same] | rw [atI_zero] | rw [lstD_ptr Mem.put_same] | rw [dctD_ptr Mem.put_same] | rw [objD_ptr Mem.put_same] | rw [Mem.put_same]); conv => whnf))
local macro_rules | `(tactic| walk_at "v") => `(tactic| (conv => whnf) <;> repeat ((first | rw [seqD_ptr Mem.put_same] | rw [atI_zero] | rw [Mem.put_same] | rw [seqD_ptr (Mem.at2 (by assumption))] | rw [Mem.at2 (by assumption)]); conv => whnf))
local macro_rules | `(tactic| walk_at "a") => `(tactic| (walk_at "w") <;> repeat (refine ⟨(by first | exact mulR ⟨by omega, by omega⟩ | exact mulL ⟨by omega, by omega⟩ | (show (0 : Int) < _; omega) | exact ⟨by omega, by decide +kernel⟩ | exact ⟨by decide, by decide, by decide⟩), ?_⟩ <;> walk_at "w"))
local macro_rules | `(tactic| walk_at "i") => `(tactic| ((walk_at "w") <;> (refine ⟨trivial, by first | exact .inl rfl | exact .inr (.inl rfl) | exact .inr (.inr (.inl rfl)) | exact .inr (.inr (.inr (.inl rfl))) | exact .inr (.inr (.inr (.inr (.inl rfl)))), ?_⟩)))
section
variable {P : Program} {w : World} {K : W.Frag} {mg : Str → Option Value} {base : Heap} {A : Ad}
theorem spot_eq {M : Mem} {p p2 : Addr} {a b : MO} (h1 : M p = some a) (h2 : M p2 = some b) : (M.put p a).put p2 b = M := by
  rw [Mem.put_self h1, Mem.put_self h2]
theorem sc_l_read_power : FnScope ["toks", "spot", "tok", "tree"] ["toks", "spot"] (defScope (top 45)) := ⟨rfl, rfl, rfl, by decide +kernel, rfl, by decide +kernel, by decide +kernel⟩
theorem ok_l_read_power (T : Txt K mg A)(n : Nat) (G_l_read_sum : FnAt P w K mg base (3*n) "_law_read_sum" (S_l_read_sum n)) : FnAt P w K mg base (3*n+1) "_law_read_power" (S_l_read_power (n+1)) := by
  refine fnAt_of T.F_l_read_power sc_l_read_power (fun ds M q h => by first | (obtain ⟨e, _⟩ := h; rw [e]; rfl) | (obtain ⟨_, e, _⟩ := h; rw [e]; rfl) | (obtain ⟨_, _, e, _⟩ := h; rw [e]; rfl) | (obtain ⟨_, _, _, e, _⟩ := h; rw [e]; rfl) | (obtain ⟨_, _, _, _, e, _⟩ := h; rw [e]; rfl) | (obtain ⟨_, _, _, _, _, e, _⟩ := h; rw [e]; rfl) | (obtain ⟨_, _, _, _, _, _, e, _⟩ := h; rw [e]; rfl) | (obtain ⟨_, _, _, _, _, _, _, e, _⟩ := h; rw [e]; rfl) | (obtain ⟨_, _, _, _, _, _, _, _, e, _⟩ := h; rw [e]; rfl) | (obtain ⟨_, _, _, _, _, _, _, _, _, e, _⟩ := h; rw [e]; rfl) | (obtain ⟨_, _, _, _, _, _, _, _, _, _, e, _⟩ := h; rw [e]; rfl) | (obtain ⟨_, _, _, _, _, _, _, _, _, _, _, e, _⟩ := h; rw [e]; rfl)) ?_
  intro f cdv A' outer s H E hr
  have S := sc_l_read_power
  have hu := hr.units
  have hu1 := Nat.lt_of_le_of_lt (Nat.add_le_add_left (by decide : 1 ≤ 64) _) hu
  refine ⟨_, _, (pdb_cons (pds_set (i := 2) S.nd rfl (Or.inl rfl) (pd_ix (pd_ix (pd_var 0) (pd_ix (pd_var 1) pd_int fun _ _ => rfl) fun _ _ => rfl) pd_int fun _ _ => rfl))
      (pdb_cons (pds_asg (pd_op po_add (pd_ix (pd_var 1) pd_int fun _ _ => rfl) pd_int) (pdg_ix (pd_var 1) pd_int))
      (pdb_cut (pds_if (PDW.pdt (pdt_or (pdt_cmp (po_eq hu) (pd_var 2) pd_str (nomark _)) (pdt_or1 (pdt_cmp (po_eq hu) (pd_var 2) pd_str (nomark _))))) (pdb_cons (pds_asg (pd_op po_add (pd_ix (pd_var 1) pd_int fun _ _ => rfl) (pd_if (pdt_cmp (po_eq hu) (pd_var 2) pd_str (nomark _)) pd_int pd_int)) (pdg_ix (pd_var 1) pd_int))
      (pdb_cons (pds_set (i := 3) S.nd rfl (Or.inl rfl) (pd_call G_l_read_sum (hr.mono (by omega)) rfl (pda_cons (pd_var 0) (pda_cons (pd_var 1) pda_nil))))
      (pdb_cons (pds_asg (pd_op po_add (pd_ix (pd_var 1) pd_int fun _ _ => rfl) pd_int) (pdg_ix (pd_var 1) pd_int))
      (pdb_one (pds_if (pdt_cmp (po_eq hu) (pd_var 2) pd_str (nomark _)) (pdb_one (pds_set (i := 3) S.nd rfl (Or.inl rfl) (pd_tup (pda_cons pd_str (pda_cons (pd_var 3) pda_nil))))) pdb_nil))))) (pdb_one (pds_if (pdt_cmp (po_eq hu) (pd_var 2) pd_str (nomark _)) (pdb_one (pds_set (i := 3) S.nd rfl (Or.inl rfl) (pd_tup (pda_cons pd_str pda_nil)))) (pdb_one (pds_set (i := 3) S.nd rfl (Or.inl rfl) (pd_if (pdt_cmp po_in (pd_ix (pd_var 2) pd_int fun _ _ => rfl) (pd_callTy (pc_list rfl) rfl T.n_list (by decide +kernel) (pda_cons pd_str pda_nil)) (by with_unfolding_all rfl)) (pd_tup (pda_cons pd_str (pda_cons (pd_callTy pc_int rfl T.n_int (by decide +kernel) (pda_cons (pd_var 2) pda_nil)) pda_nil))) (pd_tup (pda_cons pd_str (pda_cons (pd_var 2) pda_nil)))))))))
      (pdb_cons (pds_if (pdt_cmp (po_eq hu) (pd_ix (pd_ix (pd_var 0) (pd_ix (pd_var 1) pd_int fun _ _ => rfl) fun _ _ => rfl) pd_int fun _ _ => rfl) pd_str (nomark _)) (pdb_cons (pds_set (i := 3) S.nd rfl (Or.inl rfl) (pd_tup (pda_cons pd_str (pda_cons (pd_var 3) (pda_cons (pd_callTy pc_int rfl T.n_int (by decide +kernel) (pda_cons (pd_ix (pd_ix (pd_var 0) (pd_op po_add (pd_ix (pd_var 1) pd_int fun _ _ => rfl) pd_int) fun _ _ => rfl) pd_int fun _ _ => rfl) pda_nil)) pda_nil)))))
      (pdb_one (pds_asg (pd_op po_add (pd_ix (pd_var 1) pd_int fun _ _ => rfl) pd_int) (pdg_ix (pd_var 1) pd_int)))) pdb_nil)
      (pdb_one (pds_ret (pd_var 3))))))), fun ds M q h => ?_⟩
  obtain ⟨TL, p, p2, j, i, divs, k, t, a, h, rest, rfl, hM1, hM2, hne, hj, hT, hL, hk, ok, hh, hdl, hq⟩ := h
  rw [← spot_eq hM1 hM2]
  obtain ⟨t0, a0, hL0, hcase⟩ := hL.power (by decide)
  have ok0 : GoodT t0 := by
    rcases hcase with ⟨rfl, rfl⟩ | ⟨e, rfl, rfl⟩
    · exact ok
    · exact ok.1
  obtain ⟨r0, hr0⟩ : ∃ r0, a ++ h :: rest = a0 ++ r0 := by
    rcases hcase with ⟨rfl, rfl⟩ | ⟨e, rfl, rfl⟩
    · exact ⟨_, rfl⟩
    · exact ⟨_, List.append_assoc _ _ _⟩
  rw [hr0] at hT
  have hne0 : a0 ≠ [] := by
    cases hL0 with
    | pow e hl _ => exact absurd hl (by decide)
    | neg hl _ => exact absurd hl (by decide)
    | bin o hl _ _ => rcases lvl_cases o with q | q <;> (rw [q] at hl; exact absurd hl (by decide))
    | _ => simp
  obtain ⟨w0, b0, ea⟩ : ∃ w b, a0 = w :: b := by
    cases a0 with
    | nil => exact absurd rfl hne0
    | cons w b => exact ⟨w, b, rfl⟩
  obtain ⟨x0, hx0, hw0, hT0⟩ := tl_step (w := w0) (r := b0 ++ r0) (by rw [hT, ea]; rfl)
  walk_at "v"
  rw [tl_at hx0 hj]
  walk_at "v"
  rw [hw0, Mem.put2 hne]
  refine ⟨fun Γ M' => ∃ (j' : Int) (divs' : List D), Γ = [some (.lst (TL.map tokD)), some (.ptr p), some (.str w0), some (encT t0)] ∧ M' = (M.put p (.lst [.int j', .ptr p2])).put p2 (.lst divs') ∧ j' = ((i + a0.length : Nat) : Int) ∧ divs'.length ≤ divs.length + a0.length, ?_, ?_⟩
  · have ha0 : a0.length ≤ a.length := by
      rcases hcase with ⟨rfl, rfl⟩ | ⟨e, rfl, rfl⟩
      · exact Nat.le_refl _
      · rw [List.length_append]; omega
    cases hL0 with
    | num n0 =>
      cases ea
      obtain ⟨c, l, hc, hc1, hc2⟩ := num_head ok0.1
      have hl40 := num_len40 ok0.1 ok0.2
      walk_at "w"
      refine wite_f (decide_eq_false (num_ne ok0.1 (by decide +kernel))) ?_
      walk_at "w"
      refine wite_f (decide_eq_false (num_ne ok0.1 (by decide +kernel))) ?_
      walk_at "w"
      refine wite_f (decide_eq_false (num_ne ok0.1 (by decide +kernel))) ?_
      walk_at "w"
      refine ⟨Nat.le_trans hl40 (by decide), ?_⟩
      rw [hc]
      walk_at "w"
      refine ⟨by decide, ?_⟩
      walk_at "w"
      refine ⟨rfl, signs_flat _, ?_⟩
      walk_at "w"
      rw [in_signs]
      have hin : ∀ c : Nat, c < 58 → 48 ≤ c → c ∈ (Str.ofString "0123456789").cps.toList := by decide +kernel
      refine wite_t (decide_eq_true (hin c (by omega) hc1)) ?_
      walk_at "w"
      refine ⟨n0, int_numS ok0.1 ok0.2, Nat.le_trans hl40 (by decide), ?_⟩
      walk_at "w"
      refine ⟨(Nat.le_of_ble_eq_true rfl : _ ≤ sizeLine), ?_⟩
      exact ⟨_, _, rfl, rfl, by rw [hj]; rfl, by omega⟩
    | name x =>
      cases ea
      obtain ⟨c, l, hc, hc1⟩ := name_head ok0
      walk_at "w"
      refine wite_f (decide_eq_false (run_not (c := 40) (name_run ok0) (by decide +kernel))) ?_
      walk_at "w"
      refine wite_f (decide_eq_false (name_word ok0 (by decide))) ?_
      walk_at "w"
      refine wite_f (decide_eq_false (name_word ok0 (by decide))) ?_
      walk_at "w"
      refine ⟨Nat.le_trans (name_len ok0) (by decide), ?_⟩
      rw [hc]
      walk_at "w"
      refine ⟨by decide, ?_⟩
      walk_at "w"
      refine ⟨rfl, signs_flat _, ?_⟩
      walk_at "w"
      rw [in_signs]
      have hin : ∀ c ∈ letsS.cps.toList, ¬ c ∈ (Str.ofString "0123456789").cps.toList := by decide +kernel
      refine wite_f (decide_eq_false (hin c hc1)) ?_
      walk_at "w"
      refine ⟨(Nat.le_of_ble_eq_true rfl : _ ≤ sizeLine), ?_⟩
      exact ⟨_, _, rfl, rfl, by rw [hj]; rfl, by omega⟩
    | im =>
      cases ea
      walk_at "w"
      refine ⟨(Nat.le_of_ble_eq_true rfl : _ ≤ sizeLine), ?_⟩
      exact ⟨_, _, rfl, rfl, by rw [hj]; rfl, by omega⟩
    | @root k _ t' a' hL' =>
      cases ea
      obtain ⟨x1, hx1, hw1, hT1⟩ := tl_step (w := "(") (r := a' ++ (")" : Str) :: r0) (by rw [hT0]; simp)
      have hd2 : divs.length + a'.length ≤ 7000000 := by simp only [List.length_cons, List.length_append] at ha0; omega
      walk_at "v"
      rw [Mem.put2 hne]
      walk_at "w"
      refine ⟨TL, p, p2, _, i + 2, divs, k, t', a', ")", r0, rfl, Mem.at2 hne, Mem.put_same, hne, ?_, hT1, hL', by omega, ok0, by decide, hd2, fun j' divs' e1 e2 => ?_⟩
      · rw [hj]; rfl
      rw [Mem.put2 hne, Mem.put_put]
      walk_at "v"
      refine ⟨(Nat.le_of_ble_eq_true rfl : _ ≤ sizeLine), ?_⟩
      rw [Mem.put2 hne]
      refine ⟨_, _, rfl, rfl, ?_, ?_⟩
      · rw [e1]; simp only [List.length_cons, List.length_append, List.length_nil]; omega
      · simp only [List.length_cons, List.length_append, List.length_nil]; omega
    | @par k _ _ a' hL' =>
      cases ea
      have hd2 : divs.length + a'.length ≤ 7000000 := by simp only [List.length_cons, List.length_append] at ha0; omega
      walk_at "v"
      rw [Mem.put2 hne]
      walk_at "w"
      refine ⟨TL, p, p2, _, i + 1, divs, k, t0, a', ")", r0, rfl, Mem.at2 hne, Mem.put_same, hne, ?_, by rw [hT0]; simp, hL', by omega, ok0, by decide, hd2, fun j' divs' e1 e2 => ?_⟩
      · rw [hj]; rfl
      rw [Mem.put2 hne, Mem.put_put]
      walk_at "v"
      rw [Mem.put2 hne]
      refine ⟨_, _, rfl, rfl, ?_, ?_⟩
      · rw [e1]; simp only [List.length_cons, List.length_append, List.length_nil]; omega
      · simp only [List.length_cons, List.length_append, List.length_nil]; omega
    | pow e hl _ => exact absurd hl (by decide)
    | neg hl _ => exact absurd hl (by decide)
    | bin o hl _ _ => rcases lvl_cases o with q | q <;> (rw [q] at hl; exact absurd hl (by decide))
  · rintro Γ M1 ⟨j', divs', rfl, rfl, ej, ed⟩
    have hTn : (TL.drop (i + a0.length)).map (·.1) = r0 := by
      rw [← List.drop_drop, List.map_drop, hT, List.drop_left]
    rcases hcase with ⟨rfl, rfl⟩ | ⟨e, rfl, rfl⟩
    · have hr : r0 = h :: rest := (List.append_cancel_left hr0).symm
      obtain ⟨x1, hx1, hw1, _⟩ := tl_step (hTn.trans hr)
      walk_at "v"
      rw [tl_at hx1 ej]
      walk_at "v"
      rw [hw1]
      refine wite_f (decide_eq_false fun z => hh (by rw [z]; exact List.mem_singleton.mpr rfl)) ?_
      walk_at "v"
      exact .of (hq _ _ ej ed)
    · have hr : r0 = ("^" : Str) :: numS e :: h :: rest := by
        rw [List.append_assoc] at hr0
        exact (List.append_cancel_left hr0).symm
      obtain ⟨x1, hx1, hw1, hT1⟩ := tl_step (hTn.trans hr)
      obtain ⟨x2, hx2, hw2, _⟩ := tl_step hT1
      have hl40 := num_len3 ok.2.1 ok.2.2
      walk_at "v"
      rw [tl_at hx1 ej]
      walk_at "v"
      rw [hw1]
      walk_at "v"
      rw [tl_at hx2 (by rw [ej]; rfl)]
      walk_at "v"
      rw [hw2]
      refine ⟨e, int_numS ok.2.1 (by have := ok.2.2; omega), Nat.le_trans hl40 (by decide), ?_⟩
      walk_at "v"
      refine ⟨(Nat.le_of_ble_eq_true rfl : _ ≤ sizeLine), ?_⟩
      walk_at "v"
      rw [Mem.put2 hne]
      refine .of (hq _ _ ?_ ?_)
      · rw [ej, List.length_append]; show _ + (2 : Int) = _; simp only [List.length_cons, List.length_nil]; omega
      · rw [List.length_append]; omega
end
end D2

set_option maxRecDepth 100000
set_option maxHeartbeats 2000000
set_option pp.maxSteps 400
set_option pp.deepTerms false
namespace D2
open PySem PySem.Spec PyProof.Rows L2
local macro_rules | `(tactic| walk_at "wp") => `(tactic| conv => whnf)
local macro_rules | `(tactic| walk_at "w") => `(tactic| (conv => whnf) <;> repeat ((first | rw [seqD_ptr Mem.put_same] | rw [atI_zero] | rw [lstD_ptr Mem.put_same] | rw [dctD_ptr Mem.put_same] | rw [objD_ptr Mem.put_same] | rw [Mem.put_same]); conv => whnf))
local macro_rules | `(tactic| walk_at "v") => `(tactic| (conv => whnf) <;> repeat ((first | rw [seqD_ptr Mem.put_same] | rw [atI_zero] | rw [Mem.put_same] | rw [seqD_ptr (Mem.at2 (by assumption))] | rw [Mem.at2 (by assumption)]); conv => whnf))
local macro_rules | `(tactic| walk_at "a") => `(tactic| (walk_at "w") <;> repeat (refine ⟨(by first | exact mulR ⟨by omega, by omega⟩ | exact mulL ⟨by omega, by omega⟩ | (show (0 : Int) < _; omega) | exact ⟨by omega, by decide +kernel⟩ | exact ⟨by decide, by decide, by decide⟩), ?_⟩ <;> walk_at "w"))
local macro_rules | `(tactic| walk_at "i") => `(tactic| ((walk_at "w") <;> (refine ⟨trivial, by first | exact .inl rfl | exact .inr (.inl rfl) | exact .inr (.inr (.inl rfl)) | exact .inr (.inr (.inr (.inl rfl))) | exact .inr (.inr (.inr (.inr (.inl rfl)))), ?_⟩)))
section
variable {P : Program} {w : World} {K : W.Frag} {mg : Str → Option Value} {base : Heap} {A : Ad}
theorem sc_l_read_product : FnScope ["toks", "spot", "tree", "sort", "start", "right"] ["toks", "spot"] (defScope (top 44)) := ⟨rfl, rfl, rfl, by decide +kernel, rfl, by decide +kernel, by decide +kernel⟩
theorem ok_l_read_product (T : Txt K mg A)(n : Nat) (G_l_read_power : FnAt P w K mg base (3*n+1) "_law_read_power" (S_l_read_power (n+1))) : FnAt P w K mg base (3*n+2) "_law_read_product" (S_l_read_product (n+1)) := by
  refine fnAt_of T.F_l_read_product sc_l_read_product (fun ds M q h => by first | (obtain ⟨e, _⟩ := h; rw [e]; rfl) | (obtain ⟨_, e, _⟩ := h; rw [e]; rfl) | (obtain ⟨_, _, e, _⟩ := h; rw [e]; rfl) | (obtain ⟨_, _, _, e, _⟩ := h; rw [e]; rfl) | (obtain ⟨_, _, _, _, e, _⟩ := h; rw [e]; rfl) | (obtain ⟨_, _, _, _, _, e, _⟩ := h; rw [e]; rfl) | (obtain ⟨_, _, _, _, _, _, e, _⟩ := h; rw [e]; rfl) | (obtain ⟨_, _, _, _, _, _, _, e, _⟩ := h; rw [e]; rfl) | (obtain ⟨_, _, _, _, _, _, _, _, e, _⟩ := h; rw [e]; rfl) | (obtain ⟨_, _, _, _, _, _, _, _, _, e, _⟩ := h; rw [e]; rfl) | (obtain ⟨_, _, _, _, _, _, _, _, _, _, e, _⟩ := h; rw [e]; rfl) | (obtain ⟨_, _, _, _, _, _, _, _, _, _, _, e, _⟩ := h; rw [e]; rfl)) ?_
  intro f cdv A' outer s H E hr
  have S := sc_l_read_product
  have hu := hr.units
  have hu1 := Nat.lt_of_le_of_lt (Nat.add_le_add_left (by decide : 1 ≤ 64) _) hu
  refine ⟨_, _, (pdb_cons (pds_set (i := 2) S.nd rfl (Or.inl rfl) (pd_call G_l_read_power (hr.mono (by omega)) rfl (pda_cons (pd_var 0) (pda_cons (pd_var 1) pda_nil))))
      (pdb_cons (pds_while PassesOwn.never (pdt_cmp po_in (pd_ix (pd_ix (pd_var 0) (pd_ix (pd_var 1) pd_int fun _ _ => rfl) fun _ _ => rfl) pd_int fun _ _ => rfl) (pd_lst (pda_cons pd_str (pda_cons pd_str pda_nil))) (by with_unfolding_all rfl)) (pdb_cons (pds_set (i := 3) S.nd rfl (Or.inl rfl) (pd_if (pdt_cmp (po_eq hu) (pd_ix (pd_ix (pd_var 0) (pd_ix (pd_var 1) pd_int fun _ _ => rfl) fun _ _ => rfl) pd_int fun _ _ => rfl) pd_str (nomark _)) pd_str pd_str))
      (pdb_cons (pds_asg (pd_op po_add (pd_ix (pd_var 1) pd_int fun _ _ => rfl) pd_int) (pdg_ix (pd_var 1) pd_int))
      (pdb_cons (pds_set (i := 4) S.nd rfl (Or.inl rfl) (pd_ix (pd_ix (pd_var 0) (pd_ix (pd_var 1) pd_int fun _ _ => rfl) fun _ _ => rfl) pd_int fun _ _ => rfl))
      (pdb_cons (pds_set (i := 5) S.nd rfl (Or.inl rfl) (pd_call G_l_read_power (hr.mono (by omega)) rfl (pda_cons (pd_var 0) (pda_cons (pd_var 1) pda_nil))))
      (pdb_cons (pds_if (pdt_cmp (po_eq hu) (pd_var 3) pd_str (nomark _)) (pdb_one (pds_expr (pd_app (pd_ix (pd_var 1) pd_int fun _ _ => rfl) (pd_tup (pda_cons (pd_var 4) (pda_cons (pd_var 5) pda_nil)))))) pdb_nil)
      (pdb_one (pds_set (i := 2) S.nd rfl (Or.inl rfl) (pd_tup (pda_cons (pd_var 3) (pda_cons (pd_var 2) (pda_cons (pd_var 5) pda_nil))))))))))))
      (pdb_one (pds_ret (pd_var 2))))), fun ds M q h => ?_⟩
  obtain ⟨TL, p, p2, j, i, divs, k, t, a, h, rest, rfl, hM1, hM2, hne, hj, hT, hL, hk, ok, hh, hdl, hq⟩ := h
  rw [← spot_eq hM1 hM2]
  have hup : h ∉ ([("^" : Str)] : List Str) := fun z => hh (by simp only [List.mem_cons, List.not_mem_nil, or_false] at z ⊢; first | omega | (rcases z with z | z | z <;> simp [z]) | (rcases z with z | z <;> simp [z]) | simp [z])
  have hlast : h ∉ ([("*" : Str), ("/" : Str)] : List Str) := fun z => hh (by simp only [List.mem_cons, List.not_mem_nil, or_false] at z ⊢; rcases z with z | z <;> simp [z])
  have hops : ∀ o : Bn, o.lvl = 2 → o.tok ∉ ([("^" : Str)] : List Str) := by intro o ho; cases o <;> first | (exact absurd ho (by decide)) | decide
  obtain ⟨x, a1, c, hL1, hTl, ha⟩ := hL.product (by decide)
  obtain ⟨h1, r1, e1, hh1⟩ := tail_next hTl (rest := rest) hup hops
  have hla : a.length = a1.length + c.length := by rw [ha, List.length_append]
  have hT1 : (TL.drop i).map (·.1) = a1 ++ h1 :: r1 := by rw [hT, ha, List.append_assoc, e1]
  walk_at "w"
  refine ⟨TL, p, p2, j, i, divs, k, x, a1, h1, r1, rfl, Mem.at2 hne, Mem.put_same, hne, hj, hT1, hL1, hk, hTl.good ok, hh1, by omega, fun j' divs' e2 e3 => ?_⟩
  rw [Mem.put2 hne, Mem.put_put]
  walk_at "w"
  have hT0 : (TL.drop (i + a1.length)).map (·.1) = c ++ h :: rest := by rw [← List.drop_drop, List.map_drop, hT1, List.drop_left, e1]
  obtain ⟨i0, hi00⟩ : ∃ i0, i0 = i := ⟨i, rfl⟩
  rw [← hi00] at e2 hT0
  have hi0 : i0 + a1.length + c.length = i + a.length := by omega
  have hd0 : divs'.length + c.length ≤ divs.length + a.length := by omega
  refine while_by (fun m Γ M' => ∃ (x : Tr) (c : List Str) (j' : Int) (i' : Nat) (divs' : List D) (v3 v4 v5 : Option D), Γ = [some (.lst (TL.map tokD)), some (.ptr p), some (encT x), v3, v4, v5] ∧ M' = (M.put p (.lst [.int j', .ptr p2])).put p2 (.lst divs') ∧ j' = (i' : Int) ∧ (TL.drop i').map (·.1) = c ++ h :: rest ∧ Tail 2 k x c t ∧ i' + c.length = i + a.length ∧ divs'.length + c.length ≤ divs.length + a.length ∧ m = c.length) ?_ (m := c.length) ⟨x, c, _, i0 + a1.length, divs', _, _, _, rfl, rfl, e2, hT0, hTl, hi0, hd0, rfl⟩
  rintro m Γ M' n' ⟨x, c, j', i', divs', v3, v4, v5, rfl, rfl, ej, hT', hTl, hi', hd', rfl⟩ ih
  cases hTl with
  | nil =>
    obtain ⟨x1, hx1, hw1, _⟩ := tl_step (w := h) (r := rest) hT'
    walk_at "v"
    rw [tl_at hx1 ej]
    walk_at "v"
    refine ⟨(Nat.le_of_ble_eq_true rfl : _ ≤ sizeLine), ?_⟩
    walk_at "v"
    refine ⟨rfl, rfl, ?_⟩
    rw [hw1]
    refine wite_f (inD_no hlast) ?_
    walk_at "v"
    exact .of (hq _ _ (by rw [ej]; simp only [List.length_nil] at hi'; omega) (by omega))
  | @cons _ y _ b c o ho hLy hTl =>
    obtain ⟨x1, hx1, hw1, hT1⟩ := tl_step (w := o.tok) (r := (b ++ c) ++ h :: rest) hT'
    obtain ⟨w2, r2, e2⟩ := app_cons (b ++ c) h rest
    obtain ⟨x2, hx2, _, _⟩ := tl_step (hT1.trans e2)
    obtain ⟨h3, r3, e3, hh3⟩ := tail_next hTl (rest := rest) hup hops
    have hTb : (TL.drop (i' + 1)).map (·.1) = b ++ h3 :: r3 := by rw [hT1, List.append_assoc, e3]
    have okxy : GoodT y := (hTl.good ok).2
    simp only [List.length_cons, List.length_append] at hi' hd'
    have nxt : ∀ (j3 : Int) (d3 : List D) (q3 : List (Option D)) , j3 = ((i' + 1 + b.length : Nat) : Int) → d3.length ≤ divs'.length + 1 + b.length → (∃ v3 v4 v5 : Option D, q3 = [v3, v4, v5]) → whileN _ _ _ n' (some (.lst (TL.map tokD)) :: some (.ptr p) :: some (encT (.bin o x y)) :: q3) ((M.put p (.lst [.int j3, .ptr p2])).put p2 (.lst d3)) := fun j3 d3 q3 z1 z2 ⟨v3, v4, v5, z3⟩ => by
      subst z3
      exact ih c.length (by simp only [List.length_cons, List.length_append]; omega) _ _ ⟨.bin o x y, c, j3, i' + 1 + b.length, d3, v3, v4, v5, rfl, rfl, z1, by rw [← List.drop_drop, List.map_drop, hTb, List.drop_left, e3], hTl, by omega, by omega, rfl⟩
    cases o with
    | add => exact absurd ho (by decide)
    | sub => exact absurd ho (by decide)
    | mul =>
      walk_at "v"
      rw [tl_at hx1 ej]
      walk_at "v"
      refine ⟨(Nat.le_of_ble_eq_true rfl : _ ≤ sizeLine), ?_⟩
      walk_at "v"
      refine ⟨rfl, rfl, ?_⟩
      rw [hw1]
      walk_at "v"
      rw [tl_at hx1 ej]
      walk_at "v"
      rw [hw1]
      walk_at "v"
      rw [Mem.put2 hne]
      walk_at "v"
      rw [tl_at hx2 (by rw [ej]; rfl)]
      walk_at "w"
      refine ⟨TL, p, p2, _, i' + 1, divs', k, y, b, h3, r3, rfl, Mem.at2 hne, Mem.put_same, hne, by rw [ej]; rfl, hTb, hLy, hk, okxy, hh3, by omega, fun j3 d3 z1 z2 => ?_⟩
      rw [Mem.put2 hne, Mem.put_put]
      walk_at "v"
      refine ⟨(Nat.le_of_ble_eq_true rfl : _ ≤ sizeLine), ?_⟩
      exact nxt _ _ _ z1 (by omega) ⟨_, _, _, rfl⟩
    | div =>
      walk_at "v"
      rw [tl_at hx1 ej]
      walk_at "v"
      refine ⟨(Nat.le_of_ble_eq_true rfl : _ ≤ sizeLine), ?_⟩
      walk_at "v"
      refine ⟨rfl, rfl, ?_⟩
      rw [hw1]
      walk_at "v"
      rw [tl_at hx1 ej]
      walk_at "v"
      rw [hw1]
      walk_at "v"
      rw [Mem.put2 hne]
      walk_at "v"
      rw [tl_at hx2 (by rw [ej]; rfl)]
      walk_at "w"
      refine ⟨TL, p, p2, _, i' + 1, divs', k, y, b, h3, r3, rfl, Mem.at2 hne, Mem.put_same, hne, by rw [ej]; rfl, hTb, hLy, hk, okxy, hh3, by omega, fun j3 d3 z1 z2 => ?_⟩
      rw [Mem.put2 hne, Mem.put_put]
      walk_at "v"
      refine ⟨⟨_, rfl⟩, ?_⟩
      walk_at "v"
      refine ⟨(Nat.le_of_ble_eq_true rfl : _ ≤ sizeLine), ?_⟩
      walk_at "v"
      refine ⟨by unfold sizeLine; omega, ?_⟩
      rw [Mem.put_put]
      walk_at "v"
      refine ⟨(Nat.le_of_ble_eq_true rfl : _ ≤ sizeLine), ?_⟩
      exact nxt _ _ _ z1 (by rw [List.length_append]; show _ + 1 ≤ _; omega) ⟨_, _, _, rfl⟩
theorem sc_l_read_sum : FnScope ["toks", "spot", "tree", "sort"] ["toks", "spot"] (defScope (top 43)) := ⟨rfl, rfl, rfl, by decide +kernel, rfl, by decide +kernel, by decide +kernel⟩
theorem ok_l_read_sum (T : Txt K mg A)(n : Nat) (G_l_read_product : FnAt P w K mg base (3*n+2) "_law_read_product" (S_l_read_product (n+1))) : FnAt P w K mg base (3*n+3) "_law_read_sum" (S_l_read_sum (n+1)) := by
  refine fnAt_of T.F_l_read_sum sc_l_read_sum (fun ds M q h => by first | (obtain ⟨e, _⟩ := h; rw [e]; rfl) | (obtain ⟨_, e, _⟩ := h; rw [e]; rfl) | (obtain ⟨_, _, e, _⟩ := h; rw [e]; rfl) | (obtain ⟨_, _, _, e, _⟩ := h; rw [e]; rfl) | (obtain ⟨_, _, _, _, e, _⟩ := h; rw [e]; rfl) | (obtain ⟨_, _, _, _, _, e, _⟩ := h; rw [e]; rfl) | (obtain ⟨_, _, _, _, _, _, e, _⟩ := h; rw [e]; rfl) | (obtain ⟨_, _, _, _, _, _, _, e, _⟩ := h; rw [e]; rfl) | (obtain ⟨_, _, _, _, _, _, _, _, e, _⟩ := h; rw [e]; rfl) | (obtain ⟨_, _, _, _, _, _, _, _, _, e, _⟩ := h; rw [e]; rfl) | (obtain ⟨_, _, _, _, _, _, _, _, _, _, e, _⟩ := h; rw [e]; rfl) | (obtain ⟨_, _, _, _, _, _, _, _, _, _, _, e, _⟩ := h; rw [e]; rfl)) ?_
  intro f cdv A' outer s H E hr
  have S := sc_l_read_sum
  have hu := hr.units
  have hu1 := Nat.lt_of_le_of_lt (Nat.add_le_add_left (by decide : 1 ≤ 64) _) hu
  refine ⟨_, _, (pdb_cut (pds_if (pdt_cmp (po_eq hu) (pd_ix (pd_ix (pd_var 0) (pd_ix (pd_var 1) pd_int fun _ _ => rfl) fun _ _ => rfl) pd_int fun _ _ => rfl) pd_str (nomark _)) (pdb_cons (pds_asg (pd_op po_add (pd_ix (pd_var 1) pd_int fun _ _ => rfl) pd_int) (pdg_ix (pd_var 1) pd_int))
      (pdb_one (pds_set (i := 2) S.nd rfl (Or.inl rfl) (pd_tup (pda_cons pd_str (pda_cons (pd_call G_l_read_product (hr.mono (by omega)) rfl (pda_cons (pd_var 0) (pda_cons (pd_var 1) pda_nil))) pda_nil)))))) (pdb_one (pds_set (i := 2) S.nd rfl (Or.inl rfl) (pd_call G_l_read_product (hr.mono (by omega)) rfl (pda_cons (pd_var 0) (pda_cons (pd_var 1) pda_nil))))))
      (pdb_cons (pds_while PassesOwn.never (pdt_cmp po_in (pd_ix (pd_ix (pd_var 0) (pd_ix (pd_var 1) pd_int fun _ _ => rfl) fun _ _ => rfl) pd_int fun _ _ => rfl) (pd_lst (pda_cons pd_str (pda_cons pd_str pda_nil))) (by with_unfolding_all rfl)) (pdb_cons (pds_set (i := 3) S.nd rfl (Or.inl rfl) (pd_if (pdt_cmp (po_eq hu) (pd_ix (pd_ix (pd_var 0) (pd_ix (pd_var 1) pd_int fun _ _ => rfl) fun _ _ => rfl) pd_int fun _ _ => rfl) pd_str (nomark _)) pd_str pd_str))
      (pdb_cons (pds_asg (pd_op po_add (pd_ix (pd_var 1) pd_int fun _ _ => rfl) pd_int) (pdg_ix (pd_var 1) pd_int))
      (pdb_one (pds_set (i := 2) S.nd rfl (Or.inl rfl) (pd_tup (pda_cons (pd_var 3) (pda_cons (pd_var 2) (pda_cons (pd_call G_l_read_product (hr.mono (by omega)) rfl (pda_cons (pd_var 0) (pda_cons (pd_var 1) pda_nil))) pda_nil)))))))))
      (pdb_one (pds_ret (pd_var 2))))), fun ds M q h => ?_⟩
  obtain ⟨TL, p, p2, j, i, divs, k, t, a, h, rest, rfl, hM1, hM2, hne, hj, hT, hL, hk, ok, hh, hdl, hq⟩ := h
  rw [← spot_eq hM1 hM2]
  have hup : h ∉ ([("^" : Str), ("*" : Str), ("/" : Str)] : List Str) := fun z => hh (by simp only [List.mem_cons, List.not_mem_nil, or_false] at z ⊢; first | omega | (rcases z with z | z | z <;> simp [z]) | (rcases z with z | z <;> simp [z]) | simp [z])
  have hlast : h ∉ ([("+" : Str), ("-" : Str)] : List Str) := fun z => hh (by simp only [List.mem_cons, List.not_mem_nil, or_false] at z ⊢; rcases z with z | z <;> simp [z])
  have hops : ∀ o : Bn, o.lvl = 1 → o.tok ∉ ([("^" : Str), ("*" : Str), ("/" : Str)] : List Str) := by intro o ho; cases o <;> first | (exact absurd ho (by decide)) | decide
  rcases hL.sum with ⟨x, a1, c, hL1, hTl, ha⟩ | ⟨x, a1, c, hL1, hTl, ha⟩
  · obtain ⟨h1, r1, e1, hh1⟩ := tail_next hTl (rest := rest) hup hops
    have hla : a.length = a1.length + c.length := by rw [ha, List.length_append]
    have hT1 : (TL.drop i).map (·.1) = a1 ++ h1 :: r1 := by rw [hT, ha, List.append_assoc, e1]
    obtain ⟨w0, b0, ew, hw0⟩ := hL1.head (hTl.good ok) (by decide)
    obtain ⟨x0, hx0, hwx, _⟩ := tl_step (w := w0) (r := b0 ++ h1 :: r1) (by rw [hT1, ew]; rfl)
    walk_at "v"
    refine ⟨fun Γ M' => ∃ (j' : Int) (i0 : Nat) (divs' : List D) (v3 : Option D), Γ = [some (.lst (TL.map tokD)), some (.ptr p), some (encT x), v3] ∧ M' = (M.put p (.lst [.int j', .ptr p2])).put p2 (.lst divs') ∧ j' = ((i0 + a1.length : Nat) : Int) ∧ (TL.drop (i0 + a1.length)).map (·.1) = c ++ h :: rest ∧ i0 + a1.length + c.length = i + a.length ∧ divs'.length + c.length ≤ divs.length + a.length, ?_, ?_⟩
    · walk_at "v"
      rw [tl_at hx0 hj]
      walk_at "v"
      rw [hwx]
      refine wite_f (decide_eq_false hw0) ?_
      walk_at "w"
      refine ⟨TL, p, p2, j, i, divs, k, x, a1, h1, r1, rfl, Mem.at2 hne, Mem.put_same, hne, hj, hT1, hL1, hk, hTl.good ok, hh1, by omega, fun j' divs' e2 e3 => ?_⟩
      rw [Mem.put2 hne, Mem.put_put]
      exact ⟨j', i, divs', none, rfl, rfl, e2, by rw [← List.drop_drop, List.map_drop, hT1, List.drop_left, e1], by omega, by omega⟩
    rintro Γ M1 ⟨j', i0, divs', v3, rfl, rfl, e2, hT0, hi0, hd0⟩
    walk_at "w"
    refine while_by (fun m Γ M' => ∃ (x : Tr) (c : List Str) (j' : Int) (i' : Nat) (divs' : List D) (v3 : Option D), Γ = [some (.lst (TL.map tokD)), some (.ptr p), some (encT x), v3] ∧ M' = (M.put p (.lst [.int j', .ptr p2])).put p2 (.lst divs') ∧ j' = (i' : Int) ∧ (TL.drop i').map (·.1) = c ++ h :: rest ∧ Tail 1 k x c t ∧ i' + c.length = i + a.length ∧ divs'.length + c.length ≤ divs.length + a.length ∧ m = c.length) ?_ (m := c.length) ⟨x, c, _, i0 + a1.length, divs', _, rfl, rfl, e2, hT0, hTl, hi0, hd0, rfl⟩
    rintro m Γ M' n' ⟨x, c, j', i', divs', v3, rfl, rfl, ej, hT', hTl, hi', hd', rfl⟩ ih
    cases hTl with
    | nil =>
      obtain ⟨x1, hx1, hw1, _⟩ := tl_step (w := h) (r := rest) hT'
      walk_at "v"
      rw [tl_at hx1 ej]
      walk_at "v"
      refine ⟨(Nat.le_of_ble_eq_true rfl : _ ≤ sizeLine), ?_⟩
      walk_at "v"
      refine ⟨rfl, rfl, ?_⟩
      rw [hw1]
      refine wite_f (inD_no hlast) ?_
      walk_at "v"
      exact .of (hq _ _ (by rw [ej]; simp only [List.length_nil] at hi'; omega) (by omega))
    | @cons _ y _ b c o ho hLy hTl =>
      obtain ⟨x1, hx1, hw1, hT1⟩ := tl_step (w := o.tok) (r := (b ++ c) ++ h :: rest) hT'
      obtain ⟨w2, r2, e2⟩ := app_cons (b ++ c) h rest
      obtain ⟨x2, hx2, _, _⟩ := tl_step (hT1.trans e2)
      obtain ⟨h3, r3, e3, hh3⟩ := tail_next hTl (rest := rest) hup hops
      have hTb : (TL.drop (i' + 1)).map (·.1) = b ++ h3 :: r3 := by rw [hT1, List.append_assoc, e3]
      have okxy : GoodT y := (hTl.good ok).2
      simp only [List.length_cons, List.length_append] at hi' hd'
      have nxt : ∀ (j3 : Int) (d3 : List D) (q3 : List (Option D)) , j3 = ((i' + 1 + b.length : Nat) : Int) → d3.length ≤ divs'.length + 1 + b.length → (∃ v3 : Option D, q3 = [v3]) → whileN _ _ _ n' (some (.lst (TL.map tokD)) :: some (.ptr p) :: some (encT (.bin o x y)) :: q3) ((M.put p (.lst [.int j3, .ptr p2])).put p2 (.lst d3)) := fun j3 d3 q3 z1 z2 ⟨v3, z3⟩ => by
        subst z3
        exact ih c.length (by simp only [List.length_cons, List.length_append]; omega) _ _ ⟨.bin o x y, c, j3, i' + 1 + b.length, d3, v3, rfl, rfl, z1, by rw [← List.drop_drop, List.map_drop, hTb, List.drop_left, e3], hTl, by omega, by omega, rfl⟩
      cases o with
      | add =>
        walk_at "v"
        rw [tl_at hx1 ej]
        walk_at "v"
        refine ⟨(Nat.le_of_ble_eq_true rfl : _ ≤ sizeLine), ?_⟩
        walk_at "v"
        refine ⟨rfl, rfl, ?_⟩
        rw [hw1]
        walk_at "v"
        rw [tl_at hx1 ej]
        walk_at "v"
        rw [hw1]
        walk_at "v"
        rw [Mem.put2 hne]
        walk_at "w"
        refine ⟨TL, p, p2, _, i' + 1, divs', k, y, b, h3, r3, rfl, Mem.at2 hne, Mem.put_same, hne, by rw [ej]; rfl, hTb, hLy, hk, okxy, hh3, by omega, fun j3 d3 z1 z2 => ?_⟩
        rw [Mem.put2 hne, Mem.put_put]
        walk_at "v"
        refine ⟨(Nat.le_of_ble_eq_true rfl : _ ≤ sizeLine), ?_⟩
        exact nxt _ _ _ z1 (by omega) ⟨_, rfl⟩
      | sub =>
        walk_at "v"
        rw [tl_at hx1 ej]
        walk_at "v"
        refine ⟨(Nat.le_of_ble_eq_true rfl : _ ≤ sizeLine), ?_⟩
        walk_at "v"
        refine ⟨rfl, rfl, ?_⟩
        rw [hw1]
        walk_at "v"
        rw [tl_at hx1 ej]
        walk_at "v"
        rw [hw1]
        walk_at "v"
        rw [Mem.put2 hne]
        walk_at "w"
        refine ⟨TL, p, p2, _, i' + 1, divs', k, y, b, h3, r3, rfl, Mem.at2 hne, Mem.put_same, hne, by rw [ej]; rfl, hTb, hLy, hk, okxy, hh3, by omega, fun j3 d3 z1 z2 => ?_⟩
        rw [Mem.put2 hne, Mem.put_put]
        walk_at "v"
        refine ⟨(Nat.le_of_ble_eq_true rfl : _ ≤ sizeLine), ?_⟩
        exact nxt _ _ _ z1 (by omega) ⟨_, rfl⟩
      | mul => exact absurd ho (by decide)
      | div => exact absurd ho (by decide)
  · obtain ⟨h1, r1, e1, hh1⟩ := tail_next hTl (rest := rest) hup hops
    have hla : a.length = a1.length + c.length + 1 := by rw [ha, List.length_cons, List.length_append]
    have hT2 : (TL.drop i).map (·.1) = ("-" : Str) :: (a1 ++ h1 :: r1) := by rw [hT, ha, List.cons_append, List.append_assoc, e1]
    obtain ⟨x0, hx0, hwx, hT1⟩ := tl_step hT2
    have okx : GoodT x := hTl.good ok
    walk_at "v"
    refine ⟨fun Γ M' => ∃ (j' : Int) (i0 : Nat) (divs' : List D) (v3 : Option D), Γ = [some (.lst (TL.map tokD)), some (.ptr p), some (encT (.neg x)), v3] ∧ M' = (M.put p (.lst [.int j', .ptr p2])).put p2 (.lst divs') ∧ j' = ((i0 + a1.length : Nat) : Int) ∧ (TL.drop (i0 + a1.length)).map (·.1) = c ++ h :: rest ∧ i0 + a1.length + c.length = i + a.length ∧ divs'.length + c.length ≤ divs.length + a.length, ?_, ?_⟩
    · walk_at "v"
      rw [tl_at hx0 hj]
      walk_at "v"
      rw [hwx]
      walk_at "v"
      rw [Mem.put2 hne]
      walk_at "w"
      refine ⟨TL, p, p2, _, i + 1, divs, k, x, a1, h1, r1, rfl, Mem.at2 hne, Mem.put_same, hne, by rw [hj]; rfl, hT1, hL1, hk, okx, hh1, by omega, fun j' divs' e2 e3 => ?_⟩
      rw [Mem.put2 hne, Mem.put_put]
      walk_at "w"
      refine ⟨(Nat.le_of_ble_eq_true rfl : _ ≤ sizeLine), ?_⟩
      exact ⟨j', i + 1, divs', none, rfl, rfl, e2, by rw [← List.drop_drop, List.map_drop, hT1, List.drop_left, e1], by omega, by omega⟩
    rintro Γ M1 ⟨j', i0, divs', v3, rfl, rfl, e2, hT0, hi0, hd0⟩
    walk_at "w"
    refine while_by (fun m Γ M' => ∃ (x : Tr) (c : List Str) (j' : Int) (i' : Nat) (divs' : List D) (v3 : Option D), Γ = [some (.lst (TL.map tokD)), some (.ptr p), some (encT x), v3] ∧ M' = (M.put p (.lst [.int j', .ptr p2])).put p2 (.lst divs') ∧ j' = (i' : Int) ∧ (TL.drop i').map (·.1) = c ++ h :: rest ∧ Tail 1 k x c t ∧ i' + c.length = i + a.length ∧ divs'.length + c.length ≤ divs.length + a.length ∧ m = c.length) ?_ (m := c.length) ⟨.neg x, c, _, i0 + a1.length, divs', _, rfl, rfl, e2, hT0, hTl, hi0, hd0, rfl⟩
    rintro m Γ M' n' ⟨x, c, j', i', divs', v3, rfl, rfl, ej, hT', hTl, hi', hd', rfl⟩ ih
    cases hTl with
    | nil =>
      obtain ⟨x1, hx1, hw1, _⟩ := tl_step (w := h) (r := rest) hT'
      walk_at "v"
      rw [tl_at hx1 ej]
      walk_at "v"
      refine ⟨(Nat.le_of_ble_eq_true rfl : _ ≤ sizeLine), ?_⟩
      walk_at "v"
      refine ⟨rfl, rfl, ?_⟩
      rw [hw1]
      refine wite_f (inD_no hlast) ?_
      walk_at "v"
      exact .of (hq _ _ (by rw [ej]; simp only [List.length_nil] at hi'; omega) (by omega))
    | @cons _ y _ b c o ho hLy hTl =>
      obtain ⟨x1, hx1, hw1, hT1⟩ := tl_step (w := o.tok) (r := (b ++ c) ++ h :: rest) hT'
      obtain ⟨w2, r2, e2⟩ := app_cons (b ++ c) h rest
      obtain ⟨x2, hx2, _, _⟩ := tl_step (hT1.trans e2)
      obtain ⟨h3, r3, e3, hh3⟩ := tail_next hTl (rest := rest) hup hops
      have hTb : (TL.drop (i' + 1)).map (·.1) = b ++ h3 :: r3 := by rw [hT1, List.append_assoc, e3]
      have okxy : GoodT y := (hTl.good ok).2
      simp only [List.length_cons, List.length_append] at hi' hd'
      have nxt : ∀ (j3 : Int) (d3 : List D) (q3 : List (Option D)) , j3 = ((i' + 1 + b.length : Nat) : Int) → d3.length ≤ divs'.length + 1 + b.length → (∃ v3 : Option D, q3 = [v3]) → whileN _ _ _ n' (some (.lst (TL.map tokD)) :: some (.ptr p) :: some (encT (.bin o x y)) :: q3) ((M.put p (.lst [.int j3, .ptr p2])).put p2 (.lst d3)) := fun j3 d3 q3 z1 z2 ⟨v3, z3⟩ => by
        subst z3
        exact ih c.length (by simp only [List.length_cons, List.length_append]; omega) _ _ ⟨.bin o x y, c, j3, i' + 1 + b.length, d3, v3, rfl, rfl, z1, by rw [← List.drop_drop, List.map_drop, hTb, List.drop_left, e3], hTl, by omega, by omega, rfl⟩
      cases o with
      | add =>
        walk_at "v"
        rw [tl_at hx1 ej]
        walk_at "v"
        refine ⟨(Nat.le_of_ble_eq_true rfl : _ ≤ sizeLine), ?_⟩
        walk_at "v"
        refine ⟨rfl, rfl, ?_⟩
        rw [hw1]
        walk_at "v"
        rw [tl_at hx1 ej]
        walk_at "v"
        rw [hw1]
        walk_at "v"
        rw [Mem.put2 hne]
        walk_at "w"
        refine ⟨TL, p, p2, _, i' + 1, divs', k, y, b, h3, r3, rfl, Mem.at2 hne, Mem.put_same, hne, by rw [ej]; rfl, hTb, hLy, hk, okxy, hh3, by omega, fun j3 d3 z1 z2 => ?_⟩
        rw [Mem.put2 hne, Mem.put_put]
        walk_at "v"
        refine ⟨(Nat.le_of_ble_eq_true rfl : _ ≤ sizeLine), ?_⟩
        exact nxt _ _ _ z1 (by omega) ⟨_, rfl⟩
      | sub =>
        walk_at "v"
        rw [tl_at hx1 ej]
        walk_at "v"
        refine ⟨(Nat.le_of_ble_eq_true rfl : _ ≤ sizeLine), ?_⟩
        walk_at "v"
        refine ⟨rfl, rfl, ?_⟩
        rw [hw1]
        walk_at "v"
        rw [tl_at hx1 ej]
        walk_at "v"
        rw [hw1]
        walk_at "v"
        rw [Mem.put2 hne]
        walk_at "w"
        refine ⟨TL, p, p2, _, i' + 1, divs', k, y, b, h3, r3, rfl, Mem.at2 hne, Mem.put_same, hne, by rw [ej]; rfl, hTb, hLy, hk, okxy, hh3, by omega, fun j3 d3 z1 z2 => ?_⟩
        rw [Mem.put2 hne, Mem.put_put]
        walk_at "v"
        refine ⟨(Nat.le_of_ble_eq_true rfl : _ ≤ sizeLine), ?_⟩
        exact nxt _ _ _ z1 (by omega) ⟨_, rfl⟩
      | mul => exact absurd ho (by decide)
      | div => exact absurd ho (by decide)
end
end D2

set_option maxRecDepth 100000
set_option maxHeartbeats 2000000
set_option pp.maxSteps 400
set_option pp.deepTerms false
namespace D2
open PySem PySem.Spec PyProof.Rows L2
local macro_rules | `(tactic| walk_at "wp") => `(tactic| conv => whnf)
local macro_rules | `(tactic| walk_at "w") => `(tactic| (conv => whnf) <;> repeat ((first | rw [seqD_ptr Mem.put_same] | rw [atI_zero] | rw [lstD_ptr Mem.put_same] | rw [dctD_ptr Mem.put_same] | rw [objD_ptr Mem.put_same] | rw [Mem.put_same]); conv => whnf))
local macro_rules | `(tactic| walk_at "v") => `(tactic| (conv => whnf) <;> repeat ((first | rw [seqD_ptr Mem.put_same] | rw [atI_zero] | rw [Mem.put_same] | rw [seqD_ptr (Mem.at2 (by assumption))] | rw [Mem.at2 (by assumption)]); conv => whnf))
local macro_rules | `(tactic| walk_at "a") => `(tactic| (walk_at "w") <;> repeat (refine ⟨(by first | exact mulR ⟨by omega, by omega⟩ | exact mulL ⟨by omega, by omega⟩ | (show (0 : Int) < _; omega) | exact ⟨by omega, by decide +kernel⟩ | exact ⟨by decide, by decide, by decide⟩), ?_⟩ <;> walk_at "w"))
local macro_rules | `(tactic| walk_at "i") => `(tactic| ((walk_at "w") <;> (refine ⟨trivial, by first | exact .inl rfl | exact .inr (.inl rfl) | exact .inr (.inr (.inl rfl)) | exact .inr (.inr (.inr (.inl rfl))) | exact .inr (.inr (.inr (.inr (.inl rfl)))), ?_⟩)))
section
variable {P : Program} {w : World} {K : W.Frag} {mg : Str → Option Value} {base : Heap} {A : Ad}
theorem ok_read (T : Txt K mg A) : ∀ n : Nat, FnAt P w K mg base (3 * n) "_law_read_sum" (S_l_read_sum n)
  | 0 => fnAt_no T.F_l_read_sum fun ds M q ⟨_, _, _, _, _, _, _, _, _, _, _, _, _, _, _, _, _, _, h, _⟩ => Nat.not_lt_zero _ h
  | n + 1 => ok_l_read_sum T n (ok_l_read_product T n (ok_l_read_power T n (ok_read T n)))
theorem sc_l_grown : FnScope ["said", "spot"] ["said"] (defScope (top 42)) := ⟨rfl, rfl, rfl, by decide +kernel, rfl, by decide +kernel, by decide +kernel⟩
theorem ok_l_grown (T : Txt K mg A) (G_l_read_sum : FnAt P w K mg base 120 "_law_read_sum" (S_l_read_sum 40)) (G_l_tokens : FnAt P w K mg base 1 "_law_tokens" S_l_tokens) : FnAt P w K mg base 122 "_law_grown" S_l_grown := by
  refine fnAt_of T.F_l_grown sc_l_grown (fun ds M q h => by first | (obtain ⟨e, _⟩ := h; rw [e]; rfl) | (obtain ⟨_, e, _⟩ := h; rw [e]; rfl) | (obtain ⟨_, _, e, _⟩ := h; rw [e]; rfl) | (obtain ⟨_, _, _, e, _⟩ := h; rw [e]; rfl) | (obtain ⟨_, _, _, _, e, _⟩ := h; rw [e]; rfl) | (obtain ⟨_, _, _, _, _, e, _⟩ := h; rw [e]; rfl) | (obtain ⟨_, _, _, _, _, _, e, _⟩ := h; rw [e]; rfl) | (obtain ⟨_, _, _, _, _, _, _, e, _⟩ := h; rw [e]; rfl) | (obtain ⟨_, _, _, _, _, _, _, _, e, _⟩ := h; rw [e]; rfl) | (obtain ⟨_, _, _, _, _, _, _, _, _, e, _⟩ := h; rw [e]; rfl) | (obtain ⟨_, _, _, _, _, _, _, _, _, _, e, _⟩ := h; rw [e]; rfl) | (obtain ⟨_, _, _, _, _, _, _, _, _, _, _, e, _⟩ := h; rw [e]; rfl)) ?_
  intro f cdv A' outer s H E hr
  have S := sc_l_grown
  have hu := hr.units
  have hu1 := Nat.lt_of_le_of_lt (Nat.add_le_add_left (by decide : 1 ≤ 64) _) hu
  refine ⟨_, _, (pdb_cons (pds_set (i := 1) S.nd rfl (Or.inl rfl) (pd_lstP (pda_cons pd_int (pda_cons (pd_lstP pda_nil) pda_nil))))
      (pdb_one (pds_ret (pd_tup (pda_cons (pd_call G_l_read_sum (hr.mono (by omega)) rfl (pda_cons (pd_op po_add (pd_call G_l_tokens (hr.mono (by omega)) rfl (pda_cons (pd_var 0) pda_nil)) (pd_lst (pda_cons (pd_tup (pda_cons pd_str (pda_cons (pd_callB pc_len rfl T.n_len (by decide +kernel) (pda_cons (pd_var 0) pda_nil)) pda_nil))) pda_nil))) (pda_cons (pd_var 1) pda_nil))) (pda_cons (pd_ix (pd_var 1) pd_int fun _ _ => rfl) pda_nil)))))), fun ds M q h => ?_⟩
  obtain ⟨z, t, k, rfl, hz, hL, hk, ok, hq⟩ := h
  have htl : (tokL z).length ≤ z.length := by
    have := tokR_len _ z.cps.toList 0 (Nat.le_refl _)
    rw [TL.len_tl]
    exact this
  walk_at "w"
  refine ⟨(Nat.le_of_ble_eq_true rfl : _ ≤ sizeLine), fun p2 hp2 => ?_⟩
  walk_at "w"
  refine ⟨(Nat.le_of_ble_eq_true rfl : _ ≤ sizeLine), fun p hp => ?_⟩
  walk_at "w"
  have hpp : p ≠ p2 := fun e => by rw [e, Mem.put_same] at hp; cases hp
  have hMp : M p = none := by rw [Mem.put_ne hpp] at hp; exact hp
  refine ⟨z, rfl, by omega, ?_⟩
  walk_at "w"
  refine ⟨by unfold sizeLine; omega, ?_⟩
  walk_at "w"
  refine ⟨(Nat.le_of_ble_eq_true rfl : _ ≤ sizeLine), ?_⟩
  walk_at "w"
  refine ⟨(Nat.le_of_ble_eq_true rfl : _ ≤ sizeLine), ?_⟩
  walk_at "w"
  refine ⟨by rw [List.length_map]; show _ + 1 ≤ sizeLine; unfold sizeLine; omega, ?_⟩
  walk_at "w"
  refine ⟨tokL z ++ [(("" : Str), z.length)], p, p2, 0, 0, [], k, t, (tokL z).map (·.1), "", [], by rw [List.map_append]; rfl, Mem.put_same, Mem.at2 hpp, hpp.symm, rfl, by rw [List.drop_zero, List.map_append]; rfl, hL, hk, ok, by decide, by rw [List.length_map]; show 0 + _ ≤ _; omega, fun j' divs' e1 e2 => ?_⟩
  rw [Mem.put_put, Mem.put2 hpp]
  walk_at "w"
  refine ⟨(Nat.le_of_ble_eq_true rfl : _ ≤ sizeLine), ?_⟩
  exact .le (fun b o e => Mem.le_put (by rw [Mem.put_ne hpp]; exact hMp) b o (Mem.le_put hp2 b o e)) (hq _)
end
end D2

set_option maxRecDepth 100000
set_option maxHeartbeats 2000000
set_option pp.maxSteps 400
set_option pp.deepTerms false
namespace D2
open PySem PySem.Spec PyProof.Rows L2
local macro_rules | `(tactic| walk_at "wp") => `(tactic| conv => whnf)
local macro_rules | `(tactic| walk_at "w") => `(tactic| (conv => whnf) <;> repeat ((first | rw [seqD_ptr Mem.put_same] | rw [atI_zero] | rw [lstD_ptr Mem.put_same] | rw [dctD_ptr Mem.put_same] | rw [objD_ptr Mem.put_same] | rw [Mem.put_same]); conv => whnf))
local macro_rules | `(tactic| walk_at "v") => `(tactic| (conv => whnf) <;> repeat ((first | rw [seqD_ptr Mem.put_same] | rw [atI_zero] | rw [Mem.put_same] | rw [seqD_ptr (Mem.at2 (by assumption))] | rw [Mem.at2 (by assumption)]); conv => whnf))
local macro_rules | `(tactic| walk_at "a") => `(tactic| (walk_at "w") <;> repeat (refine ⟨(by first | exact mulR ⟨by omega, by omega⟩ | exact mulL ⟨by omega, by omega⟩ | (show (0 : Int) < _; omega) | exact ⟨by omega, by decide +kernel⟩ | exact ⟨by decide, by decide, by decide⟩), ?_⟩ <;> walk_at "w"))
local macro_rules | `(tactic| walk_at "i") => `(tactic| ((walk_at "w") <;> (refine ⟨trivial, by first | exact .inl rfl | exact .inr (.inl rfl) | exact .inr (.inr (.inl rfl)) | exact .inr (.inr (.inr (.inl rfl))) | exact .inr (.inr (.inr (.inr (.inl rfl)))), ?_⟩)))
section
variable {P : Program} {w : World} {K : W.Frag} {mg : Str → Option Value} {base : Heap} {A : Ad}
theorem len_nil {w : Str} (h : w.cps.toList = []) : w.length = 0 := by rw [TL.len_tl]; show w.cps.toList.length = 0; rw [h]; rfl
theorem sc_is_name : FnScope ["value", "sign"] ["value"] (defScope (top 7)) := ⟨rfl, rfl, rfl, by decide +kernel, rfl, by decide +kernel, by decide +kernel⟩
theorem ok_is_name (T : Txt K mg A) : FnAt P w K mg base 1 "is_name" S_is_name := by
  refine fnAt_of T.F_is_name sc_is_name (fun ds M q h => by first | (obtain ⟨e, _⟩ := h; rw [e]; rfl) | (obtain ⟨_, e, _⟩ := h; rw [e]; rfl) | (obtain ⟨_, _, e, _⟩ := h; rw [e]; rfl) | (obtain ⟨_, _, _, e, _⟩ := h; rw [e]; rfl) | (obtain ⟨_, _, _, _, e, _⟩ := h; rw [e]; rfl) | (obtain ⟨_, _, _, _, _, e, _⟩ := h; rw [e]; rfl) | (obtain ⟨_, _, _, _, _, _, e, _⟩ := h; rw [e]; rfl) | (obtain ⟨_, _, _, _, _, _, _, e, _⟩ := h; rw [e]; rfl) | (obtain ⟨_, _, _, _, _, _, _, _, e, _⟩ := h; rw [e]; rfl) | (obtain ⟨_, _, _, _, _, _, _, _, _, e, _⟩ := h; rw [e]; rfl) | (obtain ⟨_, _, _, _, _, _, _, _, _, _, e, _⟩ := h; rw [e]; rfl) | (obtain ⟨_, _, _, _, _, _, _, _, _, _, _, e, _⟩ := h; rw [e]; rfl)) ?_
  intro f cdv A' outer s H E hr
  have S := sc_is_name
  have hu := hr.units
  have hu1 := Nat.lt_of_le_of_lt (Nat.add_le_add_left (by decide : 1 ≤ 64) _) hu
  refine ⟨_, _, (pdb_cons (pds_if (PDW.pdt (pdt_or (pdt_not (pdt_val (pd_callB pc_isi rfl T.n_isinstance (by decide +kernel) (pda_cons (pd_var 0) (pda_cons (pd_ty "str" rfl T.n_str (by decide +kernel)) pda_nil))))) (pdt_or (pdt_cmp po_lt (pd_callB pc_len rfl T.n_len (by decide +kernel) (pda_cons (pd_var 0) pda_nil)) pd_int (nomark _)) (pdt_or (pdt_cmp po_gt (pd_callB pc_len rfl T.n_len (by decide +kernel) (pda_cons (pd_var 0) pda_nil)) pd_int (nomark _)) (pdt_or1 (pdt_cmp po_in (pd_var 0) (pd_c (pe_glob rfl T.m_WORDS (by first | rfl | exact ⟨_, rfl⟩)) T.i_WORDS) (by with_unfolding_all rfl))))))) (pdb_one (pds_ret pd_bl)) pdb_nil)
      (pdb_one (pds_ret (pd_and (pd_cmp po_in (pd_ix (pd_var 0) pd_int fun _ _ => rfl) (pd_c (pe_glob rfl T.m_LETTERS (by first | rfl | exact ⟨_, rfl⟩)) T.i_LETTERS) (by with_unfolding_all rfl)) (pd_one (pd_callB (pc_all rfl) rfl T.n_all (by decide +kernel) (pda_cons (pd_lc (own := [("sign", 1)]) rfl S.nd (pi_s (pd_var 0)) (blkOk_by (N := ["value", "sign"]) (sc := (defScope (top 7))) (by decide +kernel)) (fun _ _ _ _ _ => (pg_name (i := 1) S.nd rfl (Or.inl rfl))) pdgc_1 (fun _ _ _ _ _ => blkT pdts_nil (by first | dsimp only | exact rfl) (by first | dsimp only | exact rfl)) fun _ _ _ _ _ => blkE (pd_cmp po_in (pd_var 1) (pd_c (pe_glob rfl T.m_SIGNS (by first | rfl | exact ⟨_, rfl⟩)) T.i_SIGNS) (by with_unfolding_all rfl)) (by first | dsimp only | exact rfl) (by first | dsimp only | exact rfl)) pda_nil))))))), fun ds M q h => ?_⟩
  obtain ⟨w, rfl, hz, hq⟩ := h
  have fin : ∀ b, nameB w = b → Rt q (.bl b) M := fun b e => .of (by rw [← e]; exact hq)
  have hlen : w.length = w.cps.toList.length := TL.len_tl w
  walk_at "i"
  walk_at "w"
  refine ⟨by unfold sizeLine; omega, ?_⟩
  walk_at "w"
  refine wite_d (fun z => fin false ?_) fun z1 => ?_
  · have e : w.cps.toList = [] := List.eq_nil_of_length_eq_zero (by omega)
    unfold nameB
    rw [e]
    simp [headIn]
  walk_at "w"
  refine ⟨by unfold sizeLine; omega, ?_⟩
  walk_at "w"
  refine wite_d (fun z => fin false ?_) fun z2 => ?_
  · unfold nameB
    rw [decide_eq_false (by omega)]
    rfl
  walk_at "w"
  refine ⟨rfl, (by decide +kernel), ?_⟩
  rw [show inD (.str w) c_WORDS = wordsS.contains w from inD_str w wordsS]
  refine wite_of (fun z => fin false ?_) fun z3 => ?_
  · unfold nameB
    rw [z]
    simp
  cases hc : w.cps.toList with
  | nil => rw [hc] at hlen; simp at hlen; omega
  | cons c l =>
    walk_at "w"
    refine ⟨by unfold sizeLine; omega, ?_⟩
    rw [hc]
    walk_at "w"
    refine ⟨c, rfl, ?_⟩
    walk_at "w"
    have hd : headIn letsS w.cps.toList = decide (c ∈ letsS.cps.toList) := by rw [hc]; rfl
    refine wite_d (fun z => ?_) fun z => fin false ?_
    · walk_at "w"
      refine ⟨by unfold signs sizeLine; rw [List.length_map]; omega, fun p hp => ?_⟩
      refine lc_fm (fchr fun c => decide (c ∈ sgnsS.cps.toList)) (fun d => ∃ c, d = .str ⟨#[c]⟩) hp (fun d hd => by obtain ⟨c, h, _⟩ := signs_mem hd; exact ⟨c, h⟩) ?_ ?_
      · rw [fm_chr]
        walk_at "w"
        refine ⟨_, rfl, ?_⟩
        walk_at "w"
        refine fin _ ?_
        rw [all_map]
        have hz : headIn letsS w.cps.toList = true := by rw [hd]; exact decide_eq_true z
        unfold nameB
        rw [decide_eq_true (show w.length ≤ 8 by omega), z3, hz]
        rfl
      · rintro d ds acc ⟨c, rfl⟩ h1 h2
        walk_at "w"
        refine ⟨c, rfl, ?_⟩
        walk_at "w"
        exact h1 _ rfl
    · have hz : headIn letsS w.cps.toList = false := by rw [hd]; exact decide_eq_false z
      unfold nameB
      rw [hz]
      simp
theorem sc_is_digits : FnScope ["token", "sign"] ["token"] (defScope (top 20)) := ⟨rfl, rfl, rfl, by decide +kernel, rfl, by decide +kernel, by decide +kernel⟩
theorem ok_is_digits (T : Txt K mg A) : FnAt P w K mg base 1 "is_digits" S_is_digits := by
  refine fnAt_of T.F_is_digits sc_is_digits (fun ds M q h => by first | (obtain ⟨e, _⟩ := h; rw [e]; rfl) | (obtain ⟨_, e, _⟩ := h; rw [e]; rfl) | (obtain ⟨_, _, e, _⟩ := h; rw [e]; rfl) | (obtain ⟨_, _, _, e, _⟩ := h; rw [e]; rfl) | (obtain ⟨_, _, _, _, e, _⟩ := h; rw [e]; rfl) | (obtain ⟨_, _, _, _, _, e, _⟩ := h; rw [e]; rfl) | (obtain ⟨_, _, _, _, _, _, e, _⟩ := h; rw [e]; rfl) | (obtain ⟨_, _, _, _, _, _, _, e, _⟩ := h; rw [e]; rfl) | (obtain ⟨_, _, _, _, _, _, _, _, e, _⟩ := h; rw [e]; rfl) | (obtain ⟨_, _, _, _, _, _, _, _, _, e, _⟩ := h; rw [e]; rfl) | (obtain ⟨_, _, _, _, _, _, _, _, _, _, e, _⟩ := h; rw [e]; rfl) | (obtain ⟨_, _, _, _, _, _, _, _, _, _, _, e, _⟩ := h; rw [e]; rfl)) ?_
  intro f cdv A' outer s H E hr
  have S := sc_is_digits
  have hu := hr.units
  have hu1 := Nat.lt_of_le_of_lt (Nat.add_le_add_left (by decide : 1 ≤ 64) _) hu
  refine ⟨_, _, (pdb_cons (pds_if (PDW.pdt (pdt_or (pdt_cmp (po_eq hu) (pd_var 0) pd_str (nomark _)) (pdt_or1 (PDW.pdt (pdt_and (pdt_cmp (po_eq hu) (pd_ix (pd_var 0) pd_int fun _ _ => rfl) pd_str (nomark _)) (pdt_and1 (pdt_cmp (po_ne hu) (pd_var 0) pd_str (nomark _)))))))) (pdb_one (pds_ret pd_bl)) pdb_nil)
      (pdb_one (pds_ret (pd_callB (pc_all rfl) rfl T.n_all (by decide +kernel) (pda_cons (pd_lc (own := [("sign", 1)]) rfl S.nd (pi_s (pd_var 0)) (blkOk_by (N := ["token", "sign"]) (sc := (defScope (top 20))) (by decide +kernel)) (fun _ _ _ _ _ => (pg_name (i := 1) S.nd rfl (Or.inl rfl))) pdgc_1 (fun _ _ _ _ _ => blkT pdts_nil (by first | dsimp only | exact rfl) (by first | dsimp only | exact rfl)) fun _ _ _ _ _ => blkE (pd_cmp po_in (pd_var 1) (pd_c (pe_glob rfl T.m_DIGITS (by first | rfl | exact ⟨_, rfl⟩)) T.i_DIGITS) (by with_unfolding_all rfl)) (by first | dsimp only | exact rfl) (by first | dsimp only | exact rfl)) pda_nil))))), fun ds M q h => ?_⟩
  obtain ⟨w, rfl, hz, hq⟩ := h
  have fin : ∀ b, digB w = b → Rt q (.bl b) M := fun b e => .of (by rw [← e]; exact hq)
  have hlen : w.length = w.cps.toList.length := TL.len_tl w
  walk_at "w"
  refine wite_d (fun z => fin false ?_) fun z1 => ?_
  · subst z
    rfl
  cases hc : w.cps.toList with
  | nil => exact absurd (TL.ext_tl (show TL.tl w = TL.tl "" from hc)) z1
  | cons c l =>
    have hdig : digB w = (!(decide (c = 48) && !decide (w = "0")) && w.cps.toList.all fun c => decide (c ∈ digsS.cps.toList)) := by
      unfold digB
      split
      · rename_i e; rw [hc] at e; cases e
      · rename_i e; rw [hc] at e; cases e; rfl
    have c48 : decide ((⟨#[c]⟩ : Str) = "0") = decide (c = 48) := by
      by_cases h : c = 48
      · subst h; rfl
      · rw [decide_eq_false h]
        refine decide_eq_false fun q => h ?_
        have := congrArg (fun s : Str => s.cps.toList) q
        have e : (("0" : Str)).cps.toList = [48] := by decide +kernel
        simp only [e] at this
        simpa using this
    have loop : (!(decide (c = 48) && !decide (w = "0"))) = true → ∀ p, M p = none → lcL (gN 1) wYes (wOp wIn (wVar 1) (wC (D.str c_DIGITS))) [some (.str w), none] (fun acc M' => wCB wAll (fun Γ1 M1 k => k [.lst acc] Γ1 M1) [some (.str w), none] M' fun d _ M1 => (endsT q).rt d M1) p (signs w) [] M := by
      intro hz p hp
      refine lc_fm (fchr fun c => decide (c ∈ digsS.cps.toList)) (fun d => ∃ c, d = .str ⟨#[c]⟩) hp (fun d hd => by obtain ⟨c, h, _⟩ := signs_mem hd; exact ⟨c, h⟩) ?_ ?_
      · rw [fm_chr]
        walk_at "w"
        refine ⟨_, rfl, ?_⟩
        walk_at "w"
        refine fin _ ?_
        rw [all_map, hdig, hz]
        rfl
      · rintro d ds acc ⟨c, rfl⟩ h1 h2
        walk_at "w"
        refine ⟨c, rfl, ?_⟩
        walk_at "w"
        exact h1 _ rfl
    walk_at "w"
    refine ⟨by unfold sizeLine; omega, ?_⟩
    rw [hc]
    walk_at "w"
    rw [c48]
    refine wite_d (fun z => ?_) fun z => ?_
    · walk_at "w"
      refine wite_nd (fun z2 => fin false ?_) fun z2 => ?_
      · rw [hdig, decide_eq_true z, decide_eq_false z2]
        rfl
      · walk_at "w"
        refine ⟨by unfold signs sizeLine; rw [List.length_map]; omega, fun p hp => ?_⟩
        exact loop (by rw [decide_eq_true z2]; simp) p hp
    · walk_at "w"
      refine ⟨by unfold signs sizeLine; rw [List.length_map]; omega, fun p hp => ?_⟩
      exact loop (by rw [decide_eq_false z]; rfl) p hp
theorem sc_next_state : FnScope ["state", "depth", "token", "with_t", "good"] ["state", "depth", "token", "with_t"] (defScope (top 21)) := ⟨rfl, rfl, rfl, by decide +kernel, rfl, by decide +kernel, by decide +kernel⟩
theorem ok_next_state (T : Txt K mg A) (G_is_digits : FnAt P w K mg base 1 "is_digits" S_is_digits) (G_is_name : FnAt P w K mg base 1 "is_name" S_is_name) : FnAt P w K mg base 2 "next_state" S_next_state := by
  refine fnAt_of T.F_next_state sc_next_state (fun ds M q h => by first | (obtain ⟨e, _⟩ := h; rw [e]; rfl) | (obtain ⟨_, e, _⟩ := h; rw [e]; rfl) | (obtain ⟨_, _, e, _⟩ := h; rw [e]; rfl) | (obtain ⟨_, _, _, e, _⟩ := h; rw [e]; rfl) | (obtain ⟨_, _, _, _, e, _⟩ := h; rw [e]; rfl) | (obtain ⟨_, _, _, _, _, e, _⟩ := h; rw [e]; rfl) | (obtain ⟨_, _, _, _, _, _, e, _⟩ := h; rw [e]; rfl) | (obtain ⟨_, _, _, _, _, _, _, e, _⟩ := h; rw [e]; rfl) | (obtain ⟨_, _, _, _, _, _, _, _, e, _⟩ := h; rw [e]; rfl) | (obtain ⟨_, _, _, _, _, _, _, _, _, e, _⟩ := h; rw [e]; rfl) | (obtain ⟨_, _, _, _, _, _, _, _, _, _, e, _⟩ := h; rw [e]; rfl) | (obtain ⟨_, _, _, _, _, _, _, _, _, _, _, e, _⟩ := h; rw [e]; rfl)) ?_
  intro f cdv A' outer s H E hr
  have S := sc_next_state
  have hu := hr.units
  have hu1 := Nat.lt_of_le_of_lt (Nat.add_le_add_left (by decide : 1 ≤ 64) _) hu
  refine ⟨_, _, (pdb_cons (pds_if (pdt_cmp po_le (pd_var 0) (pd_c (pe_glob rfl T.m_OPERAND (by first | rfl | exact ⟨_, rfl⟩)) T.i_OPERAND) (nomark _)) (pdb_cons (pds_if (pdt_cmp (po_eq hu) (pd_var 2) pd_str (nomark _)) (pdb_one (pds_ret (pd_tup (pda_cons (pd_c (pe_glob rfl T.m_BEGIN (by first | rfl | exact ⟨_, rfl⟩)) T.i_BEGIN) (pda_cons (pd_op po_add (pd_var 1) pd_int) pda_nil))))) pdb_nil)
      (pdb_cons (pds_if (pdt_cmp (po_eq hu) (pd_var 2) pd_str (nomark _)) (pdb_one (pds_ret (pd_tup (pda_cons (pd_c (pe_glob rfl T.m_BRACKET (by first | rfl | exact ⟨_, rfl⟩)) T.i_BRACKET) (pda_cons (pd_var 1) pda_nil))))) pdb_nil)
      (pdb_cons (pds_if (PDW.pdt (pdt_and (pdt_cmp (po_eq hu) (pd_var 2) pd_str (nomark _)) (pdt_and1 (pdt_cmp (po_eq hu) (pd_var 0) (pd_c (pe_glob rfl T.m_BEGIN (by first | rfl | exact ⟨_, rfl⟩)) T.i_BEGIN) (nomark _))))) (pdb_one (pds_ret (pd_tup (pda_cons (pd_c (pe_glob rfl T.m_OPERAND (by first | rfl | exact ⟨_, rfl⟩)) T.i_OPERAND) (pda_cons (pd_var 1) pda_nil))))) pdb_nil)
      (pdb_cons (pds_set (i := 4) S.nd rfl (Or.inl rfl) (pd_or (pd_cmp (po_eq hu) (pd_var 2) pd_str (nomark _)) (pd_or (pd_and (pd_var 3) (pd_one (pd_cmp (po_eq hu) (pd_var 2) pd_str (nomark _)))) (pd_or (pd_call G_is_name (hr.mono (by omega)) rfl (pda_cons (pd_var 2) pda_nil)) (pd_one (pd_call G_is_digits (hr.mono (by omega)) rfl (pda_cons (pd_var 2) pda_nil)))))))
      (pdb_one (pds_ret (pd_tup (pda_cons (pd_if (pdt_val (pd_var 4)) (pd_c (pe_glob rfl T.m_ATOM (by first | rfl | exact ⟨_, rfl⟩)) T.i_ATOM) (pd_c (pe_glob rfl T.m_BAD (by first | rfl | exact ⟨_, rfl⟩)) T.i_BAD)) (pda_cons (pd_var 1) pda_nil))))))))) pdb_nil)
      (pdb_cons (pds_if (pdt_cmp (po_eq hu) (pd_var 0) (pd_c (pe_glob rfl T.m_BRACKET (by first | rfl | exact ⟨_, rfl⟩)) T.i_BRACKET) (nomark _)) (pdb_one (pds_ret (pd_tup (pda_cons (pd_if (pdt_cmp (po_eq hu) (pd_var 2) pd_str (nomark _)) (pd_c (pe_glob rfl T.m_BEGIN (by first | rfl | exact ⟨_, rfl⟩)) T.i_BEGIN) (pd_c (pe_glob rfl T.m_BAD (by first | rfl | exact ⟨_, rfl⟩)) T.i_BAD)) (pda_cons (pd_op po_add (pd_var 1) pd_int) pda_nil))))) pdb_nil)
      (pdb_cons (pds_if (pdt_cmp (po_eq hu) (pd_var 0) (pd_c (pe_glob rfl T.m_EXPONENT (by first | rfl | exact ⟨_, rfl⟩)) T.i_EXPONENT) (nomark _)) (pdb_one (pds_ret (pd_tup (pda_cons (pd_if (PDW.pdt (pdt_and (pdt_val (pd_call G_is_digits (hr.mono (by omega)) rfl (pda_cons (pd_var 2) pda_nil))) (pdt_and1 (pdt_cmp po_le (pd_callB pc_len rfl T.n_len (by decide +kernel) (pda_cons (pd_var 2) pda_nil)) pd_int (nomark _))))) (pd_c (pe_glob rfl T.m_POWER (by first | rfl | exact ⟨_, rfl⟩)) T.i_POWER) (pd_c (pe_glob rfl T.m_BAD (by first | rfl | exact ⟨_, rfl⟩)) T.i_BAD)) (pda_cons (pd_var 1) pda_nil))))) pdb_nil)
      (pdb_cons (pds_if (pdt_cmp (po_eq hu) (pd_var 2) pd_str (nomark _)) (pdb_one (pds_ret (pd_tup (pda_cons (pd_if (pdt_cmp (po_eq hu) (pd_var 0) (pd_c (pe_glob rfl T.m_ATOM (by first | rfl | exact ⟨_, rfl⟩)) T.i_ATOM) (nomark _)) (pd_c (pe_glob rfl T.m_EXPONENT (by first | rfl | exact ⟨_, rfl⟩)) T.i_EXPONENT) (pd_c (pe_glob rfl T.m_BAD (by first | rfl | exact ⟨_, rfl⟩)) T.i_BAD)) (pda_cons (pd_var 1) pda_nil))))) pdb_nil)
      (pdb_cons (pds_if (pdt_cmp po_in (pd_var 2) (pd_tup (pda_cons pd_str (pda_cons pd_str (pda_cons pd_str (pda_cons pd_str pda_nil))))) (by with_unfolding_all rfl)) (pdb_one (pds_ret (pd_tup (pda_cons (pd_c (pe_glob rfl T.m_OPERAND (by first | rfl | exact ⟨_, rfl⟩)) T.i_OPERAND) (pda_cons (pd_var 1) pda_nil))))) pdb_nil)
      (pdb_cons (pds_if (PDW.pdt (pdt_and (pdt_cmp (po_eq hu) (pd_var 2) pd_str (nomark _)) (pdt_and1 (pdt_cmp po_gt (pd_var 1) pd_int (nomark _))))) (pdb_one (pds_ret (pd_tup (pda_cons (pd_c (pe_glob rfl T.m_ATOM (by first | rfl | exact ⟨_, rfl⟩)) T.i_ATOM) (pda_cons (pd_op po_sub (pd_var 1) pd_int) pda_nil))))) pdb_nil)
      (pdb_one (pds_ret (pd_tup (pda_cons (pd_c (pe_glob rfl T.m_BAD (by first | rfl | exact ⟨_, rfl⟩)) T.i_BAD) (pda_cons (pd_var 1) pda_nil))))))))))), fun ds M q h => ?_⟩
  obtain ⟨s, d, w, rfl, hz, hq⟩ := h
  have fin : ∀ a b : Int, nextS s d w = (a, b) → Rt q (.tup [.int a, .int b]) M := fun a b e => .of (by rw [e] at hq; exact hq)
  walk_at "w"
  refine wite_d (fun hs => ?_) fun hs => ?_
  · walk_at "w"
    refine wite_d (fun h1 => ?_) fun h1 => ?_
    · walk_at "w"
      refine ⟨(Nat.le_of_ble_eq_true rfl : _ ≤ sizeLine), ?_⟩
      exact fin _ _ (by unfold nextS; rw [if_pos hs, if_pos h1])
    walk_at "w"
    refine wite_d (fun h2 => ?_) fun h2 => ?_
    · walk_at "w"
      refine ⟨(Nat.le_of_ble_eq_true rfl : _ ≤ sizeLine), ?_⟩
      exact fin _ _ (by unfold nextS; rw [if_pos hs, if_neg h1, if_pos h2])
    have go : ¬ (w = "-" ∧ s = 0) → wSeq
            (wAsg
              (wOrV (wOp wEq (wVar 2) (wC (D.str (Str.ofString "i"))))
                (wOrV (wAndV (wVar 3) (wOp wEq (wVar 2) (wC (D.str (Str.ofString "t")))))
                  (wOrV (wCall S_is_name (wCons (wVar 2) wNil)) (wCall S_is_digits (wCons (wVar 2) wNil)))))
              (gN 4))
            (wRet (wTup (wCons (wIf (wB (wVar 4)) (wC (D.int 4)) (wC (D.int 6))) (wCons (wVar 1) wNil)))) [some (.int s), some (.int d), some (.str w), some (.bl false), none] M (endsT q) := by
      intro h3
      have fin2 : ∀ b : Bool, (decide (w = "i") || (nameB w || digB w)) = b → Rt q (.tup [.int (if b = true then 4 else 6), .int d]) M := fun b e => fin _ _ (by unfold nextS; rw [if_pos hs, if_neg h1, if_neg h2, if_neg h3, e])
      walk_at "w"
      refine wite_d (fun h4 => ?_) fun h4 => ?_
      · walk_at "w"
        refine ⟨(Nat.le_of_ble_eq_true rfl : _ ≤ sizeLine), ?_⟩
        exact fin2 true (by rw [decide_eq_true h4]; rfl)
      · rw [decide_eq_false h4] at fin2
        walk_at "w"
        refine ⟨w, rfl, hz, ?_⟩
        walk_at "w"
        cases hn : nameB w with
        | true =>
          walk_at "w"
          refine ⟨(Nat.le_of_ble_eq_true rfl : _ ≤ sizeLine), ?_⟩
          exact fin2 true (by rw [hn]; rfl)
        | false =>
          walk_at "w"
          refine ⟨w, rfl, hz, ?_⟩
          walk_at "w"
          cases hd : digB w with
          | true =>
            walk_at "w"
            refine ⟨(Nat.le_of_ble_eq_true rfl : _ ≤ sizeLine), ?_⟩
            exact fin2 true (by rw [hn, hd]; rfl)
          | false =>
            walk_at "w"
            refine ⟨(Nat.le_of_ble_eq_true rfl : _ ≤ sizeLine), ?_⟩
            exact fin2 false (by rw [hn, hd]; rfl)
    walk_at "w"
    refine wite_d (fun h3 => ?_) fun h3 => ?_
    · walk_at "w"
      refine wite_d (fun h4 => ?_) fun h4 => ?_
      · walk_at "w"
        refine ⟨(Nat.le_of_ble_eq_true rfl : _ ≤ sizeLine), ?_⟩
        exact fin _ _ (by unfold nextS; rw [if_pos hs, if_neg h1, if_neg h2, if_pos ⟨h3, h4⟩])
      · exact go fun z => h4 z.2
    · exact go fun z => h3 z.1
  walk_at "w"
  refine wite_d (fun h1 => ?_) fun h1 => ?_
  · walk_at "w"
    refine wite_d (fun h2 => ?_) fun h2 => ?_
    · walk_at "w"
      refine ⟨(Nat.le_of_ble_eq_true rfl : _ ≤ sizeLine), ?_⟩
      exact fin _ _ (by unfold nextS; rw [if_neg hs, if_pos h1, if_pos h2])
    · walk_at "w"
      refine ⟨(Nat.le_of_ble_eq_true rfl : _ ≤ sizeLine), ?_⟩
      exact fin _ _ (by unfold nextS; rw [if_neg hs, if_pos h1, if_neg h2])
  walk_at "w"
  refine wite_d (fun h2 => ?_) fun h2 => ?_
  · walk_at "w"
    refine ⟨w, rfl, hz, ?_⟩
    walk_at "w"
    refine wite_of (fun h3 => ?_) fun h3 => ?_
    · walk_at "w"
      refine ⟨by unfold sizeLine; omega, ?_⟩
      refine wite_d (fun h4 => ?_) fun h4 => ?_
      · walk_at "w"
        refine ⟨(Nat.le_of_ble_eq_true rfl : _ ≤ sizeLine), ?_⟩
        exact fin _ _ (by unfold nextS; rw [if_neg hs, if_neg h1, if_pos h2, if_pos ⟨h3, by omega⟩])
      · walk_at "w"
        refine ⟨(Nat.le_of_ble_eq_true rfl : _ ≤ sizeLine), ?_⟩
        exact fin _ _ (by unfold nextS; rw [if_neg hs, if_neg h1, if_pos h2, if_neg fun z => h4 (by have := z.2; omega)])
    · walk_at "w"
      refine ⟨(Nat.le_of_ble_eq_true rfl : _ ≤ sizeLine), ?_⟩
      exact fin _ _ (by unfold nextS; rw [if_neg hs, if_neg h1, if_pos h2, if_neg fun z => by rw [h3] at z; exact Bool.noConfusion z.1])
  walk_at "w"
  refine wite_d (fun h3 => ?_) fun h3 => ?_
  · walk_at "w"
    refine wite_d (fun h4 => ?_) fun h4 => ?_
    · walk_at "w"
      refine ⟨(Nat.le_of_ble_eq_true rfl : _ ≤ sizeLine), ?_⟩
      exact fin _ _ (by unfold nextS; rw [if_neg hs, if_neg h1, if_neg h2, if_pos h3, if_pos h4])
    · walk_at "w"
      refine ⟨(Nat.le_of_ble_eq_true rfl : _ ≤ sizeLine), ?_⟩
      exact fin _ _ (by unfold nextS; rw [if_neg hs, if_neg h1, if_neg h2, if_pos h3, if_neg h4])
  have hops : inD (.str w) [.str "+", .str "-", .str "*", .str "/"] = decide (w = "+" ∨ w = "-" ∨ w = "*" ∨ w = "/") := by
    rw [show inD (.str w) [.str "+", .str "-", .str "*", .str "/"] = (["+", "-", "*", "/"] : List Str).contains w from inD_str w ["+", "-", "*", "/"], List.contains_eq_mem]
    simp
  walk_at "w"
  refine ⟨(Nat.le_of_ble_eq_true rfl : _ ≤ sizeLine), ?_⟩
  walk_at "w"
  refine ⟨rfl, rfl, ?_⟩
  walk_at "w"
  rw [hops]
  refine wite_d (fun h4 => ?_) fun h4 => ?_
  · walk_at "w"
    refine ⟨(Nat.le_of_ble_eq_true rfl : _ ≤ sizeLine), ?_⟩
    exact fin _ _ (by unfold nextS; rw [if_neg hs, if_neg h1, if_neg h2, if_neg h3, if_pos h4])
  walk_at "w"
  have last : ¬ (w = ")" ∧ 0 < d) → Rt q (.tup [.int 6, .int d]) M := fun h5 => fin _ _ (by unfold nextS; rw [if_neg hs, if_neg h1, if_neg h2, if_neg h3, if_neg h4, if_neg h5])
  refine wite_d (fun h5 => ?_) fun h5 => ?_
  · walk_at "w"
    refine wite_d (fun h6 => ?_) fun h6 => ?_
    · walk_at "w"
      refine ⟨(Nat.le_of_ble_eq_true rfl : _ ≤ sizeLine), ?_⟩
      exact fin _ _ (by unfold nextS; rw [if_neg hs, if_neg h1, if_neg h2, if_neg h3, if_neg h4, if_pos ⟨h5, h6⟩])
    · walk_at "w"
      refine ⟨(Nat.le_of_ble_eq_true rfl : _ ≤ sizeLine), ?_⟩
      exact last fun z => h6 z.2
  · walk_at "w"
    refine ⟨(Nat.le_of_ble_eq_true rfl : _ ≤ sizeLine), ?_⟩
    exact last fun z => h5 z.1
theorem sc_bad_place : FnScope ["found", "size", "with_t", "state", "depth", "token", "at"] ["found", "size", "with_t"] (defScope (top 22)) := ⟨rfl, rfl, rfl, by decide +kernel, rfl, by decide +kernel, by decide +kernel⟩
theorem ok_bad_place (T : Txt K mg A) (G_next_state : FnAt P w K mg base 2 "next_state" S_next_state) : FnAt P w K mg base 3 "bad_place" S_bad_place := by
  refine fnAt_of T.F_bad_place sc_bad_place (fun ds M q h => by first | (obtain ⟨e, _⟩ := h; rw [e]; rfl) | (obtain ⟨_, e, _⟩ := h; rw [e]; rfl) | (obtain ⟨_, _, e, _⟩ := h; rw [e]; rfl) | (obtain ⟨_, _, _, e, _⟩ := h; rw [e]; rfl) | (obtain ⟨_, _, _, _, e, _⟩ := h; rw [e]; rfl) | (obtain ⟨_, _, _, _, _, e, _⟩ := h; rw [e]; rfl) | (obtain ⟨_, _, _, _, _, _, e, _⟩ := h; rw [e]; rfl) | (obtain ⟨_, _, _, _, _, _, _, e, _⟩ := h; rw [e]; rfl) | (obtain ⟨_, _, _, _, _, _, _, _, e, _⟩ := h; rw [e]; rfl) | (obtain ⟨_, _, _, _, _, _, _, _, _, e, _⟩ := h; rw [e]; rfl) | (obtain ⟨_, _, _, _, _, _, _, _, _, _, e, _⟩ := h; rw [e]; rfl) | (obtain ⟨_, _, _, _, _, _, _, _, _, _, _, e, _⟩ := h; rw [e]; rfl)) ?_
  intro f cdv A' outer s H E hr
  have S := sc_bad_place
  have hu := hr.units
  have hu1 := Nat.lt_of_le_of_lt (Nat.add_le_add_left (by decide : 1 ≤ 64) _) hu
  refine ⟨_, _, (pdb_cons (pd_par (i := 3) (j := 4) rfl S.nd rfl rfl (by decide) rfl rfl (pda_cons (pd_c (pe_glob rfl T.m_BEGIN (by first | rfl | exact ⟨_, rfl⟩)) T.i_BEGIN) (pda_cons pd_int pda_nil)) rfl)
      (pdb_cons (pds_for PassesOwn.never rfl (pi_l (pd_var 0)) (pdg_tup rfl (pdgs_cons (pdg_name (i := 5) S.nd rfl (Or.inl rfl)) (pdgs_cons (pdg_name (i := 6) S.nd rfl (Or.inl rfl)) pdgs_nil))) (pdb_cons (pds_asg (pd_call G_next_state (hr.mono (by omega)) rfl (pda_cons (pd_var 3) (pda_cons (pd_var 4) (pda_cons (pd_var 5) (pda_cons (pd_var 2) pda_nil))))) (pdg_tup rfl (pdgs_cons (pdg_name (i := 3) S.nd rfl (Or.inl rfl)) (pdgs_cons (pdg_name (i := 4) S.nd rfl (Or.inl rfl)) pdgs_nil))))
      (pdb_one (pds_if (pdt_cmp (po_eq hu) (pd_var 3) (pd_c (pe_glob rfl T.m_BAD (by first | rfl | exact ⟨_, rfl⟩)) T.i_BAD) (nomark _)) (pdb_one (pds_ret (pd_var 6))) pdb_nil))))
      (pdb_one (pds_ret (pd_if (PDW.pdt (pdt_and (pdt_cmp po_ge (pd_var 3) (pd_c (pe_glob rfl T.m_ATOM (by first | rfl | exact ⟨_, rfl⟩)) T.i_ATOM) (nomark _)) (pdt_and1 (pdt_cmp (po_eq hu) (pd_var 4) pd_int (nomark _))))) (pd_un pu_neg pd_int) (pd_var 1)))))), fun ds M q h => ?_⟩
  obtain ⟨TL, n, rfl, hz, hq⟩ := h
  have fin : ∀ v : D, v = .int (badF n TL 0 0) → Rt q v M := fun v e => .of (by rw [e]; exact hq)
  walk_at "w"
  refine for_by (fun ds Γ M' => ∃ (r : List (Str × Nat)) (s d : Int) (v5 v6 : Option D), Γ = [some (.lst (TL.map tokD)), some (.int n), some (.bl false), some (.int s), some (.int d), v5, v6] ∧ M' = M ∧ ds = r.map tokD ∧ badF n r s d = badF n TL 0 0 ∧ ∀ x ∈ r, x.1.length ≤ 7000000) ?_ ?_ _ _ _ ⟨TL, 0, 0, none, none, rfl, rfl, rfl, rfl, hz⟩
  · rintro Γ M' ⟨r, s, d, v5, v6, rfl, rfl, e, hb, _⟩
    have hr : r = [] := by cases r with
      | nil => rfl
      | cons => cases e
    subst hr
    have hb' : (if 4 ≤ s ∧ d = 0 then -1 else n) = badF n TL 0 0 := hb
    walk_at "w"
    refine wite_d (fun h1 => ?_) fun h1 => ?_
    · walk_at "w"
      refine wite_d (fun h2 => ?_) fun h2 => ?_
      · walk_at "w"
        exact fin _ (by rw [← hb', if_pos ⟨h1, h2⟩])
      · walk_at "w"
        exact fin _ (by rw [← hb', if_neg fun z => h2 z.2])
    · walk_at "w"
      exact fin _ (by rw [← hb', if_neg fun z => h1 z.1])
  · rintro d0 ds Γ M' ⟨r, s, d, v5, v6, rfl, rfl, e, hb, hz⟩ ih
    cases r with
    | nil => cases e
    | cons x r =>
      cases e
      have hb' : (if (nextS s d x.1).1 = 6 then (x.2 : Int) else badF n r (nextS s d x.1).1 (nextS s d x.1).2) = badF n TL 0 0 := hb
      walk_at "w"
      refine ⟨rfl, ?_⟩
      walk_at "w"
      refine ⟨s, d, x.1, rfl, hz x (List.mem_cons_self ..), ?_⟩
      walk_at "w"
      refine ⟨rfl, ?_⟩
      walk_at "w"
      refine wite_d (fun h1 => ?_) fun h1 => ?_
      · walk_at "w"
        exact fin _ (by rw [← hb', if_pos h1])
      · exact ih _ _ ⟨r, _, _, _, _, rfl, rfl, rfl, by rw [← hb', if_neg h1], fun y hy => hz y (List.mem_cons_of_mem _ hy)⟩
theorem sc_operand_step : FnScope ["token", "before"] ["token", "before"] (defScope (top 23)) := ⟨rfl, rfl, rfl, by decide +kernel, rfl, by decide +kernel, by decide +kernel⟩
theorem ok_operand_step (T : Txt K mg A) : FnAt P w K mg base 1 "operand_step" S_operand_step := by
  refine fnAt_of T.F_operand_step sc_operand_step (fun ds M q h => by first | (obtain ⟨e, _⟩ := h; rw [e]; rfl) | (obtain ⟨_, e, _⟩ := h; rw [e]; rfl) | (obtain ⟨_, _, e, _⟩ := h; rw [e]; rfl) | (obtain ⟨_, _, _, e, _⟩ := h; rw [e]; rfl) | (obtain ⟨_, _, _, _, e, _⟩ := h; rw [e]; rfl) | (obtain ⟨_, _, _, _, _, e, _⟩ := h; rw [e]; rfl) | (obtain ⟨_, _, _, _, _, _, e, _⟩ := h; rw [e]; rfl) | (obtain ⟨_, _, _, _, _, _, _, e, _⟩ := h; rw [e]; rfl) | (obtain ⟨_, _, _, _, _, _, _, _, e, _⟩ := h; rw [e]; rfl) | (obtain ⟨_, _, _, _, _, _, _, _, _, e, _⟩ := h; rw [e]; rfl) | (obtain ⟨_, _, _, _, _, _, _, _, _, _, e, _⟩ := h; rw [e]; rfl) | (obtain ⟨_, _, _, _, _, _, _, _, _, _, _, e, _⟩ := h; rw [e]; rfl)) ?_
  intro f cdv A' outer s H E hr
  have S := sc_operand_step
  have hu := hr.units
  have hu1 := Nat.lt_of_le_of_lt (Nat.add_le_add_left (by decide : 1 ≤ 64) _) hu
  refine ⟨_, _, (pdb_cons (pds_if (pdt_cmp (po_eq hu) (pd_var 1) pd_str (nomark _)) (pdb_one (pds_ret (pd_tup (pda_cons pd_str (pda_cons (pd_callTy pc_int rfl T.n_int (by decide +kernel) (pda_cons (pd_var 0) pda_nil)) pda_nil))))) pdb_nil)
      (pdb_cons (pds_if (pdt_cmp (po_eq hu) (pd_var 0) pd_str (nomark _)) (pdb_one (pds_ret (pd_tup (pda_cons (pd_var 0) pda_nil)))) pdb_nil)
      (pdb_cons (pds_if (pdt_cmp po_in (pd_ix (pd_var 0) pd_int fun _ _ => rfl) (pd_c (pe_glob rfl T.m_DIGITS (by first | rfl | exact ⟨_, rfl⟩)) T.i_DIGITS) (by with_unfolding_all rfl)) (pdb_one (pds_ret (pd_tup (pda_cons pd_str (pda_cons (pd_callTy pc_int rfl T.n_int (by decide +kernel) (pda_cons (pd_var 0) pda_nil)) pda_nil))))) pdb_nil)
      (pdb_one (pds_ret (pd_tup (pda_cons pd_str (pda_cons (pd_var 0) pda_nil)))))))), fun ds M q h => ?_⟩
  obtain ⟨w, b, st, rfl, hs, hq⟩ := h
  cases hs with
  | pow e h0 h1 =>
    walk_at "w"
    refine ⟨e, int_numS h0 (by omega), Nat.le_trans (num_len3 h0 h1) (by decide), ?_⟩
    walk_at "w"
    refine ⟨(Nat.le_of_ble_eq_true rfl : _ ≤ sizeLine), ?_⟩
    exact .of hq
  | im hb =>
    walk_at "w"
    refine wite_f (decide_eq_false hb) ?_
    walk_at "w"
    refine ⟨(Nat.le_of_ble_eq_true rfl : _ ≤ sizeLine), ?_⟩
    exact .of hq
  | num n hb h0 h1 =>
    obtain ⟨c, l, hc, hc1, hc2⟩ := num_head h0
    have hl40 := num_len40 h0 h1
    walk_at "w"
    refine wite_f (decide_eq_false hb) ?_
    walk_at "w"
    refine wite_f (decide_eq_false (num_ne h0 (by decide +kernel))) ?_
    walk_at "w"
    refine ⟨Nat.le_trans hl40 (by decide), ?_⟩
    rw [hc]
    walk_at "w"
    have hin : ∀ c : Nat, c < 58 → 48 ≤ c → c ∈ c_DIGITS.cps.toList := by decide +kernel
    refine ⟨c, rfl, wite_t (decide_eq_true (hin c (by omega) hc1)) ?_⟩
    walk_at "w"
    refine ⟨n, int_numS h0 h1, Nat.le_trans hl40 (by decide), ?_⟩
    walk_at "w"
    refine ⟨(Nat.le_of_ble_eq_true rfl : _ ≤ sizeLine), ?_⟩
    exact .of hq
  | name hb hn =>
    obtain ⟨c, l, hc, hc1⟩ := name_head hn
    walk_at "w"
    refine wite_f (decide_eq_false hb) ?_
    walk_at "w"
    refine wite_f (decide_eq_false (name_word hn (by decide))) ?_
    walk_at "w"
    refine ⟨Nat.le_trans (name_len hn) (by decide), ?_⟩
    rw [hc]
    walk_at "w"
    have hin : ∀ c ∈ letsS.cps.toList, ¬ c ∈ c_DIGITS.cps.toList := by decide +kernel
    refine ⟨c, rfl, wite_f (decide_eq_false (hin c hc1)) ?_⟩
    walk_at "w"
    refine ⟨(Nat.le_of_ble_eq_true rfl : _ ≤ sizeLine), ?_⟩
    exact .of hq
theorem sc_around : FnScope ["text", "level", "least"] ["text", "level", "least"] (defScope (top 25)) := ⟨rfl, rfl, rfl, by decide +kernel, rfl, by decide +kernel, by decide +kernel⟩
theorem ok_around (T : Txt K mg A) : FnAt P w K mg base 1 "around" S_around := by
  refine fnAt_of T.F_around sc_around (fun ds M q h => by first | (obtain ⟨e, _⟩ := h; rw [e]; rfl) | (obtain ⟨_, e, _⟩ := h; rw [e]; rfl) | (obtain ⟨_, _, e, _⟩ := h; rw [e]; rfl) | (obtain ⟨_, _, _, e, _⟩ := h; rw [e]; rfl) | (obtain ⟨_, _, _, _, e, _⟩ := h; rw [e]; rfl) | (obtain ⟨_, _, _, _, _, e, _⟩ := h; rw [e]; rfl) | (obtain ⟨_, _, _, _, _, _, e, _⟩ := h; rw [e]; rfl) | (obtain ⟨_, _, _, _, _, _, _, e, _⟩ := h; rw [e]; rfl) | (obtain ⟨_, _, _, _, _, _, _, _, e, _⟩ := h; rw [e]; rfl) | (obtain ⟨_, _, _, _, _, _, _, _, _, e, _⟩ := h; rw [e]; rfl) | (obtain ⟨_, _, _, _, _, _, _, _, _, _, e, _⟩ := h; rw [e]; rfl) | (obtain ⟨_, _, _, _, _, _, _, _, _, _, _, e, _⟩ := h; rw [e]; rfl)) ?_
  intro f cdv A' outer s H E hr
  have S := sc_around
  have hu := hr.units
  have hu1 := Nat.lt_of_le_of_lt (Nat.add_le_add_left (by decide : 1 ≤ 64) _) hu
  refine ⟨_, _, (pdb_one (pds_ret (pd_if (pdt_cmp po_ge (pd_var 1) (pd_var 2) (nomark _)) (pd_var 0) (pd_joined (.cons pd_str (.cons (pd_fmt (pd_var 0)) (.cons pd_str .nil))))))), fun ds M q h => ?_⟩
  obtain ⟨z, l, m, rfl, hz, hq⟩ := h
  walk_at "w"
  refine wite_d (fun h1 => ?_) fun h1 => ?_
  · walk_at "w"
    rw [brk_f (decide_eq_false (show ¬ l < m by omega))] at hq
    exact .of hq
  · rw [brk_t (decide_eq_true (show l < m by omega))] at hq
    walk_at "w"
    refine ⟨(Nat.le_of_ble_eq_true rfl : _ ≤ sizeLine), ?_⟩
    walk_at "w"
    refine ⟨by unfold sizeLine; omega, ?_⟩
    rw [empty_app]
    refine ⟨by rw [str_len_app]; show 1 + _ ≤ sizeLine; unfold sizeLine; omega, ?_⟩
    walk_at "w"
    refine ⟨by rw [str_len_app, str_len_app]; show 1 + _ + 1 ≤ sizeLine; unfold sizeLine; omega, ?_⟩
    exact .of hq
end
end D2

set_option maxRecDepth 100000
set_option maxHeartbeats 2000000
set_option pp.maxSteps 400
set_option pp.deepTerms false
namespace D2
open PySem PySem.Spec PyProof.Rows L2
local macro_rules | `(tactic| walk_at "wp") => `(tactic| conv => whnf)
local macro_rules | `(tactic| walk_at "w") => `(tactic| (conv => whnf) <;> repeat ((first | rw [seqD_ptr Mem.put_same] | rw [atI_zero] | rw [lstD_ptr Mem.put_same] | rw [dctD_ptr Mem.put_same] | rw [objD_ptr Mem.put_same] | rw [Mem.put_same]); conv => whnf))
local macro_rules | `(tactic| walk_at "v") => `(tactic| (conv => whnf) <;> repeat ((first | rw [seqD_ptr Mem.put_same] | rw [atI_zero] | rw [Mem.put_same] | rw [seqD_ptr (Mem.at2 (by assumption))] | rw [Mem.at2 (by assumption)]); conv => whnf))
local macro_rules | `(tactic| walk_at "a") => `(tactic| (walk_at "w") <;> repeat (refine ⟨(by first | exact mulR ⟨by omega, by omega⟩ | exact mulL ⟨by omega, by omega⟩ | (show (0 : Int) < _; omega) | exact ⟨by omega, by decide +kernel⟩ | exact ⟨by decide, by decide, by decide⟩), ?_⟩ <;> walk_at "w"))
local macro_rules | `(tactic| walk_at "i") => `(tactic| ((walk_at "w") <;> (refine ⟨trivial, by first | exact .inl rfl | exact .inr (.inl rfl) | exact .inr (.inr (.inl rfl)) | exact .inr (.inr (.inr (.inl rfl))) | exact .inr (.inr (.inr (.inr (.inl rfl)))), ?_⟩)))
section
variable {P : Program} {w : World} {K : W.Frag} {mg : Str → Option Value} {base : Heap} {A : Ad}
theorem sc_postfix : FnScope ["found", "steps", "places", "waiting", "before", "k", "rank", "token", "at", "word", "place"] ["found"] (defScope (top 24)) := ⟨rfl, rfl, rfl, by decide +kernel, rfl, by decide +kernel, by decide +kernel⟩
theorem ok_postfix (T : Txt K mg A) (G_operand_step : FnAt P w K mg base 1 "operand_step" S_operand_step) (R_RANKS : KMap K w A.RANKS rankD) : FnAt P w K mg base 2 "postfix" S_postfix := by
  refine fnAt_of T.F_postfix sc_postfix (fun ds M q h => by first | (obtain ⟨e, _⟩ := h; rw [e]; rfl) | (obtain ⟨_, e, _⟩ := h; rw [e]; rfl) | (obtain ⟨_, _, e, _⟩ := h; rw [e]; rfl) | (obtain ⟨_, _, _, e, _⟩ := h; rw [e]; rfl) | (obtain ⟨_, _, _, _, e, _⟩ := h; rw [e]; rfl) | (obtain ⟨_, _, _, _, _, e, _⟩ := h; rw [e]; rfl) | (obtain ⟨_, _, _, _, _, _, e, _⟩ := h; rw [e]; rfl) | (obtain ⟨_, _, _, _, _, _, _, e, _⟩ := h; rw [e]; rfl) | (obtain ⟨_, _, _, _, _, _, _, _, e, _⟩ := h; rw [e]; rfl) | (obtain ⟨_, _, _, _, _, _, _, _, _, e, _⟩ := h; rw [e]; rfl) | (obtain ⟨_, _, _, _, _, _, _, _, _, _, e, _⟩ := h; rw [e]; rfl) | (obtain ⟨_, _, _, _, _, _, _, _, _, _, _, e, _⟩ := h; rw [e]; rfl)) ?_
  intro f cdv A' outer s H E hr
  have S := sc_postfix
  have hu := hr.units
  have hu1 := Nat.lt_of_le_of_lt (Nat.add_le_add_left (by decide : 1 ≤ 64) _) hu
  refine ⟨_, _, (pdb_cons (pds_set (i := 1) S.nd rfl (Or.inl rfl) (pd_lstP pda_nil))
      (pdb_cons (pds_set (i := 2) S.nd rfl (Or.inl rfl) (pd_lstP pda_nil))
      (pdb_cons (pds_set (i := 3) S.nd rfl (Or.inl rfl) (pd_lstP pda_nil))
      (pdb_cons (pds_set (i := 4) S.nd rfl (Or.inl rfl) pd_str)
      (pdb_cons (pds_for PassesOwn.never rfl (pi_en rfl T.n_enumerate (pda_cons (pd_var 0) pda_nil)) (pdg_tup rfl (pdgs_cons (pdg_name (i := 5) S.nd rfl (Or.inl rfl)) (pdgs_cons (pdg_tup rfl (pdgs_cons (pdg_name (i := 7) S.nd rfl (Or.inl rfl)) (pdgs_cons (pdg_name (i := 8) S.nd rfl (Or.inl rfl)) pdgs_nil))) pdgs_nil))) (pdb_cons (pds_set (i := 6) S.nd rfl (Or.inl rfl) (pd_kget2 R_RANKS (pd_c (pe_glob rfl T.m_RANKS (by first | rfl | exact ⟨_, rfl⟩)) (fun _ => .ptr _)) (pd_var 7) pd_int))
      (pdb_cut (pds_while PassesOwn.never (PDW.pdt (pdt_and (pdt_cmp po_lt (pd_var 6) pd_int (nomark _)) (pdt_and (pdt_tru (pd_var 3)) (pdt_and1 (pdt_cmp po_ge (pd_ix (pd_ix (pd_var 3) (pd_un pu_neg pd_int) fun _ _ => rfl) pd_int fun _ _ => rfl) (pd_callB (pc_max rfl) rfl T.n_max (by decide +kernel) (pda_cons pd_int (pda_cons (pd_var 6) pda_nil))) (nomark _)))))) (pdb_cons (pds_asg (pd_sl (pd_pp (pd_var 3)) (pdo_some pd_int) pdo_none) (pdg_tup rfl (pdgs_cons (pdg_name (i := 9) S.nd rfl (Or.inl rfl)) (pdgs_cons (pdg_name (i := 10) S.nd rfl (Or.inl rfl)) pdgs_nil))))
      (pdb_cons (pds_expr (pd_app (pd_var 1) (pd_tup (pda_cons (pd_var 9) pda_nil))))
      (pdb_one (pds_expr (pd_app (pd_var 2) (pd_var 10)))))))
      (pdb_cons (pds_if (pdt_cmp (po_eq hu) (pd_var 7) pd_str (nomark _)) (pdb_cons (pds_asg (pd_sl (pd_pp (pd_var 3)) (pdo_some pd_int) pdo_none) (pdg_tup rfl (pdgs_cons (pdg_name (i := 9) S.nd rfl (Or.inl rfl)) (pdgs_cons (pdg_name (i := 10) S.nd rfl (Or.inl rfl)) pdgs_nil))))
      (pdb_one (pds_if (pdt_cmp (po_eq hu) (pd_var 9) pd_str (nomark _)) (pdb_cons (pds_expr (pd_app (pd_var 1) (pd_tup (pda_cons (pd_var 9) pda_nil))))
      (pdb_one (pds_expr (pd_app (pd_var 2) (pd_var 10))))) pdb_nil))) (pdb_one (pds_if (pdt_cmp (po_eq hu) (pd_var 7) pd_str (nomark _)) (pdb_one (pds_expr (pd_app (pd_var 3) (pd_if (pdt_cmp (po_eq hu) (pd_var 4) pd_str (nomark _)) (pd_tup (pda_cons pd_int (pda_cons pd_str (pda_cons (pd_ix (pd_ix (pd_var 0) (pd_op po_sub (pd_var 5) pd_int) fun _ _ => rfl) pd_int fun _ _ => rfl) pda_nil)))) (pd_tup (pda_cons pd_int (pda_cons pd_str (pda_cons (pd_var 8) pda_nil)))))))) (pdb_one (pds_if (pdt_cmp po_lt (pd_var 6) pd_int (nomark _)) (pdb_cons (pds_set (i := 9) S.nd rfl (Or.inl rfl) (pd_if (PDW.pdt (pdt_and (pdt_cmp (po_eq hu) (pd_var 7) pd_str (nomark _)) (pdt_and1 (pdt_cmp (po_eq hu) (pd_var 4) pd_str (nomark _))))) pd_str (pd_var 7)))
      (pdb_one (pds_expr (pd_app (pd_var 3) (pd_tup (pda_cons (pd_var 6) (pda_cons (pd_var 9) (pda_cons (pd_ix (pd_ix (pd_var 0) (pd_op po_add (pd_var 5) pd_int) fun _ _ => rfl) pd_int fun _ _ => rfl) pda_nil)))))))) (pdb_one (pds_if (pdt_cmp po_nin (pd_var 7) (pd_tup (pda_cons pd_str (pda_cons pd_str pda_nil))) (by with_unfolding_all rfl)) (pdb_cons (pds_expr (pd_app (pd_var 1) (pd_call G_operand_step (hr.mono (by omega)) rfl (pda_cons (pd_var 7) (pda_cons (pd_var 4) pda_nil)))))
      (pdb_one (pds_expr (pd_app (pd_var 2) (pd_var 8))))) pdb_nil)))))))
      (pdb_one (pds_set (i := 4) S.nd rfl (Or.inl rfl) (pd_var 7)))))))
      (pdb_cons (pds_while PassesOwn.never (pdt_tru (pd_var 3)) (pdb_cons (pds_asg (pd_sl (pd_pp (pd_var 3)) (pdo_some pd_int) pdo_none) (pdg_tup rfl (pdgs_cons (pdg_name (i := 9) S.nd rfl (Or.inl rfl)) (pdgs_cons (pdg_name (i := 10) S.nd rfl (Or.inl rfl)) pdgs_nil))))
      (pdb_cons (pds_expr (pd_app (pd_var 1) (pd_tup (pda_cons (pd_var 9) pda_nil))))
      (pdb_one (pds_expr (pd_app (pd_var 2) (pd_var 10)))))))
      (pdb_one (pds_ret (pd_tup (pda_cons (pd_frz (pd_var 1)) (pda_cons (pd_frz (pd_var 2)) pda_nil))))))))))), fun ds M q h => ?_⟩
  obtain ⟨TL, res, rfl, hz, hp, hq⟩ := h
  walk_at "w"
  refine ⟨(Nat.le_of_ble_eq_true rfl : _ ≤ sizeLine), fun ps hps => ?_⟩
  walk_at "w"
  refine ⟨(Nat.le_of_ble_eq_true rfl : _ ≤ sizeLine), fun pp hpp => ?_⟩
  walk_at "w"
  refine ⟨(Nat.le_of_ble_eq_true rfl : _ ≤ sizeLine), fun pw hpw => ?_⟩
  have h21 : pp ≠ ps := fun e => by rw [e, Mem.put_same] at hpp; cases hpp
  have h32 : pw ≠ pp := fun e => by rw [e, Mem.put_same] at hpw; cases hpw
  have h31 : pw ≠ ps := fun e => by rw [e, Mem.at2 h21] at hpw; cases hpw
  have hMp : M pp = none := by rw [Mem.put_ne h21] at hpp; exact hpp
  have hMw : M pw = none := by rw [Mem.put_ne h32, Mem.put_ne h31] at hpw; exact hpw
  walk_at "w"
  refine for_by (fun ds Γ M' => ∃ (i : Nat) (r : List (Str × Nat)) (o pl : List D) (W : List (Int × Str × Int)) (b : Str) (v5 v6 v7 v8 v9 v10 : Option D), Γ = [some (.lst (TL.map tokD)), some (.ptr ps), some (.ptr pp), some (.ptr pw), some (.str b), v5, v6, v7, v8, v9, v10] ∧ M' = (((M.put ps (.lst o)).put pp (.lst pl)).put pw (.lst (W.map wD).reverse)) ∧ ds = pairsI i (r.map tokD) ∧ TL.drop i = r ∧ i ≤ TL.length ∧ Post (r.map (·.1)) o (W.map pr) b res ∧ o.length + W.length ≤ i ∧ pl.length = o.length) ?_ ?_ _ _ _ ⟨0, TL, [], [], [], "(", none, none, none, none, none, none, rfl, rfl, rfl, rfl, Nat.zero_le _, hp, Nat.le_refl _, rfl⟩
  · rintro Γ M' ⟨i, r, o, pl, W, b, v5, v6, v7, v8, v9, v10, rfl, rfl, e, hr, hi, hp, hlo, hlp⟩
    have hr0 : r = [] := by cases r with
      | nil => rfl
      | cons => cases e
    subst hr0
    walk_at "w"
    refine while_by (fun m Γ M' => ∃ (o pl : List D) (W : List (Int × Str × Int)) (v9 v10 : Option D), Γ = [some (.lst (TL.map tokD)), some (.ptr ps), some (.ptr pp), some (.ptr pw), some (.str b), v5, v6, v7, v8, v9, v10] ∧ M' = (((M.put ps (.lst o)).put pp (.lst pl)).put pw (.lst (W.map wD).reverse)) ∧ m = W.length ∧ res = o ++ (W.map pr).map wd ∧ o.length + W.length ≤ i ∧ pl.length = o.length) ?_ (m := W.length) ⟨o, pl, W, v9, v10, rfl, rfl, rfl, by cases hp; rfl, hlo, hlp⟩
    rintro m Γ M' n ⟨o, pl, W, v9, v10, rfl, rfl, rfl, hres, hlo, hlp⟩ ih
    (conv => whnf) <;> repeat ((first | rw [seqD_ptr Mem.put_same] | rw [atI_zero] | rw [Mem.put_same] | rw [seqD_ptr (Mem.at31 h31 h21)] | rw [Mem.at31 h31 h21] | rw [seqD_ptr (Mem.at2 h32)] | rw [Mem.at2 h32]); conv => whnf)
    cases W with
    | nil =>
      (conv => whnf) <;> repeat ((first | rw [seqD_ptr Mem.put_same] | rw [atI_zero] | rw [Mem.put_same] | rw [seqD_ptr (Mem.at31 h31 h21)] | rw [Mem.at31 h31 h21] | rw [seqD_ptr (Mem.at2 h32)] | rw [Mem.at2 h32]); conv => whnf)
      rw [thaw_ne (b := pp) (hne := h21)]
      rotate_left
      · rfl
      (conv => whnf)
      rw [Mem.del_ne h21, Mem.at2 h32]
      (conv => whnf)
      refine ⟨(Nat.le_of_ble_eq_true rfl : _ ≤ sizeLine), ?_⟩
      rw [show res = o from hres.trans (List.append_nil o)] at hq
      exact .le (fun b x e => by
        have n1 : b ≠ ps := fun z => by rw [z, hps] at e; cases e
        have n2 : b ≠ pp := fun z => by rw [z, hMp] at e; cases e
        have n3 : b ≠ pw := fun z => by rw [z, hMw] at e; cases e
        simp only [Mem.del_ne n1, Mem.del_ne n2, Mem.put_ne n1, Mem.put_ne n2, Mem.put_ne n3, e]) (hq _)
    | cons x W =>
      obtain ⟨a0, w0, p0⟩ := x
      simp only [List.length_cons] at hlo
      rw [List.map_cons, List.reverse_cons]
      refine wite_t (by simp) ?_
      (conv => whnf) <;> repeat ((first | rw [seqD_ptr Mem.put_same] | rw [atI_zero] | rw [Mem.put_same] | rw [seqD_ptr (Mem.at31 h31 h21)] | rw [Mem.at31 h31 h21] | rw [seqD_ptr (Mem.at2 h32)] | rw [Mem.at2 h32]); conv => whnf)
      rw [pop_at]
      (conv => whnf) <;> repeat ((first | rw [seqD_ptr Mem.put_same] | rw [atI_zero] | rw [Mem.put_same] | rw [seqD_ptr (Mem.at31 h31 h21)] | rw [Mem.at31 h31 h21] | rw [seqD_ptr (Mem.at2 h32)] | rw [Mem.at2 h32]); conv => whnf)
      rw [Mem.put_put, List.dropLast_concat]
      (conv => whnf) <;> repeat ((first | rw [seqD_ptr Mem.put_same] | rw [atI_zero] | rw [Mem.put_same] | rw [seqD_ptr (Mem.at31 h31 h21)] | rw [Mem.at31 h31 h21] | rw [seqD_ptr (Mem.at2 h32)] | rw [Mem.at2 h32]); conv => whnf)
      refine ⟨fun z => absurd (show (1 : Nat) = 0 from z.1) (by decide), ?_⟩
      (conv => whnf) <;> repeat ((first | rw [seqD_ptr Mem.put_same] | rw [atI_zero] | rw [Mem.put_same] | rw [seqD_ptr (Mem.at31 h31 h21)] | rw [Mem.at31 h31 h21] | rw [seqD_ptr (Mem.at2 h32)] | rw [Mem.at2 h32]); conv => whnf)
      refine ⟨rfl, ?_⟩
      (conv => whnf) <;> repeat ((first | rw [seqD_ptr Mem.put_same] | rw [atI_zero] | rw [Mem.put_same] | rw [seqD_ptr (Mem.at31 h31 h21)] | rw [Mem.at31 h31 h21] | rw [seqD_ptr (Mem.at2 h32)] | rw [Mem.at2 h32]); conv => whnf)
      refine ⟨⟨_, rfl⟩, ?_⟩
      (conv => whnf) <;> repeat ((first | rw [seqD_ptr Mem.put_same] | rw [atI_zero] | rw [Mem.put_same] | rw [seqD_ptr (Mem.at31 h31 h21)] | rw [Mem.at31 h31 h21] | rw [seqD_ptr (Mem.at2 h32)] | rw [Mem.at2 h32]); conv => whnf)
      refine ⟨(Nat.le_of_ble_eq_true rfl : _ ≤ sizeLine), ?_⟩
      (conv => whnf) <;> repeat ((first | rw [seqD_ptr Mem.put_same] | rw [atI_zero] | rw [Mem.put_same] | rw [seqD_ptr (Mem.at31 h31 h21)] | rw [Mem.at31 h31 h21] | rw [seqD_ptr (Mem.at2 h32)] | rw [Mem.at2 h32]); conv => whnf)
      refine ⟨by unfold sizeLine; omega, ?_⟩
      rw [Mem.put31 h31 h21]
      (conv => whnf) <;> repeat ((first | rw [seqD_ptr Mem.put_same] | rw [atI_zero] | rw [Mem.put_same] | rw [seqD_ptr (Mem.at31 h31 h21)] | rw [Mem.at31 h31 h21] | rw [seqD_ptr (Mem.at2 h32)] | rw [Mem.at2 h32]); conv => whnf)
      refine ⟨⟨_, rfl⟩, ?_⟩
      (conv => whnf) <;> repeat ((first | rw [seqD_ptr Mem.put_same] | rw [atI_zero] | rw [Mem.put_same] | rw [seqD_ptr (Mem.at31 h31 h21)] | rw [Mem.at31 h31 h21] | rw [seqD_ptr (Mem.at2 h32)] | rw [Mem.at2 h32]); conv => whnf)
      refine ⟨by unfold sizeLine; omega, ?_⟩
      rw [Mem.put2 h32]
      refine ih W.length (by show _ < W.length + 1; omega) _ _ ⟨o ++ [wd (a0, w0)], pl ++ [.int p0], W, _, _, rfl, rfl, rfl, ?_, by rw [List.length_append]; show _ + 1 + _ ≤ _; omega, by rw [List.length_append, List.length_append, hlp]; rfl⟩
      rw [hres, List.map_cons, List.map_cons, List.append_assoc]
      rfl
  · rintro d0 ds Γ M' ⟨i, r, o, pl, W, b, v5, v6, v7, v8, v9, v10, rfl, rfl, e, hr, hi, hp, hlo, hlp⟩ ih
    cases r with
    | nil => cases e
    | cons x r =>
      obtain ⟨w, at0⟩ := x
      cases e
      have hilt : i < TL.length := by
        have := congrArg List.length hr
        rw [List.length_drop, List.length_cons] at this
        omega
      have hr1 : TL.drop (i + 1) = r := by rw [← List.tail_drop, hr]; rfl
      obtain ⟨rk, V, W1, hrk, rfl, hV, htop, hnx⟩ := post_step hp
      rw [List.length_append] at hlo
      walk_at "w"
      refine ⟨rfl, ?_⟩
      walk_at "w"
      refine ⟨rfl, ?_⟩
      walk_at "w"
      rw [hrk]
      refine ⟨fun Γ M' => ∃ (pl : List D) (v9 v10 : Option D), Γ = [some (.lst (TL.map tokD)), some (.ptr ps), some (.ptr pp), some (.ptr pw), some (.str b), some (.int i), some (.int rk), some (.str w), some (.int at0), v9, v10] ∧ M' = (((M.put ps (.lst (o ++ V.map fun v => wd (pr v)))).put pp (.lst pl)).put pw (.lst (W1.map wD).reverse)) ∧ pl.length = (o ++ V.map fun v => wd (pr v)).length, ?_, ?_⟩
      · refine while_by (fun m Γ M' => ∃ (o1 pl : List D) (V1 : List (Int × Str × Int)) (v9 v10 : Option D), Γ = [some (.lst (TL.map tokD)), some (.ptr ps), some (.ptr pp), some (.ptr pw), some (.str b), some (.int i), some (.int rk), some (.str w), some (.int at0), v9, v10] ∧ M' = (((M.put ps (.lst o1)).put pp (.lst pl)).put pw (.lst ((V1 ++ W1).map wD).reverse)) ∧ m = V1.length ∧ (∀ v ∈ V1, rk < 3 ∧ (if rk > 1 then rk else 1) ≤ v.1) ∧ o1 ++ V1.map (fun v => wd (pr v)) = o ++ V.map (fun v => wd (pr v)) ∧ o1.length + V1.length ≤ i ∧ pl.length = o1.length) ?_ (m := V.length) ⟨o, pl, V, v9, v10, rfl, rfl, rfl, hV, rfl, by omega, hlp⟩
        rintro m Γ M' n ⟨o1, pl, V1, v9, v10, rfl, rfl, rfl, hV, hres, hlo1, hlp1⟩ ih2
        (conv => whnf) <;> repeat ((first | rw [seqD_ptr Mem.put_same] | rw [atI_zero] | rw [Mem.put_same] | rw [seqD_ptr (Mem.at31 h31 h21)] | rw [Mem.at31 h31 h21] | rw [seqD_ptr (Mem.at2 h32)] | rw [Mem.at2 h32]); conv => whnf)
        cases V1 with
        | nil =>
          have hres' : o1 = o ++ V.map (fun v => wd (pr v)) := by rw [← hres]; exact (List.append_nil o1).symm
          subst hres'
          refine wite_d (fun h3 => ?_) fun h3 => ⟨pl, v9, v10, rfl, rfl, hlp1⟩
          (conv => whnf) <;> repeat ((first | rw [seqD_ptr Mem.put_same] | rw [atI_zero] | rw [Mem.put_same] | rw [seqD_ptr (Mem.at31 h31 h21)] | rw [Mem.at31 h31 h21] | rw [seqD_ptr (Mem.at2 h32)] | rw [Mem.at2 h32]); conv => whnf)
          cases W1 with
          | nil =>
            (conv => whnf) <;> repeat ((first | rw [seqD_ptr Mem.put_same] | rw [atI_zero] | rw [Mem.put_same] | rw [seqD_ptr (Mem.at31 h31 h21)] | rw [Mem.at31 h31 h21] | rw [seqD_ptr (Mem.at2 h32)] | rw [Mem.at2 h32]); conv => whnf)
            exact ⟨pl, v9, v10, rfl, rfl, hlp1⟩
          | cons v W1 =>
            have ht := htop h3 v rfl
            rw [List.nil_append, List.map_cons, List.reverse_cons]
            refine wite_t (by simp) ?_
            (conv => whnf) <;> repeat ((first | rw [seqD_ptr Mem.put_same] | rw [atI_zero] | rw [Mem.put_same] | rw [seqD_ptr (Mem.at31 h31 h21)] | rw [Mem.at31 h31 h21] | rw [seqD_ptr (Mem.at2 h32)] | rw [Mem.at2 h32]); conv => whnf)
            rw [last_at]
            (conv => whnf) <;> repeat ((first | rw [seqD_ptr Mem.put_same] | rw [atI_zero] | rw [Mem.put_same] | rw [seqD_ptr (Mem.at31 h31 h21)] | rw [Mem.at31 h31 h21] | rw [seqD_ptr (Mem.at2 h32)] | rw [Mem.at2 h32]); conv => whnf)
            refine wite_f (decide_eq_false (by omega)) ?_
            exact ⟨pl, v9, v10, rfl, rfl, hlp1⟩
        | cons v V1 =>
          obtain ⟨h3, hge⟩ := hV v (List.mem_cons_self ..)
          obtain ⟨a0, w0, p0⟩ := v
          simp only [List.length_cons] at hlo1
          refine wite_t (decide_eq_true h3) ?_
          rw [List.cons_append, List.map_cons, List.reverse_cons]
          (conv => whnf) <;> repeat ((first | rw [seqD_ptr Mem.put_same] | rw [atI_zero] | rw [Mem.put_same] | rw [seqD_ptr (Mem.at31 h31 h21)] | rw [Mem.at31 h31 h21] | rw [seqD_ptr (Mem.at2 h32)] | rw [Mem.at2 h32]); conv => whnf)
          refine wite_t (by simp) ?_
          (conv => whnf) <;> repeat ((first | rw [seqD_ptr Mem.put_same] | rw [atI_zero] | rw [Mem.put_same] | rw [seqD_ptr (Mem.at31 h31 h21)] | rw [Mem.at31 h31 h21] | rw [seqD_ptr (Mem.at2 h32)] | rw [Mem.at2 h32]); conv => whnf)
          rw [last_at]
          (conv => whnf) <;> repeat ((first | rw [seqD_ptr Mem.put_same] | rw [atI_zero] | rw [Mem.put_same] | rw [seqD_ptr (Mem.at31 h31 h21)] | rw [Mem.at31 h31 h21] | rw [seqD_ptr (Mem.at2 h32)] | rw [Mem.at2 h32]); conv => whnf)
          refine wite_t (decide_eq_true hge) ?_
          (conv => whnf) <;> repeat ((first | rw [seqD_ptr Mem.put_same] | rw [atI_zero] | rw [Mem.put_same] | rw [seqD_ptr (Mem.at31 h31 h21)] | rw [Mem.at31 h31 h21] | rw [seqD_ptr (Mem.at2 h32)] | rw [Mem.at2 h32]); conv => whnf)
          rw [pop_at]
          (conv => whnf) <;> repeat ((first | rw [seqD_ptr Mem.put_same] | rw [atI_zero] | rw [Mem.put_same] | rw [seqD_ptr (Mem.at31 h31 h21)] | rw [Mem.at31 h31 h21] | rw [seqD_ptr (Mem.at2 h32)] | rw [Mem.at2 h32]); conv => whnf)
          rw [Mem.put_put, List.dropLast_concat]
          (conv => whnf) <;> repeat ((first | rw [seqD_ptr Mem.put_same] | rw [atI_zero] | rw [Mem.put_same] | rw [seqD_ptr (Mem.at31 h31 h21)] | rw [Mem.at31 h31 h21] | rw [seqD_ptr (Mem.at2 h32)] | rw [Mem.at2 h32]); conv => whnf)
          refine ⟨fun z => absurd (show (1 : Nat) = 0 from z.1) (by decide), ?_⟩
          (conv => whnf) <;> repeat ((first | rw [seqD_ptr Mem.put_same] | rw [atI_zero] | rw [Mem.put_same] | rw [seqD_ptr (Mem.at31 h31 h21)] | rw [Mem.at31 h31 h21] | rw [seqD_ptr (Mem.at2 h32)] | rw [Mem.at2 h32]); conv => whnf)
          refine ⟨rfl, ?_⟩
          (conv => whnf) <;> repeat ((first | rw [seqD_ptr Mem.put_same] | rw [atI_zero] | rw [Mem.put_same] | rw [seqD_ptr (Mem.at31 h31 h21)] | rw [Mem.at31 h31 h21] | rw [seqD_ptr (Mem.at2 h32)] | rw [Mem.at2 h32]); conv => whnf)
          refine ⟨⟨_, rfl⟩, ?_⟩
          (conv => whnf) <;> repeat ((first | rw [seqD_ptr Mem.put_same] | rw [atI_zero] | rw [Mem.put_same] | rw [seqD_ptr (Mem.at31 h31 h21)] | rw [Mem.at31 h31 h21] | rw [seqD_ptr (Mem.at2 h32)] | rw [Mem.at2 h32]); conv => whnf)
          refine ⟨(Nat.le_of_ble_eq_true rfl : _ ≤ sizeLine), ?_⟩
          (conv => whnf) <;> repeat ((first | rw [seqD_ptr Mem.put_same] | rw [atI_zero] | rw [Mem.put_same] | rw [seqD_ptr (Mem.at31 h31 h21)] | rw [Mem.at31 h31 h21] | rw [seqD_ptr (Mem.at2 h32)] | rw [Mem.at2 h32]); conv => whnf)
          refine ⟨by unfold sizeLine; omega, ?_⟩
          rw [Mem.put31 h31 h21]
          (conv => whnf) <;> repeat ((first | rw [seqD_ptr Mem.put_same] | rw [atI_zero] | rw [Mem.put_same] | rw [seqD_ptr (Mem.at31 h31 h21)] | rw [Mem.at31 h31 h21] | rw [seqD_ptr (Mem.at2 h32)] | rw [Mem.at2 h32]); conv => whnf)
          refine ⟨⟨_, rfl⟩, ?_⟩
          (conv => whnf) <;> repeat ((first | rw [seqD_ptr Mem.put_same] | rw [atI_zero] | rw [Mem.put_same] | rw [seqD_ptr (Mem.at31 h31 h21)] | rw [Mem.at31 h31 h21] | rw [seqD_ptr (Mem.at2 h32)] | rw [Mem.at2 h32]); conv => whnf)
          refine ⟨by unfold sizeLine; omega, ?_⟩
          rw [Mem.put2 h32]
          refine ih2 V1.length (by show _ < V1.length + 1; omega) _ _ ⟨o1 ++ [wd (a0, w0)], pl ++ [.int p0], V1, _, _, rfl, rfl, rfl, fun v hv => hV v (List.mem_cons_of_mem _ hv), ?_, by rw [List.length_append]; show _ + 1 + _ ≤ _; omega, by rw [List.length_append, List.length_append, hlp1]; rfl⟩
          rw [← hres, List.map_cons, List.append_assoc]
          rfl
      · rintro Γ M1 ⟨pl, v9, v10, rfl, rfl, hlp⟩
        have hlen1 : (o ++ V.map fun v => wd (pr v)).length + W1.length ≤ i := by rw [List.length_append, List.length_map]; omega
        obtain ⟨o2, ho2⟩ : ∃ o2, o2 = o ++ V.map fun v => wd (pr v) := ⟨_, rfl⟩
        rw [← ho2] at hnx hlp hlen1 ⊢
        have hne1 : ∀ l : List (Str × Nat), TL.drop (i + 1) = l → l ≠ [] → i + 1 < TL.length := fun l e hl => by
          have := congrArg List.length e
          rw [List.length_drop] at this
          have := List.length_pos_iff.mpr hl
          omega
        have step : ∀ (w1 : Str) (o3 pl3 : List D) (W3 : List (Int × Str × Int)) (v9 v10 : Option D), Post (r.map (·.1)) o3 (W3.map pr) w1 res → o3.length + W3.length ≤ i + 1 → pl3.length = o3.length → forL _ _ _ (pairsI (i + 1) (r.map tokD)) [some (.lst (TL.map tokD)), some (.ptr ps), some (.ptr pp), some (.ptr pw), some (.str w1), some (.int i), some (.int rk), some (.str w), some (.int at0), v9, v10] (((M.put ps (.lst o3)).put pp (.lst pl3)).put pw (.lst (W3.map wD).reverse)) := fun w1 o3 pl3 W3 v9 v10 z1 z2 z3 =>
          ih _ _ ⟨i + 1, r, o3, pl3, W3, w1, _, _, _, _, _, _, rfl, rfl, rfl, hr1, by omega, z1, z2, z3⟩
        cases hnx with
        | @shutP _ _ W _ _ pl0 hP =>
          simp only [List.length_cons] at hlen1
          rw [List.map_cons, List.reverse_cons]
          (conv => whnf) <;> repeat ((first | rw [seqD_ptr Mem.put_same] | rw [atI_zero] | rw [Mem.put_same] | rw [seqD_ptr (Mem.at31 h31 h21)] | rw [Mem.at31 h31 h21] | rw [seqD_ptr (Mem.at2 h32)] | rw [Mem.at2 h32]); conv => whnf)
          rw [pop_at]
          (conv => whnf) <;> repeat ((first | rw [seqD_ptr Mem.put_same] | rw [atI_zero] | rw [Mem.put_same] | rw [seqD_ptr (Mem.at31 h31 h21)] | rw [Mem.at31 h31 h21] | rw [seqD_ptr (Mem.at2 h32)] | rw [Mem.at2 h32]); conv => whnf)
          rw [Mem.put_put, List.dropLast_concat]
          (conv => whnf) <;> repeat ((first | rw [seqD_ptr Mem.put_same] | rw [atI_zero] | rw [Mem.put_same] | rw [seqD_ptr (Mem.at31 h31 h21)] | rw [Mem.at31 h31 h21] | rw [seqD_ptr (Mem.at2 h32)] | rw [Mem.at2 h32]); conv => whnf)
          refine ⟨fun z => absurd (show (1 : Nat) = 0 from z.1) (by decide), ?_⟩
          (conv => whnf) <;> repeat ((first | rw [seqD_ptr Mem.put_same] | rw [atI_zero] | rw [Mem.put_same] | rw [seqD_ptr (Mem.at31 h31 h21)] | rw [Mem.at31 h31 h21] | rw [seqD_ptr (Mem.at2 h32)] | rw [Mem.at2 h32]); conv => whnf)
          refine ⟨rfl, ?_⟩
          (conv => whnf) <;> repeat ((first | rw [seqD_ptr Mem.put_same] | rw [atI_zero] | rw [Mem.put_same] | rw [seqD_ptr (Mem.at31 h31 h21)] | rw [Mem.at31 h31 h21] | rw [seqD_ptr (Mem.at2 h32)] | rw [Mem.at2 h32]); conv => whnf)
          exact step _ _ _ _ _ _ hP (by omega) hlp
        | @shutR _ _ W _ _ pl0 hP =>
          simp only [List.length_cons] at hlen1
          rw [List.map_cons, List.reverse_cons]
          (conv => whnf) <;> repeat ((first | rw [seqD_ptr Mem.put_same] | rw [atI_zero] | rw [Mem.put_same] | rw [seqD_ptr (Mem.at31 h31 h21)] | rw [Mem.at31 h31 h21] | rw [seqD_ptr (Mem.at2 h32)] | rw [Mem.at2 h32]); conv => whnf)
          rw [pop_at]
          (conv => whnf) <;> repeat ((first | rw [seqD_ptr Mem.put_same] | rw [atI_zero] | rw [Mem.put_same] | rw [seqD_ptr (Mem.at31 h31 h21)] | rw [Mem.at31 h31 h21] | rw [seqD_ptr (Mem.at2 h32)] | rw [Mem.at2 h32]); conv => whnf)
          rw [Mem.put_put, List.dropLast_concat]
          (conv => whnf) <;> repeat ((first | rw [seqD_ptr Mem.put_same] | rw [atI_zero] | rw [Mem.put_same] | rw [seqD_ptr (Mem.at31 h31 h21)] | rw [Mem.at31 h31 h21] | rw [seqD_ptr (Mem.at2 h32)] | rw [Mem.at2 h32]); conv => whnf)
          refine ⟨fun z => absurd (show (1 : Nat) = 0 from z.1) (by decide), ?_⟩
          (conv => whnf) <;> repeat ((first | rw [seqD_ptr Mem.put_same] | rw [atI_zero] | rw [Mem.put_same] | rw [seqD_ptr (Mem.at31 h31 h21)] | rw [Mem.at31 h31 h21] | rw [seqD_ptr (Mem.at2 h32)] | rw [Mem.at2 h32]); conv => whnf)
          refine ⟨rfl, ?_⟩
          (conv => whnf) <;> repeat ((first | rw [seqD_ptr Mem.put_same] | rw [atI_zero] | rw [Mem.put_same] | rw [seqD_ptr (Mem.at31 h31 h21)] | rw [Mem.at31 h31 h21] | rw [seqD_ptr (Mem.at2 h32)] | rw [Mem.at2 h32]); conv => whnf)
          refine ⟨⟨_, rfl⟩, ?_⟩
          (conv => whnf) <;> repeat ((first | rw [seqD_ptr Mem.put_same] | rw [atI_zero] | rw [Mem.put_same] | rw [seqD_ptr (Mem.at31 h31 h21)] | rw [Mem.at31 h31 h21] | rw [seqD_ptr (Mem.at2 h32)] | rw [Mem.at2 h32]); conv => whnf)
          refine ⟨(Nat.le_of_ble_eq_true rfl : _ ≤ sizeLine), ?_⟩
          (conv => whnf) <;> repeat ((first | rw [seqD_ptr Mem.put_same] | rw [atI_zero] | rw [Mem.put_same] | rw [seqD_ptr (Mem.at31 h31 h21)] | rw [Mem.at31 h31 h21] | rw [seqD_ptr (Mem.at2 h32)] | rw [Mem.at2 h32]); conv => whnf)
          refine ⟨by unfold sizeLine; omega, ?_⟩
          rw [Mem.put31 h31 h21]
          (conv => whnf) <;> repeat ((first | rw [seqD_ptr Mem.put_same] | rw [atI_zero] | rw [Mem.put_same] | rw [seqD_ptr (Mem.at31 h31 h21)] | rw [Mem.at31 h31 h21] | rw [seqD_ptr (Mem.at2 h32)] | rw [Mem.at2 h32]); conv => whnf)
          refine ⟨⟨_, rfl⟩, ?_⟩
          (conv => whnf) <;> repeat ((first | rw [seqD_ptr Mem.put_same] | rw [atI_zero] | rw [Mem.put_same] | rw [seqD_ptr (Mem.at31 h31 h21)] | rw [Mem.at31 h31 h21] | rw [seqD_ptr (Mem.at2 h32)] | rw [Mem.at2 h32]); conv => whnf)
          refine ⟨by unfold sizeLine; omega, ?_⟩
          rw [Mem.put2 h32]
          exact step _ _ _ _ _ _ hP (by rw [List.length_append]; show _ + 1 + _ ≤ _; omega) (by rw [List.length_append, List.length_append, hlp]; rfl)
        | openP hb hP =>
          (conv => whnf) <;> repeat ((first | rw [seqD_ptr Mem.put_same] | rw [atI_zero] | rw [Mem.put_same] | rw [seqD_ptr (Mem.at31 h31 h21)] | rw [Mem.at31 h31 h21] | rw [seqD_ptr (Mem.at2 h32)] | rw [Mem.at2 h32]); conv => whnf)
          refine ⟨⟨_, rfl⟩, ?_⟩
          (conv => whnf) <;> repeat ((first | rw [seqD_ptr Mem.put_same] | rw [atI_zero] | rw [Mem.put_same] | rw [seqD_ptr (Mem.at31 h31 h21)] | rw [Mem.at31 h31 h21] | rw [seqD_ptr (Mem.at2 h32)] | rw [Mem.at2 h32]); conv => whnf)
          refine wite_f (decide_eq_false hb) ?_
          (conv => whnf) <;> repeat ((first | rw [seqD_ptr Mem.put_same] | rw [atI_zero] | rw [Mem.put_same] | rw [seqD_ptr (Mem.at31 h31 h21)] | rw [Mem.at31 h31 h21] | rw [seqD_ptr (Mem.at2 h32)] | rw [Mem.at2 h32]); conv => whnf)
          refine ⟨(Nat.le_of_ble_eq_true rfl : _ ≤ sizeLine), ?_⟩
          (conv => whnf) <;> repeat ((first | rw [seqD_ptr Mem.put_same] | rw [atI_zero] | rw [Mem.put_same] | rw [seqD_ptr (Mem.at31 h31 h21)] | rw [Mem.at31 h31 h21] | rw [seqD_ptr (Mem.at2 h32)] | rw [Mem.at2 h32]); conv => whnf)
          refine ⟨by rw [List.length_reverse, List.length_map]; unfold sizeLine; omega, ?_⟩
          rw [Mem.put_put]
          have e2 : (W1.map wD).reverse ++ [D.tup [.int 0, .str "(", .int at0]] = ((((0 : Int), ("(" : Str), (at0 : Int)) :: W1).map wD).reverse := by rw [List.map_cons, List.reverse_cons]; rfl
          rw [e2]
          exact step _ _ _ _ _ _ hP (by simp only [List.length_cons]; omega) hlp
        | openR hP =>
          obtain ⟨y, hy⟩ := atI_any (l := TL.map tokD) (j := (i : Int) - 1) (by rw [List.length_map]; omega) (by rw [List.length_map]; omega)
          obtain ⟨y0, _, rfl⟩ : ∃ y0, y0 ∈ TL ∧ tokD y0 = y := by
            have : y ∈ TL.map tokD := by
              obtain ⟨j0, _, h2⟩ := Option.bind_eq_some_iff.mp hy
              exact List.mem_of_getElem? h2
            exact List.mem_map.mp this
          (conv => whnf) <;> repeat ((first | rw [seqD_ptr Mem.put_same] | rw [atI_zero] | rw [Mem.put_same] | rw [seqD_ptr (Mem.at31 h31 h21)] | rw [Mem.at31 h31 h21] | rw [seqD_ptr (Mem.at2 h32)] | rw [Mem.at2 h32]); conv => whnf)
          refine ⟨⟨_, rfl⟩, ?_⟩
          (conv => whnf) <;> repeat ((first | rw [seqD_ptr Mem.put_same] | rw [atI_zero] | rw [Mem.put_same] | rw [seqD_ptr (Mem.at31 h31 h21)] | rw [Mem.at31 h31 h21] | rw [seqD_ptr (Mem.at2 h32)] | rw [Mem.at2 h32]); conv => whnf)
          rw [hy]
          (conv => whnf) <;> repeat ((first | rw [seqD_ptr Mem.put_same] | rw [atI_zero] | rw [Mem.put_same] | rw [seqD_ptr (Mem.at31 h31 h21)] | rw [Mem.at31 h31 h21] | rw [seqD_ptr (Mem.at2 h32)] | rw [Mem.at2 h32]); conv => whnf)
          refine ⟨(Nat.le_of_ble_eq_true rfl : _ ≤ sizeLine), ?_⟩
          (conv => whnf) <;> repeat ((first | rw [seqD_ptr Mem.put_same] | rw [atI_zero] | rw [Mem.put_same] | rw [seqD_ptr (Mem.at31 h31 h21)] | rw [Mem.at31 h31 h21] | rw [seqD_ptr (Mem.at2 h32)] | rw [Mem.at2 h32]); conv => whnf)
          refine ⟨by rw [List.length_reverse, List.length_map]; unfold sizeLine; omega, ?_⟩
          rw [Mem.put_put]
          have e2 : (W1.map wD).reverse ++ [D.tup [.int 0, .str "root", .int y0.2]] = ((((0 : Int), ("root" : Str), (y0.2 : Int)) :: W1).map wD).reverse := by rw [List.map_cons, List.reverse_cons]; rfl
          rw [e2]
          exact step _ _ _ _ _ _ hP (by simp only [List.length_cons]; omega) hlp
        | op x hb hr hP =>
          have hin := hne1 r hr1 (fun z => hr (by rw [z]; rfl))
          obtain ⟨y, hy⟩ : ∃ y, TL[i + 1]? = some y := ⟨_, List.getElem?_eq_getElem hin⟩
          cases x
          · have e1 : D.int 1 = D.int rk := hrk
            cases e1
            (conv => whnf) <;> repeat ((first | rw [seqD_ptr Mem.put_same] | rw [atI_zero] | rw [Mem.put_same] | rw [seqD_ptr (Mem.at31 h31 h21)] | rw [Mem.at31 h31 h21] | rw [seqD_ptr (Mem.at2 h32)] | rw [Mem.at2 h32]); conv => whnf)
            refine ⟨⟨_, rfl⟩, ?_⟩
            (conv => whnf) <;> repeat ((first | rw [seqD_ptr Mem.put_same] | rw [atI_zero] | rw [Mem.put_same] | rw [seqD_ptr (Mem.at31 h31 h21)] | rw [Mem.at31 h31 h21] | rw [seqD_ptr (Mem.at2 h32)] | rw [Mem.at2 h32]); conv => whnf)
            rw [tl_at (j := (i : Int) + 1) hy rfl]
            (conv => whnf) <;> repeat ((first | rw [seqD_ptr Mem.put_same] | rw [atI_zero] | rw [Mem.put_same] | rw [seqD_ptr (Mem.at31 h31 h21)] | rw [Mem.at31 h31 h21] | rw [seqD_ptr (Mem.at2 h32)] | rw [Mem.at2 h32]); conv => whnf)
            refine ⟨(Nat.le_of_ble_eq_true rfl : _ ≤ sizeLine), ?_⟩
            (conv => whnf) <;> repeat ((first | rw [seqD_ptr Mem.put_same] | rw [atI_zero] | rw [Mem.put_same] | rw [seqD_ptr (Mem.at31 h31 h21)] | rw [Mem.at31 h31 h21] | rw [seqD_ptr (Mem.at2 h32)] | rw [Mem.at2 h32]); conv => whnf)
            refine ⟨by rw [List.length_reverse, List.length_map]; unfold sizeLine; omega, ?_⟩
            rw [Mem.put_put]
            have e2 : (W1.map wD).reverse ++ [D.tup [.int 1, .str "+", .int y.2]] = ((((1 : Int), ("+" : Str), (y.2 : Int)) :: W1).map wD).reverse := by rw [List.map_cons, List.reverse_cons]; rfl
            rw [e2]
            exact step _ _ _ _ _ _ hP (by simp only [List.length_cons]; omega) hlp
          · have e1 : D.int 1 = D.int rk := hrk
            cases e1
            (conv => whnf) <;> repeat ((first | rw [seqD_ptr Mem.put_same] | rw [atI_zero] | rw [Mem.put_same] | rw [seqD_ptr (Mem.at31 h31 h21)] | rw [Mem.at31 h31 h21] | rw [seqD_ptr (Mem.at2 h32)] | rw [Mem.at2 h32]); conv => whnf)
            refine wite_f (decide_eq_false hb) ?_
            (conv => whnf) <;> repeat ((first | rw [seqD_ptr Mem.put_same] | rw [atI_zero] | rw [Mem.put_same] | rw [seqD_ptr (Mem.at31 h31 h21)] | rw [Mem.at31 h31 h21] | rw [seqD_ptr (Mem.at2 h32)] | rw [Mem.at2 h32]); conv => whnf)
            refine ⟨⟨_, rfl⟩, ?_⟩
            (conv => whnf) <;> repeat ((first | rw [seqD_ptr Mem.put_same] | rw [atI_zero] | rw [Mem.put_same] | rw [seqD_ptr (Mem.at31 h31 h21)] | rw [Mem.at31 h31 h21] | rw [seqD_ptr (Mem.at2 h32)] | rw [Mem.at2 h32]); conv => whnf)
            rw [tl_at (j := (i : Int) + 1) hy rfl]
            (conv => whnf) <;> repeat ((first | rw [seqD_ptr Mem.put_same] | rw [atI_zero] | rw [Mem.put_same] | rw [seqD_ptr (Mem.at31 h31 h21)] | rw [Mem.at31 h31 h21] | rw [seqD_ptr (Mem.at2 h32)] | rw [Mem.at2 h32]); conv => whnf)
            refine ⟨(Nat.le_of_ble_eq_true rfl : _ ≤ sizeLine), ?_⟩
            (conv => whnf) <;> repeat ((first | rw [seqD_ptr Mem.put_same] | rw [atI_zero] | rw [Mem.put_same] | rw [seqD_ptr (Mem.at31 h31 h21)] | rw [Mem.at31 h31 h21] | rw [seqD_ptr (Mem.at2 h32)] | rw [Mem.at2 h32]); conv => whnf)
            refine ⟨by rw [List.length_reverse, List.length_map]; unfold sizeLine; omega, ?_⟩
            rw [Mem.put_put]
            have e2 : (W1.map wD).reverse ++ [D.tup [.int 1, .str "-", .int y.2]] = ((((1 : Int), ("-" : Str), (y.2 : Int)) :: W1).map wD).reverse := by rw [List.map_cons, List.reverse_cons]; rfl
            rw [e2]
            exact step _ _ _ _ _ _ hP (by simp only [List.length_cons]; omega) hlp
          · have e1 : D.int 2 = D.int rk := hrk
            cases e1
            (conv => whnf) <;> repeat ((first | rw [seqD_ptr Mem.put_same] | rw [atI_zero] | rw [Mem.put_same] | rw [seqD_ptr (Mem.at31 h31 h21)] | rw [Mem.at31 h31 h21] | rw [seqD_ptr (Mem.at2 h32)] | rw [Mem.at2 h32]); conv => whnf)
            refine ⟨⟨_, rfl⟩, ?_⟩
            (conv => whnf) <;> repeat ((first | rw [seqD_ptr Mem.put_same] | rw [atI_zero] | rw [Mem.put_same] | rw [seqD_ptr (Mem.at31 h31 h21)] | rw [Mem.at31 h31 h21] | rw [seqD_ptr (Mem.at2 h32)] | rw [Mem.at2 h32]); conv => whnf)
            rw [tl_at (j := (i : Int) + 1) hy rfl]
            (conv => whnf) <;> repeat ((first | rw [seqD_ptr Mem.put_same] | rw [atI_zero] | rw [Mem.put_same] | rw [seqD_ptr (Mem.at31 h31 h21)] | rw [Mem.at31 h31 h21] | rw [seqD_ptr (Mem.at2 h32)] | rw [Mem.at2 h32]); conv => whnf)
            refine ⟨(Nat.le_of_ble_eq_true rfl : _ ≤ sizeLine), ?_⟩
            (conv => whnf) <;> repeat ((first | rw [seqD_ptr Mem.put_same] | rw [atI_zero] | rw [Mem.put_same] | rw [seqD_ptr (Mem.at31 h31 h21)] | rw [Mem.at31 h31 h21] | rw [seqD_ptr (Mem.at2 h32)] | rw [Mem.at2 h32]); conv => whnf)
            refine ⟨by rw [List.length_reverse, List.length_map]; unfold sizeLine; omega, ?_⟩
            rw [Mem.put_put]
            have e2 : (W1.map wD).reverse ++ [D.tup [.int 2, .str "*", .int y.2]] = ((((2 : Int), ("*" : Str), (y.2 : Int)) :: W1).map wD).reverse := by rw [List.map_cons, List.reverse_cons]; rfl
            rw [e2]
            exact step _ _ _ _ _ _ hP (by simp only [List.length_cons]; omega) hlp
          · have e1 : D.int 2 = D.int rk := hrk
            cases e1
            (conv => whnf) <;> repeat ((first | rw [seqD_ptr Mem.put_same] | rw [atI_zero] | rw [Mem.put_same] | rw [seqD_ptr (Mem.at31 h31 h21)] | rw [Mem.at31 h31 h21] | rw [seqD_ptr (Mem.at2 h32)] | rw [Mem.at2 h32]); conv => whnf)
            refine ⟨⟨_, rfl⟩, ?_⟩
            (conv => whnf) <;> repeat ((first | rw [seqD_ptr Mem.put_same] | rw [atI_zero] | rw [Mem.put_same] | rw [seqD_ptr (Mem.at31 h31 h21)] | rw [Mem.at31 h31 h21] | rw [seqD_ptr (Mem.at2 h32)] | rw [Mem.at2 h32]); conv => whnf)
            rw [tl_at (j := (i : Int) + 1) hy rfl]
            (conv => whnf) <;> repeat ((first | rw [seqD_ptr Mem.put_same] | rw [atI_zero] | rw [Mem.put_same] | rw [seqD_ptr (Mem.at31 h31 h21)] | rw [Mem.at31 h31 h21] | rw [seqD_ptr (Mem.at2 h32)] | rw [Mem.at2 h32]); conv => whnf)
            refine ⟨(Nat.le_of_ble_eq_true rfl : _ ≤ sizeLine), ?_⟩
            (conv => whnf) <;> repeat ((first | rw [seqD_ptr Mem.put_same] | rw [atI_zero] | rw [Mem.put_same] | rw [seqD_ptr (Mem.at31 h31 h21)] | rw [Mem.at31 h31 h21] | rw [seqD_ptr (Mem.at2 h32)] | rw [Mem.at2 h32]); conv => whnf)
            refine ⟨by rw [List.length_reverse, List.length_map]; unfold sizeLine; omega, ?_⟩
            rw [Mem.put_put]
            have e2 : (W1.map wD).reverse ++ [D.tup [.int 2, .str "/", .int y.2]] = ((((2 : Int), ("/" : Str), (y.2 : Int)) :: W1).map wD).reverse := by rw [List.map_cons, List.reverse_cons]; rfl
            rw [e2]
            exact step _ _ _ _ _ _ hP (by simp only [List.length_cons]; omega) hlp
        | neg hr hP =>
          have hin := hne1 r hr1 (fun z => hr (by rw [z]; rfl))
          obtain ⟨y, hy⟩ : ∃ y, TL[i + 1]? = some y := ⟨_, List.getElem?_eq_getElem hin⟩
          have e1 : D.int 1 = D.int rk := hrk
          cases e1
          (conv => whnf) <;> repeat ((first | rw [seqD_ptr Mem.put_same] | rw [atI_zero] | rw [Mem.put_same] | rw [seqD_ptr (Mem.at31 h31 h21)] | rw [Mem.at31 h31 h21] | rw [seqD_ptr (Mem.at2 h32)] | rw [Mem.at2 h32]); conv => whnf)
          refine ⟨⟨_, rfl⟩, ?_⟩
          (conv => whnf) <;> repeat ((first | rw [seqD_ptr Mem.put_same] | rw [atI_zero] | rw [Mem.put_same] | rw [seqD_ptr (Mem.at31 h31 h21)] | rw [Mem.at31 h31 h21] | rw [seqD_ptr (Mem.at2 h32)] | rw [Mem.at2 h32]); conv => whnf)
          rw [tl_at (j := (i : Int) + 1) hy rfl]
          (conv => whnf) <;> repeat ((first | rw [seqD_ptr Mem.put_same] | rw [atI_zero] | rw [Mem.put_same] | rw [seqD_ptr (Mem.at31 h31 h21)] | rw [Mem.at31 h31 h21] | rw [seqD_ptr (Mem.at2 h32)] | rw [Mem.at2 h32]); conv => whnf)
          refine ⟨(Nat.le_of_ble_eq_true rfl : _ ≤ sizeLine), ?_⟩
          (conv => whnf) <;> repeat ((first | rw [seqD_ptr Mem.put_same] | rw [atI_zero] | rw [Mem.put_same] | rw [seqD_ptr (Mem.at31 h31 h21)] | rw [Mem.at31 h31 h21] | rw [seqD_ptr (Mem.at2 h32)] | rw [Mem.at2 h32]); conv => whnf)
          refine ⟨by rw [List.length_reverse, List.length_map]; unfold sizeLine; omega, ?_⟩
          rw [Mem.put_put]
          have e2 : (W1.map wD).reverse ++ [D.tup [.int 1, .str "neg", .int y.2]] = ((((1 : Int), ("neg" : Str), (y.2 : Int)) :: W1).map wD).reverse := by rw [List.map_cons, List.reverse_cons]; rfl
          rw [e2]
          exact step _ _ _ _ _ _ hP (by simp only [List.length_cons]; omega) hlp
        | hat hP =>
          have e1 : D.int 3 = D.int rk := hrk
          cases e1
          (conv => whnf) <;> repeat ((first | rw [seqD_ptr Mem.put_same] | rw [atI_zero] | rw [Mem.put_same] | rw [seqD_ptr (Mem.at31 h31 h21)] | rw [Mem.at31 h31 h21] | rw [seqD_ptr (Mem.at2 h32)] | rw [Mem.at2 h32]); conv => whnf)
          refine ⟨(Nat.le_of_ble_eq_true rfl : _ ≤ sizeLine), ?_⟩
          (conv => whnf) <;> repeat ((first | rw [seqD_ptr Mem.put_same] | rw [atI_zero] | rw [Mem.put_same] | rw [seqD_ptr (Mem.at31 h31 h21)] | rw [Mem.at31 h31 h21] | rw [seqD_ptr (Mem.at2 h32)] | rw [Mem.at2 h32]); conv => whnf)
          refine ⟨rfl, rfl, ?_⟩
          (conv => whnf) <;> repeat ((first | rw [seqD_ptr Mem.put_same] | rw [atI_zero] | rw [Mem.put_same] | rw [seqD_ptr (Mem.at31 h31 h21)] | rw [Mem.at31 h31 h21] | rw [seqD_ptr (Mem.at2 h32)] | rw [Mem.at2 h32]); conv => whnf)
          exact step _ _ _ _ _ _ hP (by omega) hlp
        | root hP =>
          have e1 : D.int 3 = D.int rk := hrk
          cases e1
          (conv => whnf) <;> repeat ((first | rw [seqD_ptr Mem.put_same] | rw [atI_zero] | rw [Mem.put_same] | rw [seqD_ptr (Mem.at31 h31 h21)] | rw [Mem.at31 h31 h21] | rw [seqD_ptr (Mem.at2 h32)] | rw [Mem.at2 h32]); conv => whnf)
          refine ⟨(Nat.le_of_ble_eq_true rfl : _ ≤ sizeLine), ?_⟩
          (conv => whnf) <;> repeat ((first | rw [seqD_ptr Mem.put_same] | rw [atI_zero] | rw [Mem.put_same] | rw [seqD_ptr (Mem.at31 h31 h21)] | rw [Mem.at31 h31 h21] | rw [seqD_ptr (Mem.at2 h32)] | rw [Mem.at2 h32]); conv => whnf)
          refine ⟨rfl, rfl, ?_⟩
          (conv => whnf) <;> repeat ((first | rw [seqD_ptr Mem.put_same] | rw [atI_zero] | rw [Mem.put_same] | rw [seqD_ptr (Mem.at31 h31 h21)] | rw [Mem.at31 h31 h21] | rw [seqD_ptr (Mem.at2 h32)] | rw [Mem.at2 h32]); conv => whnf)
          exact step _ _ _ _ _ _ hP (by omega) hlp
        | @arg _ _ _ _ _ _ st hs hP =>
          obtain ⟨q1, q2, q3, q4, q5⟩ := op_plain hs
          rw [q1] at hrk
          have e1 : D.int 3 = D.int rk := hrk
          cases e1
          (conv => whnf) <;> repeat ((first | rw [seqD_ptr Mem.put_same] | rw [atI_zero] | rw [Mem.put_same] | rw [seqD_ptr (Mem.at31 h31 h21)] | rw [Mem.at31 h31 h21] | rw [seqD_ptr (Mem.at2 h32)] | rw [Mem.at2 h32]); conv => whnf)
          refine wite_f (decide_eq_false q2) ?_
          (conv => whnf) <;> repeat ((first | rw [seqD_ptr Mem.put_same] | rw [atI_zero] | rw [Mem.put_same] | rw [seqD_ptr (Mem.at31 h31 h21)] | rw [Mem.at31 h31 h21] | rw [seqD_ptr (Mem.at2 h32)] | rw [Mem.at2 h32]); conv => whnf)
          refine wite_f (decide_eq_false q3) ?_
          (conv => whnf) <;> repeat ((first | rw [seqD_ptr Mem.put_same] | rw [atI_zero] | rw [Mem.put_same] | rw [seqD_ptr (Mem.at31 h31 h21)] | rw [Mem.at31 h31 h21] | rw [seqD_ptr (Mem.at2 h32)] | rw [Mem.at2 h32]); conv => whnf)
          refine ⟨(Nat.le_of_ble_eq_true rfl : _ ≤ sizeLine), ?_⟩
          (conv => whnf) <;> repeat ((first | rw [seqD_ptr Mem.put_same] | rw [atI_zero] | rw [Mem.put_same] | rw [seqD_ptr (Mem.at31 h31 h21)] | rw [Mem.at31 h31 h21] | rw [seqD_ptr (Mem.at2 h32)] | rw [Mem.at2 h32]); conv => whnf)
          refine ⟨rfl, rfl, ?_⟩
          rw [show inD (.str w) [.str "^", .str "root"] = false from inD_no (ns := ["^", "root"]) (fun z => by simp only [List.mem_cons, List.not_mem_nil, or_false] at z; rcases z with z | z; exact q4 z; exact q5 z)]
          (conv => whnf) <;> repeat ((first | rw [seqD_ptr Mem.put_same] | rw [atI_zero] | rw [Mem.put_same] | rw [seqD_ptr (Mem.at31 h31 h21)] | rw [Mem.at31 h31 h21] | rw [seqD_ptr (Mem.at2 h32)] | rw [Mem.at2 h32]); conv => whnf)
          refine ⟨⟨_, rfl⟩, ?_⟩
          (conv => whnf) <;> repeat ((first | rw [seqD_ptr Mem.put_same] | rw [atI_zero] | rw [Mem.put_same] | rw [seqD_ptr (Mem.at31 h31 h21)] | rw [Mem.at31 h31 h21] | rw [seqD_ptr (Mem.at2 h32)] | rw [Mem.at2 h32]); conv => whnf)
          refine ⟨w, b, st, rfl, hs, ?_⟩
          (conv => whnf) <;> repeat ((first | rw [seqD_ptr Mem.put_same] | rw [atI_zero] | rw [Mem.put_same] | rw [seqD_ptr (Mem.at31 h31 h21)] | rw [Mem.at31 h31 h21] | rw [seqD_ptr (Mem.at2 h32)] | rw [Mem.at2 h32]); conv => whnf)
          refine ⟨by unfold sizeLine; omega, ?_⟩
          rw [Mem.put31 h31 h21]
          (conv => whnf) <;> repeat ((first | rw [seqD_ptr Mem.put_same] | rw [atI_zero] | rw [Mem.put_same] | rw [seqD_ptr (Mem.at31 h31 h21)] | rw [Mem.at31 h31 h21] | rw [seqD_ptr (Mem.at2 h32)] | rw [Mem.at2 h32]); conv => whnf)
          refine ⟨⟨_, rfl⟩, ?_⟩
          (conv => whnf) <;> repeat ((first | rw [seqD_ptr Mem.put_same] | rw [atI_zero] | rw [Mem.put_same] | rw [seqD_ptr (Mem.at31 h31 h21)] | rw [Mem.at31 h31 h21] | rw [seqD_ptr (Mem.at2 h32)] | rw [Mem.at2 h32]); conv => whnf)
          refine ⟨by unfold sizeLine; omega, ?_⟩
          rw [Mem.put2 h32]
          exact step _ _ _ _ _ _ hP (by rw [List.length_append]; show _ + 1 + _ ≤ _; omega) (by rw [List.length_append, List.length_append, hlp]; rfl)
end
end D2

set_option maxRecDepth 100000
set_option maxHeartbeats 2000000
set_option pp.maxSteps 400
set_option pp.deepTerms false
namespace D2
open PySem PySem.Spec PyProof.Rows L2
local macro_rules | `(tactic| walk_at "wp") => `(tactic| conv => whnf)
local macro_rules | `(tactic| walk_at "w") => `(tactic| (conv => whnf) <;> repeat ((first | rw [seqD_ptr Mem.put_same] | rw [atI_zero] | rw [lstD_ptr Mem.put_same] | rw [dctD_ptr Mem.put_same] | rw [objD_ptr Mem.put_same] | rw [Mem.put_same]); conv => whnf))
local macro_rules | `(tactic| walk_at "v") => `(tactic| (conv => whnf) <;> repeat ((first | rw [seqD_ptr Mem.put_same] | rw [atI_zero] | rw [Mem.put_same] | rw [seqD_ptr (Mem.at2 (by assumption))] | rw [Mem.at2 (by assumption)]); conv => whnf))
local macro_rules | `(tactic| walk_at "a") => `(tactic| (walk_at "w") <;> repeat (refine ⟨(by first | exact mulR ⟨by omega, by omega⟩ | exact mulL ⟨by omega, by omega⟩ | (show (0 : Int) < _; omega) | exact ⟨by omega, by decide +kernel⟩ | exact ⟨by decide, by decide, by decide⟩), ?_⟩ <;> walk_at "w"))
local macro_rules | `(tactic| walk_at "i") => `(tactic| ((walk_at "w") <;> (refine ⟨trivial, by first | exact .inl rfl | exact .inr (.inl rfl) | exact .inr (.inr (.inl rfl)) | exact .inr (.inr (.inr (.inl rfl))) | exact .inr (.inr (.inr (.inr (.inl rfl)))), ?_⟩)))
section
variable {P : Program} {w : World} {K : W.Frag} {mg : Str → Option Value} {base : Heap} {A : Ad}
theorem sc_written : FnScope ["steps", "stack", "step", "word", "text", "level", "rank", "first", "height", "left", "right"] ["steps"] (defScope (top 26)) := ⟨rfl, rfl, rfl, by decide +kernel, rfl, by decide +kernel, by decide +kernel⟩
theorem ok_written (T : Txt K mg A) (G_around : FnAt P w K mg base 1 "around" S_around) (R_RANKS : KMap K w A.RANKS rankD) : FnAt P w K mg base 2 "written" S_written := by
  refine fnAt_of T.F_written sc_written (fun ds M q h => by first | (obtain ⟨e, _⟩ := h; rw [e]; rfl) | (obtain ⟨_, e, _⟩ := h; rw [e]; rfl) | (obtain ⟨_, _, e, _⟩ := h; rw [e]; rfl) | (obtain ⟨_, _, _, e, _⟩ := h; rw [e]; rfl) | (obtain ⟨_, _, _, _, e, _⟩ := h; rw [e]; rfl) | (obtain ⟨_, _, _, _, _, e, _⟩ := h; rw [e]; rfl) | (obtain ⟨_, _, _, _, _, _, e, _⟩ := h; rw [e]; rfl) | (obtain ⟨_, _, _, _, _, _, _, e, _⟩ := h; rw [e]; rfl) | (obtain ⟨_, _, _, _, _, _, _, _, e, _⟩ := h; rw [e]; rfl) | (obtain ⟨_, _, _, _, _, _, _, _, _, e, _⟩ := h; rw [e]; rfl) | (obtain ⟨_, _, _, _, _, _, _, _, _, _, e, _⟩ := h; rw [e]; rfl) | (obtain ⟨_, _, _, _, _, _, _, _, _, _, _, e, _⟩ := h; rw [e]; rfl)) ?_
  intro f cdv A' outer s H E hr
  have S := sc_written
  have hu := hr.units
  have hu1 := Nat.lt_of_le_of_lt (Nat.add_le_add_left (by decide : 1 ≤ 64) _) hu
  refine ⟨_, _, (pdb_cons (pds_set (i := 1) S.nd rfl (Or.inl rfl) (pd_lstP pda_nil))
      (pdb_cons (pds_for PassesOwn.never rfl (pi_l (pd_var 0)) (pdg_name (i := 2) S.nd rfl (Or.inl rfl)) (pdb_cons (pds_set (i := 3) S.nd rfl (Or.inl rfl) (pd_ix (pd_var 2) pd_int fun _ _ => rfl))
      (pdb_one (pds_if (PDW.pdt (pdt_or (pdt_cmp (po_eq hu) (pd_var 3) pd_str (nomark _)) (pdt_or1 (pdt_cmp (po_eq hu) (pd_var 3) pd_str (nomark _))))) (pdb_one (pds_expr (pd_app (pd_var 1) (pd_tup (pda_cons (pd_joined1 (pd_fmt (pd_ix (pd_var 2) pd_int fun _ _ => rfl))) (pda_cons pd_int pda_nil)))))) (pdb_one (pds_if (pdt_cmp (po_eq hu) (pd_var 3) pd_str (nomark _)) (pdb_one (pds_expr (pd_app (pd_var 1) (pd_tup (pda_cons pd_str (pda_cons pd_int pda_nil)))))) (pdb_cons (pds_asg (pd_pp (pd_var 1)) (pdg_tup rfl (pdgs_cons (pdg_name (i := 4) S.nd rfl (Or.inl rfl)) (pdgs_cons (pdg_name (i := 5) S.nd rfl (Or.inl rfl)) pdgs_nil))))
      (pdb_one (pds_if (pdt_cmp (po_eq hu) (pd_var 3) pd_str (nomark _)) (pdb_one (pds_expr (pd_app (pd_var 1) (pd_tup (pda_cons (pd_joined (.cons pd_str (.cons (pd_fmt (pd_var 4)) (.cons pd_str .nil)))) (pda_cons pd_int pda_nil)))))) (pdb_one (pds_if (pdt_cmp (po_eq hu) (pd_var 3) pd_str (nomark _)) (pdb_one (pds_expr (pd_app (pd_var 1) (pd_tup (pda_cons (pd_joined (.cons (pd_fmt (pd_call G_around (hr.mono (by omega)) rfl (pda_cons (pd_var 4) (pda_cons (pd_var 5) (pda_cons pd_int pda_nil))))) (.cons pd_str (.cons (pd_fmt (pd_ix (pd_var 2) pd_int fun _ _ => rfl)) .nil)))) (pda_cons pd_int pda_nil)))))) (pdb_one (pds_if (pdt_cmp (po_eq hu) (pd_var 3) pd_str (nomark _)) (pdb_one (pds_expr (pd_app (pd_var 1) (pd_tup (pda_cons (pd_joined (.cons pd_str (.cons (pd_fmt (pd_call G_around (hr.mono (by omega)) rfl (pda_cons (pd_var 4) (pda_cons (pd_var 5) (pda_cons pd_int pda_nil))))) .nil))) (pda_cons pd_int pda_nil)))))) (pdb_cons (pds_asg (pd_pp (pd_var 1)) (pdg_tup rfl (pdgs_cons (pdg_name (i := 7) S.nd rfl (Or.inl rfl)) (pdgs_cons (pdg_name (i := 8) S.nd rfl (Or.inl rfl)) pdgs_nil))))
      (pdb_cons (pds_set (i := 6) S.nd rfl (Or.inl rfl) (pd_kix R_RANKS (pd_c (pe_glob rfl T.m_RANKS (by first | rfl | exact ⟨_, rfl⟩)) (fun _ => .ptr _)) (pd_var 3) fun _ _ => rfl))
      (pdb_cons (pd_par (i := 9) (j := 10) rfl S.nd rfl rfl (by decide) rfl rfl (pda_cons (pd_call G_around (hr.mono (by omega)) rfl (pda_cons (pd_var 7) (pda_cons (pd_var 8) (pda_cons (pd_var 6) pda_nil)))) (pda_cons (pd_call G_around (hr.mono (by omega)) rfl (pda_cons (pd_var 4) (pda_cons (pd_var 5) (pda_cons (pd_op po_add (pd_var 6) pd_int) pda_nil)))) pda_nil)) rfl)
      (pdb_one (pds_expr (pd_app (pd_var 1) (pd_tup (pda_cons (pd_if (pdt_cmp (po_eq hu) (pd_var 6) pd_int (nomark _)) (pd_joined (.cons (pd_fmt (pd_var 9)) (.cons pd_str (.cons (pd_fmt (pd_var 3)) (.cons pd_str (.cons (pd_fmt (pd_var 10)) .nil)))))) (pd_joined (.cons (pd_fmt (pd_var 9)) (.cons (pd_fmt (pd_var 3)) (.cons (pd_fmt (pd_var 10)) .nil))))) (pda_cons (pd_var 6) pda_nil))))))))))))))))))))))
      (pdb_one (pds_ret (pd_ix (pd_ix (pd_var 1) (pd_un pu_neg pd_int) fun _ _ => rfl) pd_int fun _ _ => rfl))))), fun ds M q h => ?_⟩
  obtain ⟨st, res, rfl, hz, hE, hq⟩ := h
  walk_at "w"
  refine ⟨(Nat.le_of_ble_eq_true rfl : _ ≤ sizeLine), fun p hp => ?_⟩
  walk_at "w"
  refine for_by (fun ds Γ M' => ∃ (r : List Step) (S : List (Str × Int)) (v2 v3 v4 v5 v6 v7 v8 v9 v10 : Option D), Γ = [some (.lst (st.map encS)), some (.ptr p), v2, v3, v4, v5, v6, v7, v8, v9, v10] ∧ M' = M.put p (.lst (S.map sD).reverse) ∧ ds = r.map encS ∧ Ev r S res ∧ S.length + r.length ≤ st.length) ?_ ?_ _ _ _ ⟨st, [], none, none, none, none, none, none, none, none, none, rfl, rfl, rfl, hE, by simp⟩
  · rintro Γ M' ⟨r, S, v2, v3, v4, v5, v6, v7, v8, v9, v10, rfl, rfl, e, hE, hS⟩
    have hr0 : r = [] := by cases r with
      | nil => rfl
      | cons => cases e
    subst hr0
    cases hE with
    | @done _ l S =>
      rw [List.map_cons, List.reverse_cons]
      walk_at "w"
      rw [last_at]
      walk_at "w"
      exact .le (Mem.le_put hp) hq
  · rintro d0 ds Γ M' ⟨r, S, v2, v3, v4, v5, v6, v7, v8, v9, v10, rfl, rfl, e, hE, hS⟩ ih
    cases r with
    | nil => cases e
    | cons s0 r =>
      cases e
      cases hE with
      | num n h0 h1 hE =>
        walk_at "w"
        refine ⟨⟨_, rfl⟩, ?_⟩
        walk_at "w"
        refine ⟨log40 h0 h1, ?_⟩
        walk_at "w"
        refine ⟨(Nat.le_of_ble_eq_true rfl : _ ≤ sizeLine), ?_⟩
        walk_at "w"
        refine ⟨by rw [List.length_reverse, List.length_map]; simp only [List.length_cons] at hS; unfold sizeLine; omega, ?_⟩
        rw [Mem.put_put]
        rw [show (S.map sD).reverse ++ [_] = (((numS n, (4 : Int)) :: S).map sD).reverse from by rw [List.map_cons, List.reverse_cons]; rfl]
        exact ih _ _ ⟨_, (numS n, (4 : Int)) :: S, _, _, _, _, _, _, _, _, _, rfl, rfl, rfl, hE, by simp only [List.length_cons] at hS ⊢; omega⟩
      | name x hx hE =>
        walk_at "w"
        refine ⟨⟨_, rfl⟩, ?_⟩
        walk_at "w"
        refine ⟨Nat.le_trans hx (by decide), ?_⟩
        walk_at "w"
        refine ⟨(Nat.le_of_ble_eq_true rfl : _ ≤ sizeLine), ?_⟩
        walk_at "w"
        refine ⟨by rw [List.length_reverse, List.length_map]; simp only [List.length_cons] at hS; unfold sizeLine; omega, ?_⟩
        rw [Mem.put_put]
        rw [show (S.map sD).reverse ++ [_] = (((x, (4 : Int)) :: S).map sD).reverse from by rw [List.map_cons, List.reverse_cons]; rfl]
        exact ih _ _ ⟨_, (x, (4 : Int)) :: S, _, _, _, _, _, _, _, _, _, rfl, rfl, rfl, hE, by simp only [List.length_cons] at hS ⊢; omega⟩
      | im hE =>
        walk_at "w"
        refine ⟨⟨_, rfl⟩, ?_⟩
        walk_at "w"
        refine ⟨(Nat.le_of_ble_eq_true rfl : _ ≤ sizeLine), ?_⟩
        walk_at "w"
        refine ⟨by rw [List.length_reverse, List.length_map]; simp only [List.length_cons] at hS; unfold sizeLine; omega, ?_⟩
        rw [Mem.put_put]
        rw [show (S.map sD).reverse ++ [_] = (((("i" : Str), (4 : Int)) :: S).map sD).reverse from by rw [List.map_cons, List.reverse_cons]; rfl]
        exact ih _ _ ⟨_, (("i" : Str), (4 : Int)) :: S, _, _, _, _, _, _, _, _, _, rfl, rfl, rfl, hE, by simp only [List.length_cons] at hS ⊢; omega⟩
      | @root _ S _ z l hx hE =>
        have hx' : z.length ≤ 6400000 := by unfold okL at hx; rw [str_len_app, str_len_app] at hx; omega
        rw [List.map_cons, List.reverse_cons]
        walk_at "w"
        rw [pop_at]
        walk_at "w"
        rw [Mem.put_put, List.dropLast_concat]
        walk_at "w"
        refine ⟨rfl, ?_⟩
        walk_at "w"
        refine ⟨⟨_, rfl⟩, ?_⟩
        walk_at "w"
        refine ⟨(Nat.le_of_ble_eq_true rfl : _ ≤ sizeLine), ?_⟩
        walk_at "w"
        refine ⟨by show z.length ≤ sizeLine; unfold sizeLine; omega, ?_⟩
        rw [empty_app]
        refine ⟨by rw [str_len_app]; show 5 + z.length ≤ sizeLine; unfold sizeLine; omega, ?_⟩
        walk_at "w"
        refine ⟨by rw [str_len_app, str_len_app]; show 5 + z.length + 1 ≤ sizeLine; unfold sizeLine; omega, ?_⟩
        walk_at "w"
        refine ⟨(Nat.le_of_ble_eq_true rfl : _ ≤ sizeLine), ?_⟩
        walk_at "w"
        refine ⟨by rw [List.length_reverse, List.length_map]; simp only [List.length_cons] at hS; unfold sizeLine; omega, ?_⟩
        rw [Mem.put_put]
        rw [show (S.map sD).reverse ++ [_] = (((("root(" : Str) ++ z ++ (")" : Str), (4 : Int)) :: S).map sD).reverse from by rw [List.map_cons, List.reverse_cons]; rfl]
        exact ih _ _ ⟨_, (("root(" : Str) ++ z ++ (")" : Str), (4 : Int)) :: S, _, _, _, _, _, _, _, _, _, rfl, rfl, rfl, hE, by simp only [List.length_cons] at hS ⊢; omega⟩
      | @neg _ S _ z l hx hz0 hE =>
        have hx' : z.length ≤ 6400000 := hz0
        have hb := brk_len (decide (l < 2)) z
        rw [List.map_cons, List.reverse_cons]
        walk_at "w"
        rw [pop_at]
        walk_at "w"
        rw [Mem.put_put, List.dropLast_concat]
        walk_at "w"
        refine ⟨rfl, ?_⟩
        walk_at "w"
        refine ⟨⟨_, rfl⟩, ?_⟩
        walk_at "w"
        refine ⟨(Nat.le_of_ble_eq_true rfl : _ ≤ sizeLine), ?_⟩
        walk_at "w"
        refine ⟨z, l, 2, rfl, by omega, ?_⟩
        walk_at "w"
        refine ⟨by unfold sizeLine; omega, ?_⟩
        walk_at "w"
        rw [empty_app]
        refine ⟨by rw [str_len_app]; show 1 + _ ≤ sizeLine; unfold sizeLine; omega, ?_⟩
        walk_at "w"
        refine ⟨(Nat.le_of_ble_eq_true rfl : _ ≤ sizeLine), ?_⟩
        walk_at "w"
        refine ⟨by rw [List.length_reverse, List.length_map]; simp only [List.length_cons] at hS; unfold sizeLine; omega, ?_⟩
        rw [Mem.put_put]
        rw [show (S.map sD).reverse ++ [_] = (((("-" : Str) ++ brk (decide (l < 2)) z, (1 : Int)) :: S).map sD).reverse from by rw [List.map_cons, List.reverse_cons]; rfl]
        exact ih _ _ ⟨_, (("-" : Str) ++ brk (decide (l < 2)) z, (1 : Int)) :: S, _, _, _, _, _, _, _, _, _, rfl, rfl, rfl, hE, by simp only [List.length_cons] at hS ⊢; omega⟩
      | @pow _ S _ z l e h0 h1 hx hz0 hE =>
        have hx' : z.length ≤ 6400000 := hz0
        have hb := brk_len (decide (l < 4)) z
        have he3 := num_len3 h0 h1
        rw [List.map_cons, List.reverse_cons]
        walk_at "w"
        rw [pop_at]
        walk_at "w"
        rw [Mem.put_put, List.dropLast_concat]
        walk_at "w"
        refine ⟨rfl, ?_⟩
        walk_at "w"
        refine ⟨⟨_, rfl⟩, ?_⟩
        walk_at "w"
        refine ⟨z, l, 4, rfl, by omega, ?_⟩
        walk_at "w"
        refine ⟨by unfold sizeLine; omega, ?_⟩
        walk_at "w"
        rw [empty_app]
        refine ⟨by unfold sizeLine; omega, ?_⟩
        walk_at "w"
        refine ⟨by rw [str_len_app]; show _ + 1 ≤ sizeLine; unfold sizeLine; omega, ?_⟩
        walk_at "w"
        refine ⟨log40 h0 (by omega), ?_⟩
        walk_at "w"
        refine ⟨by rw [str_len_app, str_len_app]; show _ + 1 + _ ≤ sizeLine; unfold sizeLine; omega, ?_⟩
        walk_at "w"
        refine ⟨(Nat.le_of_ble_eq_true rfl : _ ≤ sizeLine), ?_⟩
        walk_at "w"
        refine ⟨by rw [List.length_reverse, List.length_map]; simp only [List.length_cons] at hS; unfold sizeLine; omega, ?_⟩
        rw [Mem.put_put]
        rw [show (S.map sD).reverse ++ [_] = (((brk (decide (l < 4)) z ++ ("^" : Str) ++ numS e, (3 : Int)) :: S).map sD).reverse from by rw [List.map_cons, List.reverse_cons]; rfl]
        exact ih _ _ ⟨_, (brk (decide (l < 4)) z ++ ("^" : Str) ++ numS e, (3 : Int)) :: S, _, _, _, _, _, _, _, _, _, rfl, rfl, rfl, hE, by simp only [List.length_cons] at hS ⊢; omega⟩
      | @bin _ S _ z y l h o hx hz0 hy0 hE =>
        have hx' : z.length ≤ 6400000 := hz0
        have hy' : y.length ≤ 6400000 := hy0
        have hb := brk_len (decide (l < o.lvl + 1)) z
        have hc := brk_len (decide (h < o.lvl)) y
        rw [List.map_cons, List.reverse_cons]
        have hb1 : (brk (decide (l < 2)) z).length ≤ z.length + 2 := brk_len _ _
        have hb2 : (brk (decide (l < 3)) z).length ≤ z.length + 2 := brk_len _ _
        have hc1 : (brk (decide (h < 1)) y).length ≤ y.length + 2 := brk_len _ _
        have hc2 : (brk (decide (h < 2)) y).length ≤ y.length + 2 := brk_len _ _
        cases o with
        | add =>
          have g1 : (brk (decide (l < (1 + 1 : Int))) z).length ≤ z.length + 2 := brk_len _ _
          have g2 : (brk (decide (h < (1 : Int))) y).length ≤ y.length + 2 := brk_len _ _
          walk_at "w"
          rw [pop_at]
          walk_at "w"
          rw [Mem.put_put, List.dropLast_concat]
          walk_at "w"
          refine ⟨rfl, ?_⟩
          rw [List.map_cons, List.reverse_cons]
          walk_at "w"
          rw [pop_at]
          walk_at "w"
          rw [Mem.put_put, List.dropLast_concat]
          walk_at "w"
          refine ⟨rfl, ?_⟩
          walk_at "w"
          refine ⟨y, h, 1, rfl, by omega, ?_⟩
          walk_at "w"
          refine ⟨z, l, _, rfl, by omega, ?_⟩
          walk_at "w"
          refine ⟨⟨_, rfl⟩, ?_⟩
          walk_at "w"
          refine ⟨by show _ ≤ sizeLine; unfold sizeLine; omega, ?_⟩
          walk_at "w"
          rw [empty_app]
          refine ⟨by unfold sizeLine; omega, ?_⟩
          walk_at "w"
          refine ⟨by rw [str_len_app]; show _ + 1 ≤ sizeLine; unfold sizeLine; omega, ?_⟩
          walk_at "w"
          refine ⟨(Nat.le_of_ble_eq_true rfl : _ ≤ sizeLine), ?_⟩
          walk_at "w"
          refine ⟨by rw [str_len_app, str_len_app]; show _ + 1 + 1 ≤ sizeLine; unfold sizeLine; omega, ?_⟩
          walk_at "w"
          refine ⟨by rw [str_len_app, str_len_app, str_len_app]; show _ + 1 + 1 + 1 ≤ sizeLine; unfold sizeLine; omega, ?_⟩
          walk_at "w"
          refine ⟨by show _ ≤ sizeLine; unfold sizeLine; omega, ?_⟩
          walk_at "w"
          refine ⟨by rw [str_len_app, str_len_app, str_len_app, str_len_app]; show _ + 1 + 1 + 1 + _ ≤ sizeLine; unfold sizeLine; omega, ?_⟩
          walk_at "w"
          refine ⟨(Nat.le_of_ble_eq_true rfl : _ ≤ sizeLine), ?_⟩
          walk_at "w"
          refine ⟨by rw [List.length_reverse, List.length_map]; simp only [List.length_cons] at hS; unfold sizeLine; omega, ?_⟩
          rw [Mem.put_put]
          refine ih _ _ ⟨_, (brk (decide (h < 1)) y ++ (" + " : Str) ++ brk (decide (l < 1 + 1)) z, (1 : Int)) :: S, _, _, _, _, _, _, _, _, _, rfl, ?_, rfl, hE, by simp only [List.length_cons] at hS ⊢; omega⟩
          rw [List.map_cons, List.reverse_cons]
          rw [sgn3 _ _ (by decide +kernel : ((" " : Str) ++ ("+" : Str)) ++ (" " : Str) = (" + " : Str))]
          rfl
        | sub =>
          have g1 : (brk (decide (l < (1 + 1 : Int))) z).length ≤ z.length + 2 := brk_len _ _
          have g2 : (brk (decide (h < (1 : Int))) y).length ≤ y.length + 2 := brk_len _ _
          walk_at "w"
          rw [pop_at]
          walk_at "w"
          rw [Mem.put_put, List.dropLast_concat]
          walk_at "w"
          refine ⟨rfl, ?_⟩
          rw [List.map_cons, List.reverse_cons]
          walk_at "w"
          rw [pop_at]
          walk_at "w"
          rw [Mem.put_put, List.dropLast_concat]
          walk_at "w"
          refine ⟨rfl, ?_⟩
          walk_at "w"
          refine ⟨y, h, 1, rfl, by omega, ?_⟩
          walk_at "w"
          refine ⟨z, l, _, rfl, by omega, ?_⟩
          walk_at "w"
          refine ⟨⟨_, rfl⟩, ?_⟩
          walk_at "w"
          refine ⟨by show _ ≤ sizeLine; unfold sizeLine; omega, ?_⟩
          walk_at "w"
          rw [empty_app]
          refine ⟨by unfold sizeLine; omega, ?_⟩
          walk_at "w"
          refine ⟨by rw [str_len_app]; show _ + 1 ≤ sizeLine; unfold sizeLine; omega, ?_⟩
          walk_at "w"
          refine ⟨(Nat.le_of_ble_eq_true rfl : _ ≤ sizeLine), ?_⟩
          walk_at "w"
          refine ⟨by rw [str_len_app, str_len_app]; show _ + 1 + 1 ≤ sizeLine; unfold sizeLine; omega, ?_⟩
          walk_at "w"
          refine ⟨by rw [str_len_app, str_len_app, str_len_app]; show _ + 1 + 1 + 1 ≤ sizeLine; unfold sizeLine; omega, ?_⟩
          walk_at "w"
          refine ⟨by show _ ≤ sizeLine; unfold sizeLine; omega, ?_⟩
          walk_at "w"
          refine ⟨by rw [str_len_app, str_len_app, str_len_app, str_len_app]; show _ + 1 + 1 + 1 + _ ≤ sizeLine; unfold sizeLine; omega, ?_⟩
          walk_at "w"
          refine ⟨(Nat.le_of_ble_eq_true rfl : _ ≤ sizeLine), ?_⟩
          walk_at "w"
          refine ⟨by rw [List.length_reverse, List.length_map]; simp only [List.length_cons] at hS; unfold sizeLine; omega, ?_⟩
          rw [Mem.put_put]
          refine ih _ _ ⟨_, (brk (decide (h < 1)) y ++ (" - " : Str) ++ brk (decide (l < 1 + 1)) z, (1 : Int)) :: S, _, _, _, _, _, _, _, _, _, rfl, ?_, rfl, hE, by simp only [List.length_cons] at hS ⊢; omega⟩
          rw [List.map_cons, List.reverse_cons]
          rw [sgn3 _ _ (by decide +kernel : ((" " : Str) ++ ("-" : Str)) ++ (" " : Str) = (" - " : Str))]
          rfl
        | mul =>
          have g1 : (brk (decide (l < (2 + 1 : Int))) z).length ≤ z.length + 2 := brk_len _ _
          have g2 : (brk (decide (h < (2 : Int))) y).length ≤ y.length + 2 := brk_len _ _
          walk_at "w"
          rw [pop_at]
          walk_at "w"
          rw [Mem.put_put, List.dropLast_concat]
          walk_at "w"
          refine ⟨rfl, ?_⟩
          rw [List.map_cons, List.reverse_cons]
          walk_at "w"
          rw [pop_at]
          walk_at "w"
          rw [Mem.put_put, List.dropLast_concat]
          walk_at "w"
          refine ⟨rfl, ?_⟩
          walk_at "w"
          refine ⟨y, h, 2, rfl, by omega, ?_⟩
          walk_at "w"
          refine ⟨z, l, _, rfl, by omega, ?_⟩
          walk_at "w"
          refine ⟨⟨_, rfl⟩, ?_⟩
          walk_at "w"
          refine ⟨by show _ ≤ sizeLine; unfold sizeLine; omega, ?_⟩
          walk_at "w"
          rw [empty_app]
          refine ⟨by unfold sizeLine; omega, ?_⟩
          walk_at "w"
          refine ⟨(Nat.le_of_ble_eq_true rfl : _ ≤ sizeLine), ?_⟩
          walk_at "w"
          refine ⟨by rw [str_len_app]; show _ + 1 ≤ sizeLine; unfold sizeLine; omega, ?_⟩
          walk_at "w"
          refine ⟨by show _ ≤ sizeLine; unfold sizeLine; omega, ?_⟩
          walk_at "w"
          refine ⟨by rw [str_len_app, str_len_app]; show _ + 1 + _ ≤ sizeLine; unfold sizeLine; omega, ?_⟩
          walk_at "w"
          refine ⟨(Nat.le_of_ble_eq_true rfl : _ ≤ sizeLine), ?_⟩
          walk_at "w"
          refine ⟨by rw [List.length_reverse, List.length_map]; simp only [List.length_cons] at hS; unfold sizeLine; omega, ?_⟩
          rw [Mem.put_put]
          refine ih _ _ ⟨_, (brk (decide (h < 2)) y ++ ("*" : Str) ++ brk (decide (l < 2 + 1)) z, (2 : Int)) :: S, _, _, _, _, _, _, _, _, _, rfl, ?_, rfl, hE, by simp only [List.length_cons] at hS ⊢; omega⟩
          rw [List.map_cons, List.reverse_cons]
          rfl
        | div =>
          have g1 : (brk (decide (l < (2 + 1 : Int))) z).length ≤ z.length + 2 := brk_len _ _
          have g2 : (brk (decide (h < (2 : Int))) y).length ≤ y.length + 2 := brk_len _ _
          walk_at "w"
          rw [pop_at]
          walk_at "w"
          rw [Mem.put_put, List.dropLast_concat]
          walk_at "w"
          refine ⟨rfl, ?_⟩
          rw [List.map_cons, List.reverse_cons]
          walk_at "w"
          rw [pop_at]
          walk_at "w"
          rw [Mem.put_put, List.dropLast_concat]
          walk_at "w"
          refine ⟨rfl, ?_⟩
          walk_at "w"
          refine ⟨y, h, 2, rfl, by omega, ?_⟩
          walk_at "w"
          refine ⟨z, l, _, rfl, by omega, ?_⟩
          walk_at "w"
          refine ⟨⟨_, rfl⟩, ?_⟩
          walk_at "w"
          refine ⟨by show _ ≤ sizeLine; unfold sizeLine; omega, ?_⟩
          walk_at "w"
          rw [empty_app]
          refine ⟨by unfold sizeLine; omega, ?_⟩
          walk_at "w"
          refine ⟨(Nat.le_of_ble_eq_true rfl : _ ≤ sizeLine), ?_⟩
          walk_at "w"
          refine ⟨by rw [str_len_app]; show _ + 1 ≤ sizeLine; unfold sizeLine; omega, ?_⟩
          walk_at "w"
          refine ⟨by show _ ≤ sizeLine; unfold sizeLine; omega, ?_⟩
          walk_at "w"
          refine ⟨by rw [str_len_app, str_len_app]; show _ + 1 + _ ≤ sizeLine; unfold sizeLine; omega, ?_⟩
          walk_at "w"
          refine ⟨(Nat.le_of_ble_eq_true rfl : _ ≤ sizeLine), ?_⟩
          walk_at "w"
          refine ⟨by rw [List.length_reverse, List.length_map]; simp only [List.length_cons] at hS; unfold sizeLine; omega, ?_⟩
          rw [Mem.put_put]
          refine ih _ _ ⟨_, (brk (decide (h < 2)) y ++ ("/" : Str) ++ brk (decide (l < 2 + 1)) z, (2 : Int)) :: S, _, _, _, _, _, _, _, _, _, rfl, ?_, rfl, hE, by simp only [List.length_cons] at hS ⊢; omega⟩
          rw [List.map_cons, List.reverse_cons]
          rfl
end
end D2

set_option maxRecDepth 100000
set_option maxHeartbeats 2000000
set_option pp.maxSteps 400
set_option pp.deepTerms false
namespace D2
open PySem PySem.Spec PyProof.Rows L2
local macro_rules | `(tactic| walk_at "wp") => `(tactic| conv => whnf)
local macro_rules | `(tactic| walk_at "w") => `(tactic| (conv => whnf) <;> repeat ((first | rw [seqD_ptr Mem.put_same] | rw [atI_zero] | rw [lstD_ptr Mem.put_same] | rw [dctD_ptr Mem.put_same] | rw [objD_ptr Mem.put_same] | rw [Mem.put_same]); conv => whnf))
local macro_rules | `(tactic| walk_at "v") => `(tactic| (conv => whnf) <;> repeat ((first | rw [seqD_ptr Mem.put_same] | rw [atI_zero] | rw [Mem.put_same] | rw [seqD_ptr (Mem.at2 (by assumption))] | rw [Mem.at2 (by assumption)]); conv => whnf))
local macro_rules | `(tactic| walk_at "a") => `(tactic| (walk_at "w") <;> repeat (refine ⟨(by first | exact mulR ⟨by omega, by omega⟩ | exact mulL ⟨by omega, by omega⟩ | (show (0 : Int) < _; omega) | exact ⟨by omega, by decide +kernel⟩ | exact ⟨by decide, by decide, by decide⟩), ?_⟩ <;> walk_at "w"))
local macro_rules | `(tactic| walk_at "i") => `(tactic| ((walk_at "w") <;> (refine ⟨trivial, by first | exact .inl rfl | exact .inr (.inl rfl) | exact .inr (.inr (.inl rfl)) | exact .inr (.inr (.inr (.inl rfl))) | exact .inr (.inr (.inr (.inr (.inl rfl)))), ?_⟩)))
section
variable {P : Program} {w : World} {K : W.Frag} {mg : Str → Option Value} {base : Heap} {A : Ad}
theorem sc_read_steps : FnScope ["text", "with_t", "found", "bad"] ["text", "with_t"] (defScope (top 28)) := ⟨rfl, rfl, rfl, by decide +kernel, rfl, by decide +kernel, by decide +kernel⟩
theorem ok_read_steps (T : Txt K mg A) (G_bad_place : FnAt P w K mg base 3 "bad_place" S_bad_place) (G_postfix : FnAt P w K mg base 2 "postfix" S_postfix) (G_tokens : FnAt P w K mg base 1 "tokens" S_tokens) : FnAtD P w K mg base 4 "read_steps" S_read_steps [.bl false] := by
  refine fnAtD_of T.F_read_steps sc_read_steps (fun ds M q h => by first | (obtain ⟨e, _⟩ := h; rw [e]; rfl) | (obtain ⟨_, e, _⟩ := h; rw [e]; rfl) | (obtain ⟨_, _, e, _⟩ := h; rw [e]; rfl) | (obtain ⟨_, _, _, e, _⟩ := h; rw [e]; rfl) | (obtain ⟨_, _, _, _, e, _⟩ := h; rw [e]; rfl) | (obtain ⟨_, _, _, _, _, e, _⟩ := h; rw [e]; rfl) | (obtain ⟨_, _, _, _, _, _, e, _⟩ := h; rw [e]; rfl) | (obtain ⟨_, _, _, _, _, _, _, e, _⟩ := h; rw [e]; rfl) | (obtain ⟨_, _, _, _, _, _, _, _, e, _⟩ := h; rw [e]; rfl) | (obtain ⟨_, _, _, _, _, _, _, _, _, e, _⟩ := h; rw [e]; rfl) | (obtain ⟨_, _, _, _, _, _, _, _, _, _, e, _⟩ := h; rw [e]; rfl) | (obtain ⟨_, _, _, _, _, _, _, _, _, _, _, e, _⟩ := h; rw [e]; rfl)) ?_
  intro f cdv A' outer s H E hr
  have S := sc_read_steps
  have hu := hr.units
  have hu1 := Nat.lt_of_le_of_lt (Nat.add_le_add_left (by decide : 1 ≤ 64) _) hu
  refine ⟨_, _, (pdb_cons (pds_if (pdt_not (pdt_val (pd_callB pc_isi rfl T.n_isinstance (by decide +kernel) (pda_cons (pd_var 0) (pda_cons (pd_ty "str" rfl T.n_str (by decide +kernel)) pda_nil))))) (pdb_one pds_never) pdb_nil)
      (pdb_cons (pds_set (i := 2) S.nd rfl (Or.inl rfl) (pd_call G_tokens (hr.mono (by omega)) rfl (pda_cons (pd_var 0) pda_nil)))
      (pdb_cons (pds_set (i := 3) S.nd rfl (Or.inl rfl) (pd_call G_bad_place (hr.mono (by omega)) rfl (pda_cons (pd_var 2) (pda_cons (pd_callB pc_len rfl T.n_len (by decide +kernel) (pda_cons (pd_var 0) pda_nil)) (pda_cons (pd_var 1) pda_nil)))))
      (pdb_cons (pds_if (pdt_cmp po_ge (pd_var 3) pd_int (nomark _)) (pdb_one pds_never) pdb_nil)
      (pdb_one (pds_ret (pd_call G_postfix (hr.mono (by omega)) rfl (pda_cons (pd_var 2) pda_nil)))))))), fun ds M q h => ?_⟩
  obtain ⟨z, t, k, rfl, hz, hL, ok, hq⟩ := h
  have htl : (tokL z).length ≤ z.length := by
    have := tokR_len _ z.cps.toList 0 (Nat.le_refl _)
    rw [TL.len_tl]
    exact this
  walk_at "i"
  walk_at "w"
  refine ⟨z, rfl, by omega, ?_⟩
  walk_at "w"
  refine ⟨by unfold sizeLine; omega, ?_⟩
  walk_at "w"
  refine ⟨tokL z, (z.length : Int), rfl, fun x hx => ?_, ?_⟩
  · have := Nat.le_trans (tok_len (hL.toks ok x.1 (List.mem_map_of_mem hx))) (by decide : 40 ≤ 7000000)
    exact this
  rw [bad_none hL ok]
  walk_at "w"
  refine ⟨tokL z, (stepsT t).map encS, rfl, by omega, post_all hL ok, fun x => ?_⟩
  exact .of (hq x)
end
end D2

set_option maxRecDepth 100000
set_option maxHeartbeats 2000000
set_option pp.maxSteps 400
set_option pp.deepTerms false
namespace D2
open PySem PySem.Spec PyProof.Rows L2
local macro_rules | `(tactic| walk_at "wp") => `(tactic| conv => whnf)
local macro_rules | `(tactic| walk_at "w") => `(tactic| (conv => whnf) <;> repeat ((first | rw [seqD_ptr Mem.put_same] | rw [atI_zero] | rw [lstD_ptr Mem.put_same] | rw [dctD_ptr Mem.put_same] | rw [objD_ptr Mem.put_same] | rw [Mem.put_same]); conv => whnf))
local macro_rules | `(tactic| walk_at "v") => `(tactic| (conv => whnf) <;> repeat ((first | rw [seqD_ptr Mem.put_same] | rw [atI_zero] | rw [Mem.put_same] | rw [seqD_ptr (Mem.at2 (by assumption))] | rw [Mem.at2 (by assumption)]); conv => whnf))
local macro_rules | `(tactic| walk_at "a") => `(tactic| (walk_at "w") <;> repeat (refine ⟨(by first | exact mulR ⟨by omega, by omega⟩ | exact mulL ⟨by omega, by omega⟩ | (show (0 : Int) < _; omega) | exact ⟨by omega, by decide +kernel⟩ | exact ⟨by decide, by decide, by decide⟩), ?_⟩ <;> walk_at "w"))
local macro_rules | `(tactic| walk_at "i") => `(tactic| ((walk_at "w") <;> (refine ⟨trivial, by first | exact .inl rfl | exact .inr (.inl rfl) | exact .inr (.inr (.inl rfl)) | exact .inr (.inr (.inr (.inl rfl))) | exact .inr (.inr (.inr (.inr (.inl rfl)))), ?_⟩)))
section
variable {P : Program} {w : World} {K : W.Frag} {mg : Str → Option Value} {base : Heap} {A : Ad}
def S_init (A : Ad) : SpD := fun ds M q => ∃ p x t, ds = [.ptr p, x] ∧ M p = some (.ins A.Formula []) ∧ GoodT t ∧ t.deep ≤ 16 ∧ ((∃ z k, x = .str z ∧ z.length ≤ 6999999 ∧ Lo k t 1 ((tokL z).map (·.1))) ∨ x = .obj A.Steps [("rows", .lst ((stepsT t).map encS))]) ∧ q .non (M.put p (.ins A.Formula [("_steps", .lst ((stepsT t).map encS)), ("_text", .str (shownT t 1))]))
def S_str (A : Ad) : SpD := fun ds M q => ∃ t, ds = [frmD A.Formula t] ∧ (GoodT t ∧ t.deep ≤ 16) ∧ q (.str (shownT t 1)) M
theorem sc_Formula___init__ : FnScope ["self", "text"] ["self", "text"] (defScope (mtop 32 0)) := ⟨rfl, rfl, rfl, by decide +kernel, rfl, by decide +kernel, by decide +kernel⟩
theorem ok_Formula___init__ (T : Txt K mg A) (G_read_steps : FnAtD P w K mg base 4 "read_steps" S_read_steps [.bl false]) (G_written : FnAt P w K mg base 2 "written" S_written) : MkAt P w K mg base 6 "Formula" A.Formula (S_init A) [] := by
  refine mkAt_of T.F_Formula___init__ sc_Formula___init__ (fun ds M q h => by first | (obtain ⟨e, _⟩ := h; rw [e]; rfl) | (obtain ⟨_, e, _⟩ := h; rw [e]; rfl) | (obtain ⟨_, _, e, _⟩ := h; rw [e]; rfl) | (obtain ⟨_, _, _, e, _⟩ := h; rw [e]; rfl) | (obtain ⟨_, _, _, _, e, _⟩ := h; rw [e]; rfl) | (obtain ⟨_, _, _, _, _, e, _⟩ := h; rw [e]; rfl) | (obtain ⟨_, _, _, _, _, _, e, _⟩ := h; rw [e]; rfl) | (obtain ⟨_, _, _, _, _, _, _, e, _⟩ := h; rw [e]; rfl) | (obtain ⟨_, _, _, _, _, _, _, _, e, _⟩ := h; rw [e]; rfl) | (obtain ⟨_, _, _, _, _, _, _, _, _, e, _⟩ := h; rw [e]; rfl) | (obtain ⟨_, _, _, _, _, _, _, _, _, _, e, _⟩ := h; rw [e]; rfl) | (obtain ⟨_, _, _, _, _, _, _, _, _, _, _, e, _⟩ := h; rw [e]; rfl)) ?_
  intro f cdv A' outer s H E hr
  have S := sc_Formula___init__
  have hu := hr.units
  have hu1 := Nat.lt_of_le_of_lt (Nat.add_le_add_left (by decide : 1 ≤ 64) _) hu
  refine ⟨_, _, (pdb_cons (pds_setF (pd_var 0) (pd_if (pdt_val (pd_callB pc_isi rfl T.n_isinstance (by decide +kernel) (pda_cons (pd_var 1) (pda_cons (pd_glR rfl T.m_Steps) pda_nil)))) (pd_fld (pd_var 1)) (pd_ix (pd_callD G_read_steps (fun _ => .cons (.bl _) .nil) (hr.mono (by omega)) rfl (pda_cons (pd_var 1) pda_nil)) pd_int fun _ _ => rfl)))
      (pdb_one (pds_setF (pd_var 0) (pd_call G_written (hr.mono (by omega)) rfl (pda_cons (pd_fld (pd_var 0)) pda_nil))))), fun ds M q h => ?_⟩
  obtain ⟨p, x, t, rfl, hM, ok, hd, hx, hq⟩ := h
  have hsz := sz_le hd
  have hsl := steps_len t
  rcases hx with ⟨z, k, rfl, hz, hL⟩ | rfl
  · walk_at "w"
    refine ⟨"str", false, .str _, T.ki_sS, ?_⟩
    walk_at "w"
    refine ⟨z, t, k, rfl, hz, hL, ok, fun y => ?_⟩
    walk_at "w"
    rw [hM]
    refine ⟨T.d_Formula, T.na_steps, by decide, ?_⟩
    walk_at "w"
    refine ⟨T.d_Formula, T.na_steps, ?_⟩
    walk_at "w"
    refine ⟨stepsT t, shownT t 1, rfl, by omega, ev_all ok hd, ?_⟩
    walk_at "w"
    refine ⟨T.d_Formula, T.na_text, (by show 1 < 1000; decide), ?_⟩
    rw [Mem.put_put]
    exact .of hq
  · walk_at "w"
    refine ⟨T.d_Steps.ob, true, T.ki_SS, ?_⟩
    walk_at "w"
    refine ⟨T.d_Steps, T.na_rows, ?_⟩
    walk_at "w"
    rw [hM]
    refine ⟨T.d_Formula, T.na_steps, by decide, ?_⟩
    walk_at "w"
    refine ⟨T.d_Formula, T.na_steps, ?_⟩
    walk_at "w"
    refine ⟨stepsT t, shownT t 1, rfl, by omega, ev_all ok hd, ?_⟩
    walk_at "w"
    refine ⟨T.d_Formula, T.na_text, (by show 1 < 1000; decide), ?_⟩
    rw [Mem.put_put]
    exact .of hq
theorem sc_Formula_text : FnScope ["self"] ["self"] (defScope (mtop 32 7)) := ⟨rfl, rfl, rfl, by decide +kernel, rfl, by decide +kernel, by decide +kernel⟩
theorem ok_Formula_text (T : Txt K mg A) : MtAt P w K mg base 1 A.Formula "text" (S_str A) := by
  refine mtAt_of T.F_Formula_text sc_Formula_text (fun ds M q h => by first | (obtain ⟨e, _⟩ := h; rw [e]; rfl) | (obtain ⟨_, e, _⟩ := h; rw [e]; rfl) | (obtain ⟨_, _, e, _⟩ := h; rw [e]; rfl) | (obtain ⟨_, _, _, e, _⟩ := h; rw [e]; rfl) | (obtain ⟨_, _, _, _, e, _⟩ := h; rw [e]; rfl) | (obtain ⟨_, _, _, _, _, e, _⟩ := h; rw [e]; rfl) | (obtain ⟨_, _, _, _, _, _, e, _⟩ := h; rw [e]; rfl) | (obtain ⟨_, _, _, _, _, _, _, e, _⟩ := h; rw [e]; rfl) | (obtain ⟨_, _, _, _, _, _, _, _, e, _⟩ := h; rw [e]; rfl) | (obtain ⟨_, _, _, _, _, _, _, _, _, e, _⟩ := h; rw [e]; rfl) | (obtain ⟨_, _, _, _, _, _, _, _, _, _, e, _⟩ := h; rw [e]; rfl) | (obtain ⟨_, _, _, _, _, _, _, _, _, _, _, e, _⟩ := h; rw [e]; rfl)) ?_
  intro f cdv A' outer s H E hr
  have S := sc_Formula_text
  have hu := hr.units
  have hu1 := Nat.lt_of_le_of_lt (Nat.add_le_add_left (by decide : 1 ≤ 64) _) hu
  refine ⟨_, _, (pdb_one (pds_ret (pd_fld (pd_var 0)))), fun ds M q h => ?_⟩
  obtain ⟨t, rfl, ⟨ok, hd⟩, hq⟩ := h
  walk_at "w"
  refine ⟨T.d_Formula, T.na_text, ?_⟩
  exact .of hq
theorem sc_Formula___str__ : FnScope ["self"] ["self"] (defScope (mtop 32 8)) := ⟨rfl, rfl, rfl, by decide +kernel, rfl, by decide +kernel, by decide +kernel⟩
theorem ok_Formula___str__ (T : Txt K mg A) : MtAt P w K mg base 1 A.Formula "__str__" (S_str A) := by
  refine mtAt_of T.F_Formula___str__ sc_Formula___str__ (fun ds M q h => by first | (obtain ⟨e, _⟩ := h; rw [e]; rfl) | (obtain ⟨_, e, _⟩ := h; rw [e]; rfl) | (obtain ⟨_, _, e, _⟩ := h; rw [e]; rfl) | (obtain ⟨_, _, _, e, _⟩ := h; rw [e]; rfl) | (obtain ⟨_, _, _, _, e, _⟩ := h; rw [e]; rfl) | (obtain ⟨_, _, _, _, _, e, _⟩ := h; rw [e]; rfl) | (obtain ⟨_, _, _, _, _, _, e, _⟩ := h; rw [e]; rfl) | (obtain ⟨_, _, _, _, _, _, _, e, _⟩ := h; rw [e]; rfl) | (obtain ⟨_, _, _, _, _, _, _, _, e, _⟩ := h; rw [e]; rfl) | (obtain ⟨_, _, _, _, _, _, _, _, _, e, _⟩ := h; rw [e]; rfl) | (obtain ⟨_, _, _, _, _, _, _, _, _, _, e, _⟩ := h; rw [e]; rfl) | (obtain ⟨_, _, _, _, _, _, _, _, _, _, _, e, _⟩ := h; rw [e]; rfl)) ?_
  intro f cdv A' outer s H E hr
  have S := sc_Formula___str__
  have hu := hr.units
  have hu1 := Nat.lt_of_le_of_lt (Nat.add_le_add_left (by decide : 1 ≤ 64) _) hu
  refine ⟨_, _, (pdb_one (pds_ret (pd_joined1 (pd_fmt (pd_fld (pd_var 0)))))), fun ds M q h => ?_⟩
  obtain ⟨t, rfl, ⟨ok, hd⟩, hq⟩ := h
  have hz := shown_le (l := 1) ok hd
  walk_at "w"
  refine ⟨T.d_Formula, T.na_text, ?_⟩
  walk_at "w"
  refine ⟨by unfold sizeLine; omega, ?_⟩
  exact .of hq
def S_repr (A : Ad) : SpD := fun ds M q => ∃ t, ds = [frmD A.Formula t] ∧ (GoodT t ∧ t.deep ≤ 16) ∧ q (.str (("Formula(" : Str) ++ shownT t 1 ++ (")" : Str))) M
theorem sc_Formula___repr__ : FnScope ["self"] ["self"] (defScope (mtop 32 9)) := ⟨rfl, rfl, rfl, by decide +kernel, rfl, by decide +kernel, by decide +kernel⟩
theorem ok_Formula___repr__ (T : Txt K mg A) : MtAt P w K mg base 1 A.Formula "__repr__" (S_repr A) := by
  refine mtAt_of T.F_Formula___repr__ sc_Formula___repr__ (fun ds M q h => by first | (obtain ⟨e, _⟩ := h; rw [e]; rfl) | (obtain ⟨_, e, _⟩ := h; rw [e]; rfl) | (obtain ⟨_, _, e, _⟩ := h; rw [e]; rfl) | (obtain ⟨_, _, _, e, _⟩ := h; rw [e]; rfl) | (obtain ⟨_, _, _, _, e, _⟩ := h; rw [e]; rfl) | (obtain ⟨_, _, _, _, _, e, _⟩ := h; rw [e]; rfl) | (obtain ⟨_, _, _, _, _, _, e, _⟩ := h; rw [e]; rfl) | (obtain ⟨_, _, _, _, _, _, _, e, _⟩ := h; rw [e]; rfl) | (obtain ⟨_, _, _, _, _, _, _, _, e, _⟩ := h; rw [e]; rfl) | (obtain ⟨_, _, _, _, _, _, _, _, _, e, _⟩ := h; rw [e]; rfl) | (obtain ⟨_, _, _, _, _, _, _, _, _, _, e, _⟩ := h; rw [e]; rfl) | (obtain ⟨_, _, _, _, _, _, _, _, _, _, _, e, _⟩ := h; rw [e]; rfl)) ?_
  intro f cdv A' outer s H E hr
  have S := sc_Formula___repr__
  have hu := hr.units
  have hu1 := Nat.lt_of_le_of_lt (Nat.add_le_add_left (by decide : 1 ≤ 64) _) hu
  refine ⟨_, _, (pdb_one (pds_ret (pd_joined (.cons pd_str (.cons (pd_fmt (pd_fld (pd_var 0))) (.cons pd_str .nil)))))), fun ds M q h => ?_⟩
  obtain ⟨t, rfl, ⟨ok, hd⟩, hq⟩ := h
  have hz := shown_le (l := 1) ok hd
  walk_at "w"
  refine ⟨(Nat.le_of_ble_eq_true rfl : _ ≤ sizeLine), ?_⟩
  walk_at "w"
  refine ⟨T.d_Formula, T.na_text, ?_⟩
  walk_at "w"
  refine ⟨by unfold sizeLine; omega, ?_⟩
  rw [empty_app]
  refine ⟨by rw [str_len_app]; show 8 + _ ≤ sizeLine; unfold sizeLine; omega, ?_⟩
  walk_at "w"
  refine ⟨by rw [str_len_app, str_len_app]; show 8 + _ + 1 ≤ sizeLine; unfold sizeLine; omega, ?_⟩
  exact .of hq
def S_roots (A : Ad) : SpD := fun ds M q => ∃ t, ds = [frmD A.Formula t] ∧ t.deep ≤ 16 ∧ q (.int (manyT "root" t)) M
end
end D2

set_option maxRecDepth 100000
set_option maxHeartbeats 2000000
set_option pp.maxSteps 400
set_option pp.deepTerms false
namespace D2
open PySem PySem.Spec PyProof.Rows L2
local macro_rules | `(tactic| walk_at "wp") => `(tactic| conv => whnf)
local macro_rules | `(tactic| walk_at "w") => `(tactic| (conv => whnf) <;> repeat ((first | rw [seqD_ptr Mem.put_same] | rw [atI_zero] | rw [lstD_ptr Mem.put_same] | rw [dctD_ptr Mem.put_same] | rw [objD_ptr Mem.put_same] | rw [Mem.put_same]); conv => whnf))
local macro_rules | `(tactic| walk_at "v") => `(tactic| (conv => whnf) <;> repeat ((first | rw [seqD_ptr Mem.put_same] | rw [atI_zero] | rw [Mem.put_same] | rw [seqD_ptr (Mem.at2 (by assumption))] | rw [Mem.at2 (by assumption)]); conv => whnf))
local macro_rules | `(tactic| walk_at "a") => `(tactic| (walk_at "w") <;> repeat (refine ⟨(by first | exact mulR ⟨by omega, by omega⟩ | exact mulL ⟨by omega, by omega⟩ | (show (0 : Int) < _; omega) | exact ⟨by omega, by decide +kernel⟩ | exact ⟨by decide, by decide, by decide⟩), ?_⟩ <;> walk_at "w"))
local macro_rules | `(tactic| walk_at "i") => `(tactic| ((walk_at "w") <;> (refine ⟨trivial, by first | exact .inl rfl | exact .inr (.inl rfl) | exact .inr (.inr (.inl rfl)) | exact .inr (.inr (.inr (.inl rfl))) | exact .inr (.inr (.inr (.inr (.inl rfl)))), ?_⟩)))
section
variable {P : Program} {w : World} {K : W.Frag} {mg : Str → Option Value} {base : Heap} {A : Ad}
def S_roots1 (A : Ad) : SpD := fun ds M q => ∃ t, ds = [frmD A.Formula t] ∧ t.deep ≤ 16 ∧ q (.int (manyT "root" t)) M
theorem sc_Formula_roots : FnScope ["self", "step"] ["self"] (defScope (mtop 32 3)) := ⟨rfl, rfl, rfl, by decide +kernel, rfl, by decide +kernel, by decide +kernel⟩
theorem ok_Formula_roots (T : Txt K mg A) : PrAt P w K mg base 1 A.Formula "roots" (S_roots1 A) := by
  refine prAt_of T.F_Formula_roots sc_Formula_roots (fun ds M q h => by first | (obtain ⟨e, _⟩ := h; rw [e]; rfl) | (obtain ⟨_, e, _⟩ := h; rw [e]; rfl) | (obtain ⟨_, _, e, _⟩ := h; rw [e]; rfl) | (obtain ⟨_, _, _, e, _⟩ := h; rw [e]; rfl) | (obtain ⟨_, _, _, _, e, _⟩ := h; rw [e]; rfl) | (obtain ⟨_, _, _, _, _, e, _⟩ := h; rw [e]; rfl) | (obtain ⟨_, _, _, _, _, _, e, _⟩ := h; rw [e]; rfl) | (obtain ⟨_, _, _, _, _, _, _, e, _⟩ := h; rw [e]; rfl) | (obtain ⟨_, _, _, _, _, _, _, _, e, _⟩ := h; rw [e]; rfl) | (obtain ⟨_, _, _, _, _, _, _, _, _, e, _⟩ := h; rw [e]; rfl) | (obtain ⟨_, _, _, _, _, _, _, _, _, _, e, _⟩ := h; rw [e]; rfl) | (obtain ⟨_, _, _, _, _, _, _, _, _, _, _, e, _⟩ := h; rw [e]; rfl)) ?_
  intro f cdv A' outer s H E hr
  have S := sc_Formula_roots
  have hu := hr.units
  have hu1 := Nat.lt_of_le_of_lt (Nat.add_le_add_left (by decide : 1 ≤ 64) _) hu
  refine ⟨_, _, (pdb_one (pds_ret (pd_callB pc_len rfl T.n_len (by decide +kernel) (pda_cons (pd_lc (own := [("step", 1)]) rfl S.nd (pi_l (pd_fld (pd_var 0))) (blkOk_by (N := ["self", "step"]) (sc := (defScope (mtop 32 3))) (by decide +kernel)) (fun _ _ _ _ _ => (pg_name (i := 1) S.nd rfl (Or.inl rfl))) pdgc_1 (fun _ _ _ _ _ => blkT (pdts_one (pdt_cmp (po_eq hu) (pd_ix (pd_var 1) pd_int fun _ _ => rfl) pd_str (nomark _))) (by first | dsimp only | exact rfl) (by first | dsimp only | exact rfl)) fun _ _ _ _ _ => blkE (pd_var 1) (by first | dsimp only | exact rfl) (by first | dsimp only | exact rfl)) pda_nil)))), fun ds M q h => ?_⟩
  obtain ⟨t, rfl, hd, hq⟩ := h
  have hsz := sz_le hd
  have hsl := steps_len t
  walk_at "w"
  refine ⟨T.d_Formula, T.na_steps, ?_⟩
  walk_at "w"
  refine ⟨by rw [List.length_map]; unfold sizeLine; omega, fun p hp => ?_⟩
  refine lc_fm (ftag "root") (fun d => ∃ s, d = encS s) hp (fun d hd => ?_) ?_ ?_
  · obtain ⟨x, _, rfl⟩ := List.mem_map.mp hd
    exact ⟨x, rfl⟩
  · rw [fm_tag]
    walk_at "w"
    rw [List.length_map, many_root]
    exact .of hq
  · rintro d ds acc ⟨s, rfl⟩ h1 h2
    obtain ⟨r, e⟩ := encS_tag s
    rw [e] at h1 h2 ⊢
    walk_at "w"
    refine wite_d (fun z => ?_) fun z => ?_
    · walk_at "w"
      exact h1 _ (if_pos z)
    · exact h2 (if_neg z)
def S_has_i (A : Ad) : SpD := fun ds M q => ∃ t, ds = [frmD A.Formula t] ∧ t.deep ≤ 16 ∧ q (.bl (decide (0 < manyT "i" t))) M
theorem sc_Formula_has_i : FnScope ["self", "step"] ["self"] (defScope (mtop 32 4)) := ⟨rfl, rfl, rfl, by decide +kernel, rfl, by decide +kernel, by decide +kernel⟩
theorem ok_Formula_has_i (T : Txt K mg A) : PrAt P w K mg base 1 A.Formula "has_i" (S_has_i A) := by
  refine prAt_of T.F_Formula_has_i sc_Formula_has_i (fun ds M q h => by first | (obtain ⟨e, _⟩ := h; rw [e]; rfl) | (obtain ⟨_, e, _⟩ := h; rw [e]; rfl) | (obtain ⟨_, _, e, _⟩ := h; rw [e]; rfl) | (obtain ⟨_, _, _, e, _⟩ := h; rw [e]; rfl) | (obtain ⟨_, _, _, _, e, _⟩ := h; rw [e]; rfl) | (obtain ⟨_, _, _, _, _, e, _⟩ := h; rw [e]; rfl) | (obtain ⟨_, _, _, _, _, _, e, _⟩ := h; rw [e]; rfl) | (obtain ⟨_, _, _, _, _, _, _, e, _⟩ := h; rw [e]; rfl) | (obtain ⟨_, _, _, _, _, _, _, _, e, _⟩ := h; rw [e]; rfl) | (obtain ⟨_, _, _, _, _, _, _, _, _, e, _⟩ := h; rw [e]; rfl) | (obtain ⟨_, _, _, _, _, _, _, _, _, _, e, _⟩ := h; rw [e]; rfl) | (obtain ⟨_, _, _, _, _, _, _, _, _, _, _, e, _⟩ := h; rw [e]; rfl)) ?_
  intro f cdv A' outer s H E hr
  have S := sc_Formula_has_i
  have hu := hr.units
  have hu1 := Nat.lt_of_le_of_lt (Nat.add_le_add_left (by decide : 1 ≤ 64) _) hu
  refine ⟨_, _, (pdb_one (pds_ret (pd_callB (pc_any rfl) rfl T.n_any (by decide +kernel) (pda_cons (pd_lc (own := [("step", 1)]) rfl S.nd (pi_l (pd_fld (pd_var 0))) (blkOk_by (N := ["self", "step"]) (sc := (defScope (mtop 32 4))) (by decide +kernel)) (fun _ _ _ _ _ => (pg_name (i := 1) S.nd rfl (Or.inl rfl))) pdgc_1 (fun _ _ _ _ _ => blkT pdts_nil (by first | dsimp only | exact rfl) (by first | dsimp only | exact rfl)) fun _ _ _ _ _ => blkE (pd_cmp (po_eq hu) (pd_ix (pd_var 1) pd_int fun _ _ => rfl) pd_str (nomark _)) (by first | dsimp only | exact rfl) (by first | dsimp only | exact rfl)) pda_nil)))), fun ds M q h => ?_⟩
  obtain ⟨t, rfl, hd, hq⟩ := h
  have hsz := sz_le hd
  have hsl := steps_len t
  walk_at "w"
  refine ⟨T.d_Formula, T.na_steps, ?_⟩
  walk_at "w"
  refine ⟨by rw [List.length_map]; unfold sizeLine; omega, fun p hp => ?_⟩
  refine lc_fm (fbtag "i") (fun d => ∃ s, d = encS s) hp (fun d hd => ?_) ?_ ?_
  · obtain ⟨x, _, rfl⟩ := List.mem_map.mp hd
    exact ⟨x, rfl⟩
  · rw [fm_btag]
    walk_at "w"
    refine ⟨_, rfl, ?_⟩
    rw [List.any_map]
    rw [show (stepsT t).any (id ∘ fun s => decide (tagS s = "i")) = decide (0 < manyT "i" t) from any_i t]
    exact .of hq
  · rintro d ds acc ⟨s, rfl⟩ h1 h2
    obtain ⟨r, e⟩ := encS_tag s
    rw [e] at h1 h2 ⊢
    walk_at "w"
    exact h1 _ rfl
def S_stepsF (A : Ad) : SpD := fun ds M q => ∃ t, ds = [frmD A.Formula t] ∧ q (.lst ((stepsT t).map encS)) M
theorem sc_Formula_steps : FnScope ["self"] ["self"] (defScope (mtop 32 6)) := ⟨rfl, rfl, rfl, by decide +kernel, rfl, by decide +kernel, by decide +kernel⟩
theorem ok_Formula_steps (T : Txt K mg A) : MtAt P w K mg base 1 A.Formula "steps" (S_stepsF A) := by
  refine mtAt_of T.F_Formula_steps sc_Formula_steps (fun ds M q h => by first | (obtain ⟨e, _⟩ := h; rw [e]; rfl) | (obtain ⟨_, e, _⟩ := h; rw [e]; rfl) | (obtain ⟨_, _, e, _⟩ := h; rw [e]; rfl) | (obtain ⟨_, _, _, e, _⟩ := h; rw [e]; rfl) | (obtain ⟨_, _, _, _, e, _⟩ := h; rw [e]; rfl) | (obtain ⟨_, _, _, _, _, e, _⟩ := h; rw [e]; rfl) | (obtain ⟨_, _, _, _, _, _, e, _⟩ := h; rw [e]; rfl) | (obtain ⟨_, _, _, _, _, _, _, e, _⟩ := h; rw [e]; rfl) | (obtain ⟨_, _, _, _, _, _, _, _, e, _⟩ := h; rw [e]; rfl) | (obtain ⟨_, _, _, _, _, _, _, _, _, e, _⟩ := h; rw [e]; rfl) | (obtain ⟨_, _, _, _, _, _, _, _, _, _, e, _⟩ := h; rw [e]; rfl) | (obtain ⟨_, _, _, _, _, _, _, _, _, _, _, e, _⟩ := h; rw [e]; rfl)) ?_
  intro f cdv A' outer s H E hr
  have S := sc_Formula_steps
  have hu := hr.units
  have hu1 := Nat.lt_of_le_of_lt (Nat.add_le_add_left (by decide : 1 ≤ 64) _) hu
  refine ⟨_, _, (pdb_one (pds_ret (pd_callTy (pc_list rfl) rfl T.n_list (by decide +kernel) (pda_cons (pd_fld (pd_var 0)) pda_nil)))), fun ds M q h => ?_⟩
  obtain ⟨t, rfl, hq⟩ := h
  walk_at "w"
  refine ⟨T.d_Formula, T.na_steps, ?_⟩
  exact .of hq
end
end D2

set_option maxRecDepth 100000
set_option maxHeartbeats 2000000
set_option pp.maxSteps 400
set_option pp.deepTerms false
namespace D2
open PySem PySem.Spec PyProof.Rows L2
local macro_rules | `(tactic| walk_at "wp") => `(tactic| conv => whnf)
local macro_rules | `(tactic| walk_at "w") => `(tactic| (conv => whnf) <;> repeat ((first | rw [seqD_ptr Mem.put_same] | rw [atI_zero] | rw [lstD_ptr Mem.put_same] | rw [dctD_ptr Mem.put_same] | rw [objD_ptr Mem.put_same] | rw [Mem.put_same]); conv => whnf))
local macro_rules | `(tactic| walk_at "v") => `(tactic| (conv => whnf) <;> repeat ((first | rw [seqD_ptr Mem.put_same] | rw [atI_zero] | rw [Mem.put_same] | rw [seqD_ptr (Mem.at2 (by assumption))] | rw [Mem.at2 (by assumption)]); conv => whnf))
local macro_rules | `(tactic| walk_at "a") => `(tactic| (walk_at "w") <;> repeat (refine ⟨(by first | exact mulR ⟨by omega, by omega⟩ | exact mulL ⟨by omega, by omega⟩ | (show (0 : Int) < _; omega) | exact ⟨by omega, by decide +kernel⟩ | exact ⟨by decide, by decide, by decide⟩), ?_⟩ <;> walk_at "w"))
local macro_rules | `(tactic| walk_at "i") => `(tactic| ((walk_at "w") <;> (refine ⟨trivial, by first | exact .inl rfl | exact .inr (.inl rfl) | exact .inr (.inr (.inl rfl)) | exact .inr (.inr (.inr (.inl rfl))) | exact .inr (.inr (.inr (.inr (.inl rfl)))), ?_⟩)))
section
variable {P : Program} {w : World} {K : W.Frag} {mg : Str → Option Value} {base : Heap} {A : Ad}
/-- beside another formula, beside a text -/
def S_eqF (A : Ad) : SpD := fun ds M q => ∃ (t : Tr) (y : D) (b : Bool), ds = [frmD A.Formula t, y] ∧ ((∃ u, y = frmD A.Formula u ∧ b = decide (shownT t 1 = shownT u 1)) ∨ ∃ z, y = .str z ∧ b = false) ∧ q (.bl b) M
theorem sc_Formula___eq__ : FnScope ["self", "other"] ["self", "other"] (defScope (mtop 32 10)) := ⟨rfl, rfl, rfl, by decide +kernel, rfl, by decide +kernel, by decide +kernel⟩
theorem ok_Formula___eq__ (T : Txt K mg A) : MtAt P w K mg base 1 A.Formula "__eq__" (S_eqF A) := by
  refine mtAt_of T.F_Formula___eq__ sc_Formula___eq__ (fun ds M q h => by first | (obtain ⟨e, _⟩ := h; rw [e]; rfl) | (obtain ⟨_, e, _⟩ := h; rw [e]; rfl) | (obtain ⟨_, _, e, _⟩ := h; rw [e]; rfl) | (obtain ⟨_, _, _, e, _⟩ := h; rw [e]; rfl) | (obtain ⟨_, _, _, _, e, _⟩ := h; rw [e]; rfl) | (obtain ⟨_, _, _, _, _, e, _⟩ := h; rw [e]; rfl) | (obtain ⟨_, _, _, _, _, _, e, _⟩ := h; rw [e]; rfl) | (obtain ⟨_, _, _, _, _, _, _, e, _⟩ := h; rw [e]; rfl) | (obtain ⟨_, _, _, _, _, _, _, _, e, _⟩ := h; rw [e]; rfl) | (obtain ⟨_, _, _, _, _, _, _, _, _, e, _⟩ := h; rw [e]; rfl) | (obtain ⟨_, _, _, _, _, _, _, _, _, _, e, _⟩ := h; rw [e]; rfl) | (obtain ⟨_, _, _, _, _, _, _, _, _, _, _, e, _⟩ := h; rw [e]; rfl)) ?_
  intro f cdv A' outer s H E hr
  have S := sc_Formula___eq__
  have hu := hr.units
  have hu1 := Nat.lt_of_le_of_lt (Nat.add_le_add_left (by decide : 1 ≤ 64) _) hu
  refine ⟨_, _, (pdb_one (pds_ret (pd_and (pd_callB pc_isi rfl T.n_isinstance (by decide +kernel) (pda_cons (pd_var 1) (pda_cons (pd_glR rfl T.m_Formula) pda_nil))) (pd_one (pd_cmp (po_eq hu) (pd_fld (pd_var 0)) (pd_fld (pd_var 1)) (nomark _)))))), fun ds M q h => ?_⟩
  obtain ⟨t, y, b, rfl, hy, hq⟩ := h
  rcases hy with ⟨u, rfl, rfl⟩ | ⟨z, rfl, rfl⟩
  · walk_at "w"
    refine ⟨T.d_Formula.ob, true, T.ki_FF, ?_⟩
    walk_at "w"
    refine ⟨T.d_Formula, T.na_text, ?_⟩
    walk_at "w"
    refine ⟨T.d_Formula, T.na_text, ?_⟩
    walk_at "w"
    exact .of hq
  · walk_at "w"
    refine ⟨"str", false, .str _, T.ki_sF, ?_⟩
    walk_at "w"
    exact .of hq
/-- rows as tuples or lists -/
def RowOf (s : Step) (d : D) : Prop := ∃ xs, encS s = .tup xs ∧ (d = .tup xs ∨ d = .lst xs)
inductive Rows : List Step → List D → Prop
  | nil : Rows [] []
  | cons {s : Step} {d : D} {ss : List Step} {ds : List D} : RowOf s d → Rows ss ds → Rows (s :: ss) (d :: ds)
def S_rows (A : Ad) : SpD := fun ds M q => ∃ p rows st, ds = [.ptr p, .lst rows] ∧ M p = some (.ins A.Steps []) ∧ Rows st rows ∧ rows.length ≤ sizeLine ∧ q .non (M.put p (.ins A.Steps [("rows", .lst (st.map encS))]))
theorem sc_Steps___init__ : FnScope ["self", "rows", "row"] ["self", "rows"] (defScope (mtop 30 0)) := ⟨rfl, rfl, rfl, by decide +kernel, rfl, by decide +kernel, by decide +kernel⟩
theorem ok_Steps___init__ (T : Txt K mg A) : MkAt P w K mg base 1 "Steps" A.Steps (S_rows A) [] := by
  refine mkAt_of T.F_Steps___init__ sc_Steps___init__ (fun ds M q h => by first | (obtain ⟨e, _⟩ := h; rw [e]; rfl) | (obtain ⟨_, e, _⟩ := h; rw [e]; rfl) | (obtain ⟨_, _, e, _⟩ := h; rw [e]; rfl) | (obtain ⟨_, _, _, e, _⟩ := h; rw [e]; rfl) | (obtain ⟨_, _, _, _, e, _⟩ := h; rw [e]; rfl) | (obtain ⟨_, _, _, _, _, e, _⟩ := h; rw [e]; rfl) | (obtain ⟨_, _, _, _, _, _, e, _⟩ := h; rw [e]; rfl) | (obtain ⟨_, _, _, _, _, _, _, e, _⟩ := h; rw [e]; rfl) | (obtain ⟨_, _, _, _, _, _, _, _, e, _⟩ := h; rw [e]; rfl) | (obtain ⟨_, _, _, _, _, _, _, _, _, e, _⟩ := h; rw [e]; rfl) | (obtain ⟨_, _, _, _, _, _, _, _, _, _, e, _⟩ := h; rw [e]; rfl) | (obtain ⟨_, _, _, _, _, _, _, _, _, _, _, e, _⟩ := h; rw [e]; rfl)) ?_
  intro f cdv A' outer s H E hr
  have S := sc_Steps___init__
  have hu := hr.units
  have hu1 := Nat.lt_of_le_of_lt (Nat.add_le_add_left (by decide : 1 ≤ 64) _) hu
  refine ⟨_, _, (pdb_one (pds_setF (pd_var 0) (pd_lc (own := [("row", 2)]) rfl S.nd (pi_l (pd_var 1)) (blkOk_by (N := ["self", "rows", "row"]) (sc := (defScope (mtop 30 0))) (by decide +kernel)) (fun _ _ _ _ _ => (pg_name (i := 2) S.nd rfl (Or.inl rfl))) pdgc_1 (fun _ _ _ _ _ => blkT pdts_nil (by first | dsimp only | exact rfl) (by first | dsimp only | exact rfl)) fun _ _ _ _ _ => blkE (pd_callTy pc_tuple rfl T.n_tuple (by decide +kernel) (pda_cons (pd_var 2) pda_nil)) (by first | dsimp only | exact rfl) (by first | dsimp only | exact rfl)))), fun ds M q h => ?_⟩
  obtain ⟨p, rows, st, rfl, hM, hR, hz, hq⟩ := h
  walk_at "w"
  refine ⟨hz, fun p1 hp1 => ?_⟩
  have ne1 : p ≠ p1 := fun e => by rw [← e, hM] at hp1; cases hp1
  refine lc_by (fun rest acc M' => M' = M ∧ ∃ s1 s2, st = s1 ++ s2 ∧ Rows s2 rest ∧ acc = s1.map encS) ?_ ?_ _ _ _ ⟨rfl, [], st, rfl, hR, rfl⟩
  · rintro acc M' ⟨rfl, s1, s2, e, hr, rfl⟩
    cases hr
    rw [List.append_nil] at e
    subst e
    walk_at "w"
    rw [hM]
    refine ⟨T.d_Steps, T.na_rows, (by decide), ?_⟩
    exact .of hq
  · rintro d ds acc M' ⟨rfl, s1, s2, e, hr, rfl⟩ ih
    cases hr with
    | @cons s _ ss _ h1 h2 =>
      obtain ⟨xs, ex, hd⟩ := h1
      have fin : ∃ M5 : Mem, M5 p1 = none ∧ M'.put p1 (.lst (s1.map encS)) = M5.put p1 (.lst (s1.map encS)) ∧ lcL _ _ _ _ _ p1 ds (s1.map encS ++ [.tup xs]) M5 := ⟨M', hp1, rfl, ih _ _ ⟨rfl, s1 ++ [s], ss, by rw [e, List.append_assoc]; rfl, h2, by rw [List.map_append]; show _ = _ ++ [encS s]; rw [ex]⟩⟩
      rcases hd with rfl | rfl
      · walk_at "w"
        exact fin
      · walk_at "w"
        exact fin
end
end D2

set_option maxRecDepth 100000
set_option maxHeartbeats 2000000
set_option pp.maxSteps 400
set_option pp.deepTerms false
namespace D2
open PySem PySem.Spec PyProof.Rows L2
local macro_rules | `(tactic| walk_at "wp") => `(tactic| conv => whnf)
local macro_rules | `(tactic| walk_at "w") => `(tactic| (conv => whnf) <;> repeat ((first | rw [seqD_ptr Mem.put_same] | rw [atI_zero] | rw [lstD_ptr Mem.put_same] | rw [dctD_ptr Mem.put_same] | rw [objD_ptr Mem.put_same] | rw [Mem.put_same]); conv => whnf))
local macro_rules | `(tactic| walk_at "v") => `(tactic| (conv => whnf) <;> repeat ((first | rw [seqD_ptr Mem.put_same] | rw [atI_zero] | rw [Mem.put_same] | rw [seqD_ptr (Mem.at2 (by assumption))] | rw [Mem.at2 (by assumption)]); conv => whnf))
local macro_rules | `(tactic| walk_at "a") => `(tactic| (walk_at "w") <;> repeat (refine ⟨(by first | exact mulR ⟨by omega, by omega⟩ | exact mulL ⟨by omega, by omega⟩ | (show (0 : Int) < _; omega) | exact ⟨by omega, by decide +kernel⟩ | exact ⟨by decide, by decide, by decide⟩), ?_⟩ <;> walk_at "w"))
local macro_rules | `(tactic| walk_at "i") => `(tactic| ((walk_at "w") <;> (refine ⟨trivial, by first | exact .inl rfl | exact .inr (.inl rfl) | exact .inr (.inr (.inl rfl)) | exact .inr (.inr (.inr (.inl rfl))) | exact .inr (.inr (.inr (.inr (.inl rfl)))), ?_⟩)))
section
variable {P : Program} {w : World} {K : W.Frag} {mg : Str → Option Value} {base : Heap} {A : Ad}
/-- rows in a tuple -/
def S_rowsT (A : Ad) : SpD := fun ds M q => ∃ p rows st, ds = [.ptr p, .tup rows] ∧ M p = some (.ins A.Steps []) ∧ Rows st rows ∧ rows.length ≤ sizeLine ∧ q .non (M.put p (.ins A.Steps [("rows", .lst (st.map encS))]))
theorem ok_Steps___init__T (T : Txt K mg A) : MkAt P w K mg base 1 "Steps" A.Steps (S_rowsT A) [] := by
  refine mkAt_of T.F_Steps___init__ sc_Steps___init__ (fun ds M q h => by first | (obtain ⟨e, _⟩ := h; rw [e]; rfl) | (obtain ⟨_, e, _⟩ := h; rw [e]; rfl) | (obtain ⟨_, _, e, _⟩ := h; rw [e]; rfl) | (obtain ⟨_, _, _, e, _⟩ := h; rw [e]; rfl) | (obtain ⟨_, _, _, _, e, _⟩ := h; rw [e]; rfl) | (obtain ⟨_, _, _, _, _, e, _⟩ := h; rw [e]; rfl) | (obtain ⟨_, _, _, _, _, _, e, _⟩ := h; rw [e]; rfl) | (obtain ⟨_, _, _, _, _, _, _, e, _⟩ := h; rw [e]; rfl) | (obtain ⟨_, _, _, _, _, _, _, _, e, _⟩ := h; rw [e]; rfl) | (obtain ⟨_, _, _, _, _, _, _, _, _, e, _⟩ := h; rw [e]; rfl) | (obtain ⟨_, _, _, _, _, _, _, _, _, _, e, _⟩ := h; rw [e]; rfl) | (obtain ⟨_, _, _, _, _, _, _, _, _, _, _, e, _⟩ := h; rw [e]; rfl)) ?_
  intro f cdv A' outer s H E hr
  have S := sc_Steps___init__
  have hu := hr.units
  have hu1 := Nat.lt_of_le_of_lt (Nat.add_le_add_left (by decide : 1 ≤ 64) _) hu
  refine ⟨_, _, (pdb_one (pds_setF (pd_var 0) (pd_lc (own := [("row", 2)]) rfl S.nd (pi_t (pd_var 1)) (blkOk_by (N := ["self", "rows", "row"]) (sc := (defScope (mtop 30 0))) (by decide +kernel)) (fun _ _ _ _ _ => (pg_name (i := 2) S.nd rfl (Or.inl rfl))) pdgc_1 (fun _ _ _ _ _ => blkT pdts_nil (by first | dsimp only | exact rfl) (by first | dsimp only | exact rfl)) fun _ _ _ _ _ => blkE (pd_callTy pc_tuple rfl T.n_tuple (by decide +kernel) (pda_cons (pd_var 2) pda_nil)) (by first | dsimp only | exact rfl) (by first | dsimp only | exact rfl)))), fun ds M q h => ?_⟩
  obtain ⟨p, rows, st, rfl, hM, hR, hz, hq⟩ := h
  walk_at "w"
  refine ⟨hz, fun p1 hp1 => ?_⟩
  have ne1 : p ≠ p1 := fun e => by rw [← e, hM] at hp1; cases hp1
  refine lc_by (fun rest acc M' => M' = M ∧ ∃ s1 s2, st = s1 ++ s2 ∧ Rows s2 rest ∧ acc = s1.map encS) ?_ ?_ _ _ _ ⟨rfl, [], st, rfl, hR, rfl⟩
  · rintro acc M' ⟨rfl, s1, s2, e, hr, rfl⟩
    cases hr
    rw [List.append_nil] at e
    subst e
    walk_at "w"
    rw [hM]
    refine ⟨T.d_Steps, T.na_rows, (by decide), ?_⟩
    exact .of hq
  · rintro d ds acc M' ⟨rfl, s1, s2, e, hr, rfl⟩ ih
    cases hr with
    | @cons s _ ss _ h1 h2 =>
      obtain ⟨xs, ex, hd⟩ := h1
      have fin : ∃ M5 : Mem, M5 p1 = none ∧ M'.put p1 (.lst (s1.map encS)) = M5.put p1 (.lst (s1.map encS)) ∧ lcL _ _ _ _ _ p1 ds (s1.map encS ++ [.tup xs]) M5 := ⟨M', hp1, rfl, ih _ _ ⟨rfl, s1 ++ [s], ss, by rw [e, List.append_assoc]; rfl, h2, by rw [List.map_append]; show _ = _ ++ [encS s]; rw [ex]⟩⟩
      rcases hd with rfl | rfl
      · walk_at "w"
        exact fin
      · walk_at "w"
        exact fin
def S_ofT (A : Ad) : SpD := fun ds M q => ∃ rows t, ds = [.tup rows] ∧ Rows (stepsT t) rows ∧ (GoodT t ∧ t.deep ≤ 16) ∧ q (frmD A.Formula t) M
theorem sc_Formula_of : FnScope ["steps"] ["steps"] (defScope (mtop 32 1)) := ⟨rfl, rfl, rfl, by decide +kernel, rfl, by decide +kernel, by decide +kernel⟩
theorem ok_Formula_of (T : Txt K mg A)(G_Steps : MkAt P w K mg base 1 "Steps" A.Steps (S_rowsT A) []) (G_Formula : MkAt P w K mg base 6 "Formula" A.Formula (S_init A) []) : SmAt2 P w K mg base 8 A.Formula "of" "steps" (S_ofT A) := by
  refine smAt2_of T.F_Formula_of sc_Formula_of (fun ds M q h => by first | (obtain ⟨e, _⟩ := h; rw [e]; rfl) | (obtain ⟨_, e, _⟩ := h; rw [e]; rfl) | (obtain ⟨_, _, e, _⟩ := h; rw [e]; rfl) | (obtain ⟨_, _, _, e, _⟩ := h; rw [e]; rfl) | (obtain ⟨_, _, _, _, e, _⟩ := h; rw [e]; rfl) | (obtain ⟨_, _, _, _, _, e, _⟩ := h; rw [e]; rfl) | (obtain ⟨_, _, _, _, _, _, e, _⟩ := h; rw [e]; rfl) | (obtain ⟨_, _, _, _, _, _, _, e, _⟩ := h; rw [e]; rfl) | (obtain ⟨_, _, _, _, _, _, _, _, e, _⟩ := h; rw [e]; rfl) | (obtain ⟨_, _, _, _, _, _, _, _, _, e, _⟩ := h; rw [e]; rfl) | (obtain ⟨_, _, _, _, _, _, _, _, _, _, e, _⟩ := h; rw [e]; rfl) | (obtain ⟨_, _, _, _, _, _, _, _, _, _, _, e, _⟩ := h; rw [e]; rfl)) ?_
  intro f cdv A' outer s H E hr
  have S := sc_Formula_of
  have hu := hr.units
  have hu1 := Nat.lt_of_le_of_lt (Nat.add_le_add_left (by decide : 1 ≤ 64) _) hu
  refine ⟨_, _, (pdb_one (pds_ret (pd_make G_Formula (fun _ => .nil) (hr.mono (by omega)) rfl (pda_cons (pd_make G_Steps (fun _ => .nil) (hr.mono (by omega)) rfl (pda_cons (pd_var 0) pda_nil)) pda_nil)))), fun ds M q h => ?_⟩
  obtain ⟨rows, t, rfl, hR, ⟨ok, hd⟩, hq⟩ := h
  have hsz := sz_le hd
  have hsl := steps_len t
  have hlen : ∀ {ss : List Step} {ds : List D}, Rows ss ds → ds.length = ss.length := by
    intro ss ds h
    induction h with
    | nil => rfl
    | cons _ _ ih => simp only [List.length_cons, ih]
  walk_at "w"
  intro p hp
  refine ⟨p, rows, stepsT t, rfl, Mem.put_same, hR, by rw [hlen hR]; unfold sizeLine; omega, ?_⟩
  refine ⟨rfl, .inl ⟨_, M, hp, by rw [Mem.put_put], ?_⟩⟩
  walk_at "w"
  intro p2 hp2
  refine ⟨p2, _, t, rfl, Mem.put_same, ok, hd, .inr rfl, ?_⟩
  refine ⟨rfl, .inl ⟨_, M, hp2, by rw [Mem.put_put], ?_⟩⟩
  exact .of hq
end
end D2

set_option maxRecDepth 100000
set_option maxHeartbeats 2000000
set_option pp.maxSteps 400
set_option pp.deepTerms false
namespace D2
open PySem PySem.Spec PyProof.Rows L2
local macro_rules | `(tactic| walk_at "wp") => `(tactic| conv => whnf)
local macro_rules | `(tactic| walk_at "w") => `(tactic| (conv => whnf) <;> repeat ((first | rw [seqD_ptr Mem.put_same] | rw [atI_zero] | rw [lstD_ptr Mem.put_same] | rw [dctD_ptr Mem.put_same] | rw [objD_ptr Mem.put_same] | rw [Mem.put_same]); conv => whnf))
local macro_rules | `(tactic| walk_at "v") => `(tactic| (conv => whnf) <;> repeat ((first | rw [seqD_ptr Mem.put_same] | rw [atI_zero] | rw [Mem.put_same] | rw [seqD_ptr (Mem.at2 (by assumption))] | rw [Mem.at2 (by assumption)]); conv => whnf))
local macro_rules | `(tactic| walk_at "a") => `(tactic| (walk_at "w") <;> repeat (refine ⟨(by first | exact mulR ⟨by omega, by omega⟩ | exact mulL ⟨by omega, by omega⟩ | (show (0 : Int) < _; omega) | exact ⟨by omega, by decide +kernel⟩ | exact ⟨by decide, by decide, by decide⟩), ?_⟩ <;> walk_at "w"))
local macro_rules | `(tactic| walk_at "i") => `(tactic| ((walk_at "w") <;> (refine ⟨trivial, by first | exact .inl rfl | exact .inr (.inl rfl) | exact .inr (.inr (.inl rfl)) | exact .inr (.inr (.inr (.inl rfl))) | exact .inr (.inr (.inr (.inr (.inl rfl)))), ?_⟩)))
section
variable {P : Program} {w : World} {K : W.Frag} {mg : Str → Option Value} {base : Heap} {A : Ad}
def S_namesF (A : Ad) : SpD := fun ds M q => ∃ t, ds = [frmD A.Formula t] ∧ t.deep ≤ 16 ∧ q (.lst ((namesT t).map .str)) M
theorem sc_Formula_names : FnScope ["self", "found", "step"] ["self"] (defScope (mtop 32 2)) := ⟨rfl, rfl, rfl, by decide +kernel, rfl, by decide +kernel, by decide +kernel⟩
theorem ok_Formula_names (T : Txt K mg A) : MtAt P w K mg base 1 A.Formula "names" (S_namesF A) := by
  refine mtAt_of T.F_Formula_names sc_Formula_names (fun ds M q h => by first | (obtain ⟨e, _⟩ := h; rw [e]; rfl) | (obtain ⟨_, e, _⟩ := h; rw [e]; rfl) | (obtain ⟨_, _, e, _⟩ := h; rw [e]; rfl) | (obtain ⟨_, _, _, e, _⟩ := h; rw [e]; rfl) | (obtain ⟨_, _, _, _, e, _⟩ := h; rw [e]; rfl) | (obtain ⟨_, _, _, _, _, e, _⟩ := h; rw [e]; rfl) | (obtain ⟨_, _, _, _, _, _, e, _⟩ := h; rw [e]; rfl) | (obtain ⟨_, _, _, _, _, _, _, e, _⟩ := h; rw [e]; rfl) | (obtain ⟨_, _, _, _, _, _, _, _, e, _⟩ := h; rw [e]; rfl) | (obtain ⟨_, _, _, _, _, _, _, _, _, e, _⟩ := h; rw [e]; rfl) | (obtain ⟨_, _, _, _, _, _, _, _, _, _, e, _⟩ := h; rw [e]; rfl) | (obtain ⟨_, _, _, _, _, _, _, _, _, _, _, e, _⟩ := h; rw [e]; rfl)) ?_
  intro f cdv A' outer s H E hr
  have S := sc_Formula_names
  have hu := hr.units
  have hu1 := Nat.lt_of_le_of_lt (Nat.add_le_add_left (by decide : 1 ≤ 64) _) hu
  refine ⟨_, _, (pdb_cons (pds_setDc (i := 1) rfl S.nd rfl rfl (swD rfl rfl rfl (by decide +kernel)) (own := [("step", 2)]) (pi_l (pd_fld (pd_var 0))) (blkOk_by (N := ["self", "found", "step"]) (sc := (defScope (mtop 32 2))) (by decide +kernel)) (fun _ _ _ _ _ => (pg_name (i := 2) S.nd rfl (Or.inl rfl))) pdgc_1 (fun _ _ _ _ _ => blkT (pdts_one (pdt_cmp (po_eq hu) (pd_ix (pd_var 2) pd_int fun _ _ => rfl) pd_str (nomark _))) (by first | dsimp only | exact rfl) (by first | dsimp only | exact rfl)) (fun _ _ _ _ _ => blkE (pd_ix (pd_var 2) pd_int fun _ _ => rfl) (by first | dsimp only | exact rfl) (by first | dsimp only | exact rfl)) (fun _ _ _ _ _ => blkE pd_bl (by first | dsimp only | exact rfl) (by first | dsimp only | exact rfl)))
      (pdb_one (pds_ret (pd_callTy (pc_listD rfl) rfl T.n_list (by decide +kernel) (pda_cons (pd_var 1) pda_nil))))), fun ds M q h => ?_⟩
  obtain ⟨t, rfl, hd, hq⟩ := h
  have hsz := sz_le hd
  have hsl := steps_len t
  walk_at "w"
  refine ⟨T.d_Formula, T.na_steps, ?_⟩
  walk_at "w"
  refine ⟨by rw [List.length_map]; unfold sizeLine; omega, fun p hp => ?_⟩
  refine dc_by (fun rest acc M' => M' = M ∧ ∃ (r : List Step) (L : List Str), rest = r.map encS ∧ acc = nmD L ∧ namesS r L = namesT t) ?_ ?_ _ _ _ ⟨rfl, stepsT t, [], rfl, rfl, names_steps t⟩
  · rintro acc M' ⟨rfl, r, L, e, rfl, hL⟩
    have hr0 : r = [] := by cases r with
      | nil => rfl
      | cons => cases e
    subst hr0
    have hL' : L = namesT t := hL
    subst hL'
    walk_at "w"
    rw [nm_keys]
    exact .of hq
  · rintro d ds acc M' ⟨rfl, r, L, e, rfl, hL⟩ ih
    cases r with
    | nil => cases e
    | cons s r =>
      cases e
      cases s with
      | name x =>
        walk_at "w"
        refine ⟨M', hp, rfl, ih _ _ ⟨rfl, r, addN L x, rfl, put_nm L x, hL⟩⟩
      | bin o =>
        have ho : (o.tok = ("name" : Str)) = False := by cases o <;> exact eq_false (by decide)
        walk_at "w"
        refine wite_d (fun z => by rw [ho] at z; exact z.elim) fun _ => ?_
        exact ⟨M', hp, rfl, ih _ _ ⟨rfl, r, L, rfl, rfl, hL⟩⟩
      | _ =>
        walk_at "w"
        exact ⟨M', hp, rfl, ih _ _ ⟨rfl, r, L, rfl, rfl, hL⟩⟩
end
end D2

set_option maxRecDepth 100000
set_option maxHeartbeats 2000000
set_option pp.maxSteps 400
set_option pp.deepTerms false
namespace D2
open PySem PySem.Spec PyProof.Rows L2
local macro_rules | `(tactic| walk_at "wp") => `(tactic| conv => whnf)
local macro_rules | `(tactic| walk_at "w") => `(tactic| (conv => whnf) <;> repeat ((first | rw [seqD_ptr Mem.put_same] | rw [atI_zero] | rw [lstD_ptr Mem.put_same] | rw [dctD_ptr Mem.put_same] | rw [objD_ptr Mem.put_same] | rw [Mem.put_same]); conv => whnf))
local macro_rules | `(tactic| walk_at "v") => `(tactic| (conv => whnf) <;> repeat ((first | rw [seqD_ptr Mem.put_same] | rw [atI_zero] | rw [Mem.put_same] | rw [seqD_ptr (Mem.at2 (by assumption))] | rw [Mem.at2 (by assumption)]); conv => whnf))
local macro_rules | `(tactic| walk_at "a") => `(tactic| (walk_at "w") <;> repeat (refine ⟨(by first | exact mulR ⟨by omega, by omega⟩ | exact mulL ⟨by omega, by omega⟩ | (show (0 : Int) < _; omega) | exact ⟨by omega, by decide +kernel⟩ | exact ⟨by decide, by decide, by decide⟩), ?_⟩ <;> walk_at "w"))
local macro_rules | `(tactic| walk_at "i") => `(tactic| ((walk_at "w") <;> (refine ⟨trivial, by first | exact .inl rfl | exact .inr (.inl rfl) | exact .inr (.inr (.inl rfl)) | exact .inr (.inr (.inr (.inl rfl))) | exact .inr (.inr (.inr (.inr (.inl rfl)))), ?_⟩)))
section
variable {P : Program} {w : World} {K : W.Frag} {mg : Str → Option Value} {base : Heap} {A : Ad}
/-- a new list that may be changed -/
def S_stepsP (A : Ad) : SpD := fun ds M q => ∃ t, ds = [frmD A.Formula t] ∧ ∀ p, M p = none → q (.ptr p) (M.put p (.lst ((stepsT t).map encS)))
theorem ok_Formula_stepsP (T : Txt K mg A) : MtAt P w K mg base 1 A.Formula "steps" (S_stepsP A) := by
  refine mtAt_of T.F_Formula_steps sc_Formula_steps (fun ds M q h => by first | (obtain ⟨e, _⟩ := h; rw [e]; rfl) | (obtain ⟨_, e, _⟩ := h; rw [e]; rfl) | (obtain ⟨_, _, e, _⟩ := h; rw [e]; rfl) | (obtain ⟨_, _, _, e, _⟩ := h; rw [e]; rfl) | (obtain ⟨_, _, _, _, e, _⟩ := h; rw [e]; rfl) | (obtain ⟨_, _, _, _, _, e, _⟩ := h; rw [e]; rfl) | (obtain ⟨_, _, _, _, _, _, e, _⟩ := h; rw [e]; rfl) | (obtain ⟨_, _, _, _, _, _, _, e, _⟩ := h; rw [e]; rfl) | (obtain ⟨_, _, _, _, _, _, _, _, e, _⟩ := h; rw [e]; rfl) | (obtain ⟨_, _, _, _, _, _, _, _, _, e, _⟩ := h; rw [e]; rfl) | (obtain ⟨_, _, _, _, _, _, _, _, _, _, e, _⟩ := h; rw [e]; rfl) | (obtain ⟨_, _, _, _, _, _, _, _, _, _, _, e, _⟩ := h; rw [e]; rfl)) ?_
  intro f cdv A' outer s H E hr
  have S := sc_Formula_steps
  have hu := hr.units
  have hu1 := Nat.lt_of_le_of_lt (Nat.add_le_add_left (by decide : 1 ≤ 64) _) hu
  refine ⟨_, _, (pdb_one (pds_ret (pd_lsP rfl rfl T.n_list (pd_fld (pd_var 0))))), fun ds M q h => ?_⟩
  obtain ⟨t, rfl, hq⟩ := h
  walk_at "w"
  refine ⟨T.d_Formula, T.na_steps, ?_⟩
  walk_at "w"
  intro p hp
  exact .of (hq p hp)
def S_namesP (A : Ad) : SpD := fun ds M q => ∃ t, ds = [frmD A.Formula t] ∧ t.deep ≤ 16 ∧ ∀ p, M p = none → q (.ptr p) (M.put p (.lst ((namesT t).map .str)))
theorem ok_Formula_namesP (T : Txt K mg A) : MtAt P w K mg base 1 A.Formula "names" (S_namesP A) := by
  refine mtAt_of T.F_Formula_names sc_Formula_names (fun ds M q h => by first | (obtain ⟨e, _⟩ := h; rw [e]; rfl) | (obtain ⟨_, e, _⟩ := h; rw [e]; rfl) | (obtain ⟨_, _, e, _⟩ := h; rw [e]; rfl) | (obtain ⟨_, _, _, e, _⟩ := h; rw [e]; rfl) | (obtain ⟨_, _, _, _, e, _⟩ := h; rw [e]; rfl) | (obtain ⟨_, _, _, _, _, e, _⟩ := h; rw [e]; rfl) | (obtain ⟨_, _, _, _, _, _, e, _⟩ := h; rw [e]; rfl) | (obtain ⟨_, _, _, _, _, _, _, e, _⟩ := h; rw [e]; rfl) | (obtain ⟨_, _, _, _, _, _, _, _, e, _⟩ := h; rw [e]; rfl) | (obtain ⟨_, _, _, _, _, _, _, _, _, e, _⟩ := h; rw [e]; rfl) | (obtain ⟨_, _, _, _, _, _, _, _, _, _, e, _⟩ := h; rw [e]; rfl) | (obtain ⟨_, _, _, _, _, _, _, _, _, _, _, e, _⟩ := h; rw [e]; rfl)) ?_
  intro f cdv A' outer s H E hr
  have S := sc_Formula_names
  have hu := hr.units
  have hu1 := Nat.lt_of_le_of_lt (Nat.add_le_add_left (by decide : 1 ≤ 64) _) hu
  refine ⟨_, _, (pdb_cons (pds_setDc (i := 1) rfl S.nd rfl rfl (swD rfl rfl rfl (by decide +kernel)) (own := [("step", 2)]) (pi_l (pd_fld (pd_var 0))) (blkOk_by (N := ["self", "found", "step"]) (sc := (defScope (mtop 32 2))) (by decide +kernel)) (fun _ _ _ _ _ => (pg_name (i := 2) S.nd rfl (Or.inl rfl))) pdgc_1 (fun _ _ _ _ _ => blkT (pdts_one (pdt_cmp (po_eq hu) (pd_ix (pd_var 2) pd_int fun _ _ => rfl) pd_str (nomark _))) (by first | dsimp only | exact rfl) (by first | dsimp only | exact rfl)) (fun _ _ _ _ _ => blkE (pd_ix (pd_var 2) pd_int fun _ _ => rfl) (by first | dsimp only | exact rfl) (by first | dsimp only | exact rfl)) (fun _ _ _ _ _ => blkE pd_bl (by first | dsimp only | exact rfl) (by first | dsimp only | exact rfl)))
      (pdb_one (pds_ret (pd_lsDP rfl rfl T.n_list (pd_var 1))))), fun ds M q h => ?_⟩
  obtain ⟨t, rfl, hd, hq⟩ := h
  have hsz := sz_le hd
  have hsl := steps_len t
  walk_at "w"
  refine ⟨T.d_Formula, T.na_steps, ?_⟩
  walk_at "w"
  refine ⟨by rw [List.length_map]; unfold sizeLine; omega, fun p hp => ?_⟩
  refine dc_by (fun rest acc M' => M' = M ∧ ∃ (r : List Step) (L : List Str), rest = r.map encS ∧ acc = nmD L ∧ namesS r L = namesT t) ?_ ?_ _ _ _ ⟨rfl, stepsT t, [], rfl, rfl, names_steps t⟩
  · rintro acc M' ⟨rfl, r, L, e, rfl, hL⟩
    have hr0 : r = [] := by cases r with
      | nil => rfl
      | cons => cases e
    subst hr0
    have hL' : L = namesT t := hL
    subst hL'
    walk_at "w"
    intro p2 hp2
    rw [nm_keys]
    exact .of (hq p2 hp2)
  · rintro d ds acc M' ⟨rfl, r, L, e, rfl, hL⟩ ih
    cases r with
    | nil => cases e
    | cons s r =>
      cases e
      cases s with
      | name x =>
        walk_at "w"
        refine ⟨M', hp, rfl, ih _ _ ⟨rfl, r, addN L x, rfl, put_nm L x, hL⟩⟩
      | bin o =>
        have ho : (o.tok = ("name" : Str)) = False := by cases o <;> exact eq_false (by decide)
        walk_at "w"
        refine wite_d (fun z => by rw [ho] at z; exact z.elim) fun _ => ?_
        exact ⟨M', hp, rfl, ih _ _ ⟨rfl, r, L, rfl, rfl, hL⟩⟩
      | _ =>
        walk_at "w"
        exact ⟨M', hp, rfl, ih _ _ ⟨rfl, r, L, rfl, rfl, hL⟩⟩
end
end D2

set_option maxRecDepth 100000
set_option maxHeartbeats 2000000
set_option pp.maxSteps 400
set_option pp.deepTerms false
namespace D2
open PySem PySem.Spec PyProof.Rows L2
local macro_rules | `(tactic| walk_at "wp") => `(tactic| conv => whnf)
local macro_rules | `(tactic| walk_at "w") => `(tactic| (conv => whnf) <;> repeat ((first | rw [seqD_ptr Mem.put_same] | rw [atI_zero] | rw [lstD_ptr Mem.put_same] | rw [dctD_ptr Mem.put_same] | rw [objD_ptr Mem.put_same] | rw [Mem.put_same]); conv => whnf))
local macro_rules | `(tactic| walk_at "v") => `(tactic| (conv => whnf) <;> repeat ((first | rw [seqD_ptr Mem.put_same] | rw [atI_zero] | rw [Mem.put_same] | rw [seqD_ptr (Mem.at2 (by assumption))] | rw [Mem.at2 (by assumption)]); conv => whnf))
local macro_rules | `(tactic| walk_at "a") => `(tactic| (walk_at "w") <;> repeat (refine ⟨(by first | exact mulR ⟨by omega, by omega⟩ | exact mulL ⟨by omega, by omega⟩ | (show (0 : Int) < _; omega) | exact ⟨by omega, by decide +kernel⟩ | exact ⟨by decide, by decide, by decide⟩), ?_⟩ <;> walk_at "w"))
local macro_rules | `(tactic| walk_at "i") => `(tactic| ((walk_at "w") <;> (refine ⟨trivial, by first | exact .inl rfl | exact .inr (.inl rfl) | exact .inr (.inr (.inl rfl)) | exact .inr (.inr (.inr (.inl rfl))) | exact .inr (.inr (.inr (.inr (.inl rfl)))), ?_⟩)))
section
variable {P : Program} {w : World} {K : W.Frag} {mg : Str → Option Value} {base : Heap} {A : Ad}
def S_rowsP (A : Ad) : SpD := fun ds M q => ∃ p a rows st, ds = [.ptr p, .ptr a] ∧ M p = some (.ins A.Steps []) ∧ M a = some (.lst rows) ∧ Rows st rows ∧ rows.length ≤ sizeLine ∧ q .non (M.put p (.ins A.Steps [("rows", .lst (st.map encS))]))
theorem ok_Steps___init__P (T : Txt K mg A) : MkAt P w K mg base 1 "Steps" A.Steps (S_rowsP A) [] := by
  refine mkAt_of T.F_Steps___init__ sc_Steps___init__ (fun ds M q h => by first | (obtain ⟨e, _⟩ := h; rw [e]; rfl) | (obtain ⟨_, e, _⟩ := h; rw [e]; rfl) | (obtain ⟨_, _, e, _⟩ := h; rw [e]; rfl) | (obtain ⟨_, _, _, e, _⟩ := h; rw [e]; rfl) | (obtain ⟨_, _, _, _, e, _⟩ := h; rw [e]; rfl) | (obtain ⟨_, _, _, _, _, e, _⟩ := h; rw [e]; rfl) | (obtain ⟨_, _, _, _, _, _, e, _⟩ := h; rw [e]; rfl) | (obtain ⟨_, _, _, _, _, _, _, e, _⟩ := h; rw [e]; rfl) | (obtain ⟨_, _, _, _, _, _, _, _, e, _⟩ := h; rw [e]; rfl) | (obtain ⟨_, _, _, _, _, _, _, _, _, e, _⟩ := h; rw [e]; rfl) | (obtain ⟨_, _, _, _, _, _, _, _, _, _, e, _⟩ := h; rw [e]; rfl) | (obtain ⟨_, _, _, _, _, _, _, _, _, _, _, e, _⟩ := h; rw [e]; rfl)) ?_
  intro f cdv A' outer s H E hr
  have S := sc_Steps___init__
  have hu := hr.units
  have hu1 := Nat.lt_of_le_of_lt (Nat.add_le_add_left (by decide : 1 ≤ 64) _) hu
  refine ⟨_, _, (pdb_one (pds_setF (pd_var 0) (pd_lcP (own := [("row", 2)]) rfl S.nd (pi_p (pd_var 1)) (blkOk_by (N := ["self", "rows", "row"]) (sc := (defScope (mtop 30 0))) (by decide +kernel)) (fun _ _ _ _ _ => (pg_name (i := 2) S.nd rfl (Or.inl rfl))) pdgc_1 (fun _ _ _ _ _ => blkT pdts_nil (by first | dsimp only | exact rfl) (by first | dsimp only | exact rfl)) fun _ _ _ _ _ => blkE (pd_callTy pc_tuple rfl T.n_tuple (by decide +kernel) (pda_cons (pd_var 2) pda_nil)) (by first | dsimp only | exact rfl) (by first | dsimp only | exact rfl)))), fun ds M q h => ?_⟩
  obtain ⟨p, a, rows, st, rfl, hM, hA, hR, hz, hq⟩ := h
  walk_at "w"
  rw [hA]
  walk_at "w"
  refine ⟨hz, fun p1 hp1 => ?_⟩
  have ne1 : p ≠ p1 := fun e => by rw [← e, hM] at hp1; cases hp1
  have ne2 : a ≠ p1 := fun e => by rw [← e, hA] at hp1; cases hp1
  refine lcP_by (fun rest acc M' => M' = M ∧ ∃ s1 s2, st = s1 ++ s2 ∧ Rows s2 rest ∧ acc = s1.map encS) (fun _ _ _ h => h.1 ▸ hA) ?_ ?_ _ _ _ ⟨rfl, [], st, rfl, hR, rfl⟩
  · rintro acc M' ⟨rfl, s1, s2, e, hr, rfl⟩
    cases hr
    rw [List.append_nil] at e
    subst e
    walk_at "w"
    rw [hM]
    refine ⟨T.d_Steps, T.na_rows, (by decide), ?_⟩
    exact .of hq
  · rintro d ds acc M' ⟨rfl, s1, s2, e, hr, rfl⟩ ih
    cases hr with
    | @cons s _ ss _ h1 h2 =>
      obtain ⟨xs, ex, hd⟩ := h1
      have fin : ∃ M5 : Mem, M5 p1 = none ∧ M'.put p1 (.lst (s1.map encS)) = M5.put p1 (.lst (s1.map encS)) ∧ lcLP _ _ _ _ _ _ _ p1 ds (s1.map encS ++ [.tup xs]) M5 := ⟨M', hp1, rfl, ih _ _ ⟨rfl, s1 ++ [s], ss, by rw [e, List.append_assoc]; rfl, h2, by rw [List.map_append]; show _ = _ ++ [encS s]; rw [ex]⟩⟩
      rcases hd with rfl | rfl
      · walk_at "w"
        exact fin
      · walk_at "w"
        exact fin
def S_ofP (A : Ad) : SpD := fun ds M q => ∃ a rows t, ds = [.ptr a] ∧ M a = some (.lst rows) ∧ Rows (stepsT t) rows ∧ (GoodT t ∧ t.deep ≤ 16) ∧ q (frmD A.Formula t) M
theorem rows_len {ss : List Step} {ds : List D} (h : Rows ss ds) : ds.length = ss.length := by
  induction h with
  | nil => rfl
  | cons _ _ ih => simp only [List.length_cons, ih]
theorem ok_Formula_ofP (T : Txt K mg A)(G_Steps : MkAt P w K mg base 1 "Steps" A.Steps (S_rowsP A) []) (G_Formula : MkAt P w K mg base 6 "Formula" A.Formula (S_init A) []) : SmAt2 P w K mg base 8 A.Formula "of" "steps" (S_ofP A) := by
  refine smAt2_of T.F_Formula_of sc_Formula_of (fun ds M q h => by first | (obtain ⟨e, _⟩ := h; rw [e]; rfl) | (obtain ⟨_, e, _⟩ := h; rw [e]; rfl) | (obtain ⟨_, _, e, _⟩ := h; rw [e]; rfl) | (obtain ⟨_, _, _, e, _⟩ := h; rw [e]; rfl) | (obtain ⟨_, _, _, _, e, _⟩ := h; rw [e]; rfl) | (obtain ⟨_, _, _, _, _, e, _⟩ := h; rw [e]; rfl) | (obtain ⟨_, _, _, _, _, _, e, _⟩ := h; rw [e]; rfl) | (obtain ⟨_, _, _, _, _, _, _, e, _⟩ := h; rw [e]; rfl) | (obtain ⟨_, _, _, _, _, _, _, _, e, _⟩ := h; rw [e]; rfl) | (obtain ⟨_, _, _, _, _, _, _, _, _, e, _⟩ := h; rw [e]; rfl) | (obtain ⟨_, _, _, _, _, _, _, _, _, _, e, _⟩ := h; rw [e]; rfl) | (obtain ⟨_, _, _, _, _, _, _, _, _, _, _, e, _⟩ := h; rw [e]; rfl)) ?_
  intro f cdv A' outer s H E hr
  have S := sc_Formula_of
  have hu := hr.units
  have hu1 := Nat.lt_of_le_of_lt (Nat.add_le_add_left (by decide : 1 ≤ 64) _) hu
  refine ⟨_, _, (pdb_one (pds_ret (pd_make G_Formula (fun _ => .nil) (hr.mono (by omega)) rfl (pda_cons (pd_make G_Steps (fun _ => .nil) (hr.mono (by omega)) rfl (pda_cons (pd_var 0) pda_nil)) pda_nil)))), fun ds M q h => ?_⟩
  obtain ⟨a, rows, t, rfl, hA, hR, ⟨ok, hd⟩, hq⟩ := h
  have hsz := sz_le hd
  have hsl := steps_len t
  walk_at "w"
  intro p hp
  have ne1 : a ≠ p := fun e => by rw [← e, hA] at hp; cases hp
  refine ⟨p, a, rows, stepsT t, rfl, Mem.put_same, by rw [Mem.put_ne ne1]; exact hA, hR, by rw [rows_len hR]; unfold sizeLine; omega, ?_⟩
  refine ⟨rfl, .inl ⟨_, M, hp, by rw [Mem.put_put], ?_⟩⟩
  walk_at "w"
  intro p2 hp2
  refine ⟨p2, _, t, rfl, Mem.put_same, ok, hd, .inr rfl, ?_⟩
  refine ⟨rfl, .inl ⟨_, M, hp2, by rw [Mem.put_put], ?_⟩⟩
  exact .of hq
/-- formulas by names -/
def dctF (C : Addr) (es : List (Str × Tr)) : List (Key × D) := es.map fun e => (.inr e.1, frmD C e.2)
def S_putF (A : Ad) : SpD := fun ds M q => ∃ t x es, ds = [frmD A.Formula t, x] ∧ dctD M x = some (dctF A.Formula es) ∧ (GoodT t ∧ t.deep ≤ 7) ∧ (∀ e ∈ es, GoodT e.2 ∧ e.2.deep ≤ 7) ∧ es.length ≤ 1000 ∧ q (frmD A.Formula (putT (fun x => es.lookup x) t)) M
end
end D2

set_option maxRecDepth 100000
set_option maxHeartbeats 2000000
set_option pp.maxSteps 400
set_option pp.deepTerms false
namespace D2
open PySem PySem.Spec PyProof.Rows L2
local macro_rules | `(tactic| walk_at "wp") => `(tactic| conv => whnf)
local macro_rules | `(tactic| walk_at "w") => `(tactic| (conv => whnf) <;> repeat ((first | rw [seqD_ptr Mem.put_same] | rw [atI_zero] | rw [lstD_ptr Mem.put_same] | rw [dctD_ptr Mem.put_same] | rw [objD_ptr Mem.put_same] | rw [Mem.put_same]); conv => whnf))
local macro_rules | `(tactic| walk_at "v") => `(tactic| (conv => whnf) <;> repeat ((first | rw [seqD_ptr Mem.put_same] | rw [atI_zero] | rw [Mem.put_same] | rw [seqD_ptr (Mem.at2 (by assumption))] | rw [Mem.at2 (by assumption)]); conv => whnf))
local macro_rules | `(tactic| walk_at "a") => `(tactic| (walk_at "w") <;> repeat (refine ⟨(by first | exact mulR ⟨by omega, by omega⟩ | exact mulL ⟨by omega, by omega⟩ | (show (0 : Int) < _; omega) | exact ⟨by omega, by decide +kernel⟩ | exact ⟨by decide, by decide, by decide⟩), ?_⟩ <;> walk_at "w"))
local macro_rules | `(tactic| walk_at "i") => `(tactic| ((walk_at "w") <;> (refine ⟨trivial, by first | exact .inl rfl | exact .inr (.inl rfl) | exact .inr (.inr (.inl rfl)) | exact .inr (.inr (.inr (.inl rfl))) | exact .inr (.inr (.inr (.inr (.inl rfl)))), ?_⟩)))
section
variable {P : Program} {w : World} {K : W.Frag} {mg : Str → Option Value} {base : Heap} {A : Ad}
theorem dctD_put {M : Mem} {p : Addr} {m : MO} {x : D} {es : List (Key × D)} (h : dctD M x = some es) (hp : M p = none) : dctD (M.put p m) x = some es := by
  cases x with
  | ptr a =>
    have ne : a ≠ p := fun e => by
      have h' : (match M a with
        | some (.dct es) => some es
        | _ => none) = some es := h
      rw [e, hp] at h'
      cases h'
    show (match (M.put p m) a with
      | some (.dct es) => some es
      | _ => none) = some es
    rw [Mem.put_ne ne]
    exact h
  | _ => exact h
theorem lookup_mem {x : Str} {u : Tr} : ∀ {es : List (Str × Tr)}, es.lookup x = some u → (x, u) ∈ es
  | [], h => by cases h
  | (y, t) :: es, h => by
    rw [List.lookup_cons] at h
    by_cases e : (x == y) = true
    · rw [e] at h
      cases h
      rw [eq_of_beq e]
      exact List.mem_cons_self ..
    · have e' : (x == y) = false := by simpa using e
      rw [e'] at h
      exact List.mem_cons_of_mem _ (lookup_mem h)
theorem getKD_dctF (C : Addr) (es : List (Str × Tr)) (x : Str) : getKD (dctF C es) (.inr x) = (es.lookup x).map (frmD C) := by
  unfold getKD dctF
  induction es with
  | nil => rfl
  | cons e es ih =>
    obtain ⟨y, t⟩ := e
    rw [List.map_cons, List.find?_cons, List.lookup_cons]
    by_cases h : y = x
    · subst h
      simp
    · have h1 : decide ((Sum.inr y : Key) = Sum.inr x) = false := decide_eq_false fun z => h (Sum.inr.inj z)
      have h2 : (x == y) = false := by simpa using fun z => h z.symm
      simp only [h1, h2]
      exact ih
theorem rows_enc : ∀ ss : List Step, Rows ss (ss.map encS)
  | [] => .nil
  | s :: ss => by
    refine .cons ?_ (rows_enc ss)
    cases s <;> exact ⟨_, rfl, .inl rfl⟩
theorem sc_Formula_put : FnScope ["self", "formulas", "out", "step"] ["self", "formulas"] (defScope (mtop 32 5)) := ⟨rfl, rfl, rfl, by decide +kernel, rfl, by decide +kernel, by decide +kernel⟩
theorem ok_Formula_put (T : Txt K mg A)(G_steps : MtAt P w K mg base 1 A.Formula "steps" (S_stepsF A)) (G_Steps : MkAt P w K mg base 1 "Steps" A.Steps (S_rows A) []) (G_Formula : MkAt P w K mg base 6 "Formula" A.Formula (S_init A) []) : MtAt P w K mg base 8 A.Formula "put" (S_putF A) := by
  refine mtAt_of T.F_Formula_put sc_Formula_put (fun ds M q h => by first | (obtain ⟨e, _⟩ := h; rw [e]; rfl) | (obtain ⟨_, e, _⟩ := h; rw [e]; rfl) | (obtain ⟨_, _, e, _⟩ := h; rw [e]; rfl) | (obtain ⟨_, _, _, e, _⟩ := h; rw [e]; rfl) | (obtain ⟨_, _, _, _, e, _⟩ := h; rw [e]; rfl) | (obtain ⟨_, _, _, _, _, e, _⟩ := h; rw [e]; rfl) | (obtain ⟨_, _, _, _, _, _, e, _⟩ := h; rw [e]; rfl) | (obtain ⟨_, _, _, _, _, _, _, e, _⟩ := h; rw [e]; rfl) | (obtain ⟨_, _, _, _, _, _, _, _, e, _⟩ := h; rw [e]; rfl) | (obtain ⟨_, _, _, _, _, _, _, _, _, e, _⟩ := h; rw [e]; rfl) | (obtain ⟨_, _, _, _, _, _, _, _, _, _, e, _⟩ := h; rw [e]; rfl) | (obtain ⟨_, _, _, _, _, _, _, _, _, _, _, e, _⟩ := h; rw [e]; rfl)) ?_
  intro f cdv A' outer s H E hr
  have S := sc_Formula_put
  have hu := hr.units
  have hu1 := Nat.lt_of_le_of_lt (Nat.add_le_add_left (by decide : 1 ≤ 64) _) hu
  refine ⟨_, _, (pdb_cons (pds_set (i := 2) S.nd rfl (Or.inl rfl) (pd_lstP pda_nil))
      (pdb_cons (pds_for PassesOwn.never rfl (pi_l (pd_fld (pd_var 0))) (pdg_name (i := 3) S.nd rfl (Or.inl rfl)) (pdb_one (pds_expr (pd_ext (pd_var 2) (pd_if (PDW.pdt (pdt_and (pdt_cmp (po_eq hu) (pd_ix (pd_var 3) pd_int fun _ _ => rfl) pd_str (nomark _)) (pdt_and1 (pdt_din hu1 (pd_ix (pd_var 3) pd_int fun _ _ => rfl) (pd_var 1))))) (pd_meth0 G_steps (hr.mono (by omega)) (pd_dget hu1 (pd_var 1) (pd_ix (pd_var 3) pd_int fun _ _ => rfl) fun _ _ => rfl)) (pd_lst (pda_cons (pd_var 3) pda_nil)))))))
      (pdb_one (pds_ret (pd_make G_Formula (fun _ => .nil) (hr.mono (by omega)) rfl (pda_cons (pd_make G_Steps (fun _ => .nil) (hr.mono (by omega)) rfl (pda_cons (pd_frz (pd_var 2)) pda_nil)) pda_nil)))))), fun ds M q h => ?_⟩
  obtain ⟨t, x, es, rfl, hx, ⟨ok, hd⟩, hes, hlen, hq⟩ := h
  have hsz := sz_le (t := t) (by omega)
  have hsl := steps_len t
  have gf : ∀ (y : Str) u, es.lookup y = some u → GoodT u := fun y u h => (hes _ (lookup_mem h)).1
  have gd : ∀ (y : Str) u, es.lookup y = some u → u.deep ≤ 7 := fun y u h => (hes _ (lookup_mem h)).2
  have ok2 := good_put (f := fun x => es.lookup x) gf t ok
  have hd2 := deep_put (f := fun x => es.lookup x) (d := 7) gd t
  have hsz2 := sz_le (t := putT (fun x => es.lookup x) t) (by omega)
  have hsl2 := steps_len (putT (fun x => es.lookup x) t)
  have hst := steps_put (fun x => es.lookup x) t
  walk_at "w"
  refine ⟨(Nat.le_of_ble_eq_true rfl : _ ≤ sizeLine), fun p hp => ?_⟩
  have hx2 : ∀ m, dctD (M.put p m) x = some (dctF A.Formula es) := fun m => dctD_put hx hp
  walk_at "w"
  refine ⟨T.d_Formula, T.na_steps, ?_⟩
  walk_at "w"
  refine for_by (fun rest Γ M' => ∃ (s1 s2 : List Step) (v : Option D), stepsT t = s1 ++ s2 ∧ rest = s2.map encS ∧ Γ = [some (frmD A.Formula t), some x, some (.ptr p), v] ∧ M' = M.put p (.lst ((s1.flatMap (putS fun x => es.lookup x)).map encS))) ?_ ?_ _ _ _ ⟨[], stepsT t, none, rfl, rfl, rfl, rfl⟩
  · rintro Γ M' ⟨s1, s2, v, e, hr, rfl, rfl⟩
    have hs2 : s2 = [] := by cases s2 with
      | nil => rfl
      | cons => cases hr
    subst hs2
    rw [List.append_nil] at e
    rw [← e, ← hst]
    walk_at "w"
    rw [Mem.put_del hp]
    intro p2 hp2
    refine ⟨p2, _, stepsT (putT (fun x => es.lookup x) t), rfl, Mem.put_same, rows_enc _, by rw [List.length_map]; unfold sizeLine; omega, ?_⟩
    refine ⟨rfl, .inl ⟨_, M, hp2, by rw [Mem.put_put], ?_⟩⟩
    walk_at "w"
    intro p3 hp3
    refine ⟨p3, _, putT (fun x => es.lookup x) t, rfl, Mem.put_same, ok2, by omega, .inr rfl, ?_⟩
    refine ⟨rfl, .inl ⟨_, M, hp3, by rw [Mem.put_put], ?_⟩⟩
    exact .of hq
  · rintro d ds Γ M' ⟨s1, s2, v, e, hr, rfl, rfl⟩ ih
    cases s2 with
    | nil => cases hr
    | cons s s2 =>
      cases hr
      have hl1 : ((s1.flatMap (putS fun x => es.lookup x)).map encS).length + (putS (fun x => es.lookup x) s).length ≤ sizeLine := by
        have h1 : (stepsT (putT (fun x => es.lookup x) t)).length = ((s1 ++ s :: s2).flatMap (putS fun x => es.lookup x)).length := by rw [hst, e]
        rw [List.flatMap_append, List.flatMap_cons, List.length_append, List.length_append] at h1
        rw [List.length_map]
        unfold sizeLine
        omega
      have nx : ∀ add : List D, add = (putS (fun x => es.lookup x) s).map encS → ∃ (s1' s2' : List Step) (v : Option D), stepsT t = s1' ++ s2' ∧ s2.map encS = s2'.map encS ∧ [some (frmD A.Formula t), some x, some (.ptr p), some (encS s)] = [some (frmD A.Formula t), some x, some (.ptr p), v] ∧ (M.put p (.lst ((s1.flatMap (putS fun x => es.lookup x)).map encS))).put p (.lst ((s1.flatMap (putS fun x => es.lookup x)).map encS ++ add)) = M.put p (.lst ((s1'.flatMap (putS fun x => es.lookup x)).map encS)) := fun add ea => ⟨s1 ++ [s], s2, _, by rw [e, List.append_assoc]; rfl, rfl, rfl, by rw [Mem.put_put, List.flatMap_append, List.map_append, ea]; simp [List.flatMap_cons]⟩
      have nx2 : ∀ add : List D, add = (putS (fun x => es.lookup x) s).map encS → ((s1.flatMap (putS fun x => es.lookup x)).map encS).length + add.length ≤ sizeLine := fun add ea => by rw [ea, List.length_map (as := putS _ _)]; exact hl1
      have keep : ∀ m, (M.put p m) p = some m := fun m => Mem.put_same
      cases s with
      | name y =>
        walk_at "w"
        refine ⟨⟨_, rfl⟩, ?_⟩
        walk_at "w"
        rw [hx2]
        walk_at "w"
        rw [getKD_dctF]
        cases hy : es.lookup y with
        | none =>
          have ea : [encS (Step.name y)] = (putS (fun x => es.lookup x) (.name y)).map encS := by
            show _ = List.map encS (match es.lookup y with
              | some u => stepsT u
              | none => [Step.name y])
            rw [hy]
            rfl
          walk_at "w"
          refine ⟨(Nat.le_of_ble_eq_true rfl : _ ≤ sizeLine), ?_⟩
          walk_at "w"
          refine ⟨nx2 _ ea, ?_⟩
          exact ih _ _ (nx _ ea)
        | some u =>
          have ea : (stepsT u).map encS = (putS (fun x => es.lookup x) (.name y)).map encS := by
            show _ = List.map encS (match es.lookup y with
              | some u => stepsT u
              | none => [Step.name y])
            rw [hy]
          walk_at "w"
          rw [hx2]
          walk_at "w"
          rw [getKD_dctF, hy]
          walk_at "w"
          refine ⟨⟨_, rfl, rfl⟩, ?_⟩
          walk_at "w"
          refine ⟨u, rfl, ?_⟩
          walk_at "w"
          refine ⟨nx2 _ ea, ?_⟩
          exact ih _ _ (nx _ ea)
      | bin o =>
        have ho : (o.tok = ("name" : Str)) = False := by cases o <;> exact eq_false (by decide)
        walk_at "w"
        refine ⟨⟨_, rfl⟩, ?_⟩
        walk_at "w"
        refine wite_d (fun z => by rw [ho] at z; exact z.elim) fun _ => ?_
        walk_at "w"
        refine ⟨(Nat.le_of_ble_eq_true rfl : _ ≤ sizeLine), ?_⟩
        walk_at "w"
        refine ⟨nx2 [encS (.bin o)] rfl, ?_⟩
        exact ih _ _ (nx [encS (.bin o)] rfl)
      | num n =>
        walk_at "w"
        refine ⟨⟨_, rfl⟩, ?_⟩
        walk_at "w"
        refine ⟨(Nat.le_of_ble_eq_true rfl : _ ≤ sizeLine), ?_⟩
        walk_at "w"
        refine ⟨nx2 [encS (.num n)] rfl, ?_⟩
        exact ih _ _ (nx [encS (.num n)] rfl)
      | pow n =>
        walk_at "w"
        refine ⟨⟨_, rfl⟩, ?_⟩
        walk_at "w"
        refine ⟨(Nat.le_of_ble_eq_true rfl : _ ≤ sizeLine), ?_⟩
        walk_at "w"
        refine ⟨nx2 [encS (.pow n)] rfl, ?_⟩
        exact ih _ _ (nx [encS (.pow n)] rfl)
      | im =>
        walk_at "w"
        refine ⟨⟨_, rfl⟩, ?_⟩
        walk_at "w"
        refine ⟨(Nat.le_of_ble_eq_true rfl : _ ≤ sizeLine), ?_⟩
        walk_at "w"
        refine ⟨nx2 [encS .im] rfl, ?_⟩
        exact ih _ _ (nx [encS .im] rfl)
      | root =>
        walk_at "w"
        refine ⟨⟨_, rfl⟩, ?_⟩
        walk_at "w"
        refine ⟨(Nat.le_of_ble_eq_true rfl : _ ≤ sizeLine), ?_⟩
        walk_at "w"
        refine ⟨nx2 [encS .root] rfl, ?_⟩
        exact ih _ _ (nx [encS .root] rfl)
      | neg =>
        walk_at "w"
        refine ⟨⟨_, rfl⟩, ?_⟩
        walk_at "w"
        refine ⟨(Nat.le_of_ble_eq_true rfl : _ ≤ sizeLine), ?_⟩
        walk_at "w"
        refine ⟨nx2 [encS .neg] rfl, ?_⟩
        exact ih _ _ (nx [encS .neg] rfl)
theorem ok_Formula_putK (T : Txt K mg A)(G_steps : MtAt P w K mg base 1 A.Formula "steps" (S_stepsF A)) (G_Steps : MkAt P w K mg base 1 "Steps" A.Steps (S_rows A) []) (G_Formula : MkAt P w K mg base 6 "Formula" A.Formula (S_init A) []) : MtAtK P w K mg base 8 A.Formula "put" "formulas" (S_putF A) := by
  refine mtAtK_of T.K_Formula_put sc_Formula_put (fun ds M q h => by first | (obtain ⟨e, _⟩ := h; rw [e]; rfl) | (obtain ⟨_, e, _⟩ := h; rw [e]; rfl) | (obtain ⟨_, _, e, _⟩ := h; rw [e]; rfl) | (obtain ⟨_, _, _, e, _⟩ := h; rw [e]; rfl) | (obtain ⟨_, _, _, _, e, _⟩ := h; rw [e]; rfl) | (obtain ⟨_, _, _, _, _, e, _⟩ := h; rw [e]; rfl) | (obtain ⟨_, _, _, _, _, _, e, _⟩ := h; rw [e]; rfl) | (obtain ⟨_, _, _, _, _, _, _, e, _⟩ := h; rw [e]; rfl) | (obtain ⟨_, _, _, _, _, _, _, _, e, _⟩ := h; rw [e]; rfl) | (obtain ⟨_, _, _, _, _, _, _, _, _, e, _⟩ := h; rw [e]; rfl) | (obtain ⟨_, _, _, _, _, _, _, _, _, _, e, _⟩ := h; rw [e]; rfl) | (obtain ⟨_, _, _, _, _, _, _, _, _, _, _, e, _⟩ := h; rw [e]; rfl)) ?_
  intro f cdv A' outer s H E hr
  have S := sc_Formula_put
  have hu := hr.units
  have hu1 := Nat.lt_of_le_of_lt (Nat.add_le_add_left (by decide : 1 ≤ 64) _) hu
  refine ⟨_, _, (pdb_cons (pds_set (i := 2) S.nd rfl (Or.inl rfl) (pd_lstP pda_nil))
      (pdb_cons (pds_for PassesOwn.never rfl (pi_l (pd_fld (pd_var 0))) (pdg_name (i := 3) S.nd rfl (Or.inl rfl)) (pdb_one (pds_expr (pd_ext (pd_var 2) (pd_if (PDW.pdt (pdt_and (pdt_cmp (po_eq hu) (pd_ix (pd_var 3) pd_int fun _ _ => rfl) pd_str (nomark _)) (pdt_and1 (pdt_din hu1 (pd_ix (pd_var 3) pd_int fun _ _ => rfl) (pd_var 1))))) (pd_meth0 G_steps (hr.mono (by omega)) (pd_dget hu1 (pd_var 1) (pd_ix (pd_var 3) pd_int fun _ _ => rfl) fun _ _ => rfl)) (pd_lst (pda_cons (pd_var 3) pda_nil)))))))
      (pdb_one (pds_ret (pd_make G_Formula (fun _ => .nil) (hr.mono (by omega)) rfl (pda_cons (pd_make G_Steps (fun _ => .nil) (hr.mono (by omega)) rfl (pda_cons (pd_frz (pd_var 2)) pda_nil)) pda_nil)))))), fun ds M q h => ?_⟩
  obtain ⟨t, x, es, rfl, hx, ⟨ok, hd⟩, hes, hlen, hq⟩ := h
  have hsz := sz_le (t := t) (by omega)
  have hsl := steps_len t
  have gf : ∀ (y : Str) u, es.lookup y = some u → GoodT u := fun y u h => (hes _ (lookup_mem h)).1
  have gd : ∀ (y : Str) u, es.lookup y = some u → u.deep ≤ 7 := fun y u h => (hes _ (lookup_mem h)).2
  have ok2 := good_put (f := fun x => es.lookup x) gf t ok
  have hd2 := deep_put (f := fun x => es.lookup x) (d := 7) gd t
  have hsz2 := sz_le (t := putT (fun x => es.lookup x) t) (by omega)
  have hsl2 := steps_len (putT (fun x => es.lookup x) t)
  have hst := steps_put (fun x => es.lookup x) t
  walk_at "w"
  refine ⟨(Nat.le_of_ble_eq_true rfl : _ ≤ sizeLine), fun p hp => ?_⟩
  have hx2 : ∀ m, dctD (M.put p m) x = some (dctF A.Formula es) := fun m => dctD_put hx hp
  walk_at "w"
  refine ⟨T.d_Formula, T.na_steps, ?_⟩
  walk_at "w"
  refine for_by (fun rest Γ M' => ∃ (s1 s2 : List Step) (v : Option D), stepsT t = s1 ++ s2 ∧ rest = s2.map encS ∧ Γ = [some (frmD A.Formula t), some x, some (.ptr p), v] ∧ M' = M.put p (.lst ((s1.flatMap (putS fun x => es.lookup x)).map encS))) ?_ ?_ _ _ _ ⟨[], stepsT t, none, rfl, rfl, rfl, rfl⟩
  · rintro Γ M' ⟨s1, s2, v, e, hr, rfl, rfl⟩
    have hs2 : s2 = [] := by cases s2 with
      | nil => rfl
      | cons => cases hr
    subst hs2
    rw [List.append_nil] at e
    rw [← e, ← hst]
    walk_at "w"
    rw [Mem.put_del hp]
    intro p2 hp2
    refine ⟨p2, _, stepsT (putT (fun x => es.lookup x) t), rfl, Mem.put_same, rows_enc _, by rw [List.length_map]; unfold sizeLine; omega, ?_⟩
    refine ⟨rfl, .inl ⟨_, M, hp2, by rw [Mem.put_put], ?_⟩⟩
    walk_at "w"
    intro p3 hp3
    refine ⟨p3, _, putT (fun x => es.lookup x) t, rfl, Mem.put_same, ok2, by omega, .inr rfl, ?_⟩
    refine ⟨rfl, .inl ⟨_, M, hp3, by rw [Mem.put_put], ?_⟩⟩
    exact .of hq
  · rintro d ds Γ M' ⟨s1, s2, v, e, hr, rfl, rfl⟩ ih
    cases s2 with
    | nil => cases hr
    | cons s s2 =>
      cases hr
      have hl1 : ((s1.flatMap (putS fun x => es.lookup x)).map encS).length + (putS (fun x => es.lookup x) s).length ≤ sizeLine := by
        have h1 : (stepsT (putT (fun x => es.lookup x) t)).length = ((s1 ++ s :: s2).flatMap (putS fun x => es.lookup x)).length := by rw [hst, e]
        rw [List.flatMap_append, List.flatMap_cons, List.length_append, List.length_append] at h1
        rw [List.length_map]
        unfold sizeLine
        omega
      have nx : ∀ add : List D, add = (putS (fun x => es.lookup x) s).map encS → ∃ (s1' s2' : List Step) (v : Option D), stepsT t = s1' ++ s2' ∧ s2.map encS = s2'.map encS ∧ [some (frmD A.Formula t), some x, some (.ptr p), some (encS s)] = [some (frmD A.Formula t), some x, some (.ptr p), v] ∧ (M.put p (.lst ((s1.flatMap (putS fun x => es.lookup x)).map encS))).put p (.lst ((s1.flatMap (putS fun x => es.lookup x)).map encS ++ add)) = M.put p (.lst ((s1'.flatMap (putS fun x => es.lookup x)).map encS)) := fun add ea => ⟨s1 ++ [s], s2, _, by rw [e, List.append_assoc]; rfl, rfl, rfl, by rw [Mem.put_put, List.flatMap_append, List.map_append, ea]; simp [List.flatMap_cons]⟩
      have nx2 : ∀ add : List D, add = (putS (fun x => es.lookup x) s).map encS → ((s1.flatMap (putS fun x => es.lookup x)).map encS).length + add.length ≤ sizeLine := fun add ea => by rw [ea, List.length_map (as := putS _ _)]; exact hl1
      have keep : ∀ m, (M.put p m) p = some m := fun m => Mem.put_same
      cases s with
      | name y =>
        walk_at "w"
        refine ⟨⟨_, rfl⟩, ?_⟩
        walk_at "w"
        rw [hx2]
        walk_at "w"
        rw [getKD_dctF]
        cases hy : es.lookup y with
        | none =>
          have ea : [encS (Step.name y)] = (putS (fun x => es.lookup x) (.name y)).map encS := by
            show _ = List.map encS (match es.lookup y with
              | some u => stepsT u
              | none => [Step.name y])
            rw [hy]
            rfl
          walk_at "w"
          refine ⟨(Nat.le_of_ble_eq_true rfl : _ ≤ sizeLine), ?_⟩
          walk_at "w"
          refine ⟨nx2 _ ea, ?_⟩
          exact ih _ _ (nx _ ea)
        | some u =>
          have ea : (stepsT u).map encS = (putS (fun x => es.lookup x) (.name y)).map encS := by
            show _ = List.map encS (match es.lookup y with
              | some u => stepsT u
              | none => [Step.name y])
            rw [hy]
          walk_at "w"
          rw [hx2]
          walk_at "w"
          rw [getKD_dctF, hy]
          walk_at "w"
          refine ⟨⟨_, rfl, rfl⟩, ?_⟩
          walk_at "w"
          refine ⟨u, rfl, ?_⟩
          walk_at "w"
          refine ⟨nx2 _ ea, ?_⟩
          exact ih _ _ (nx _ ea)
      | bin o =>
        have ho : (o.tok = ("name" : Str)) = False := by cases o <;> exact eq_false (by decide)
        walk_at "w"
        refine ⟨⟨_, rfl⟩, ?_⟩
        walk_at "w"
        refine wite_d (fun z => by rw [ho] at z; exact z.elim) fun _ => ?_
        walk_at "w"
        refine ⟨(Nat.le_of_ble_eq_true rfl : _ ≤ sizeLine), ?_⟩
        walk_at "w"
        refine ⟨nx2 [encS (.bin o)] rfl, ?_⟩
        exact ih _ _ (nx [encS (.bin o)] rfl)
      | num n =>
        walk_at "w"
        refine ⟨⟨_, rfl⟩, ?_⟩
        walk_at "w"
        refine ⟨(Nat.le_of_ble_eq_true rfl : _ ≤ sizeLine), ?_⟩
        walk_at "w"
        refine ⟨nx2 [encS (.num n)] rfl, ?_⟩
        exact ih _ _ (nx [encS (.num n)] rfl)
      | pow n =>
        walk_at "w"
        refine ⟨⟨_, rfl⟩, ?_⟩
        walk_at "w"
        refine ⟨(Nat.le_of_ble_eq_true rfl : _ ≤ sizeLine), ?_⟩
        walk_at "w"
        refine ⟨nx2 [encS (.pow n)] rfl, ?_⟩
        exact ih _ _ (nx [encS (.pow n)] rfl)
      | im =>
        walk_at "w"
        refine ⟨⟨_, rfl⟩, ?_⟩
        walk_at "w"
        refine ⟨(Nat.le_of_ble_eq_true rfl : _ ≤ sizeLine), ?_⟩
        walk_at "w"
        refine ⟨nx2 [encS .im] rfl, ?_⟩
        exact ih _ _ (nx [encS .im] rfl)
      | root =>
        walk_at "w"
        refine ⟨⟨_, rfl⟩, ?_⟩
        walk_at "w"
        refine ⟨(Nat.le_of_ble_eq_true rfl : _ ≤ sizeLine), ?_⟩
        walk_at "w"
        refine ⟨nx2 [encS .root] rfl, ?_⟩
        exact ih _ _ (nx [encS .root] rfl)
      | neg =>
        walk_at "w"
        refine ⟨⟨_, rfl⟩, ?_⟩
        walk_at "w"
        refine ⟨(Nat.le_of_ble_eq_true rfl : _ ≤ sizeLine), ?_⟩
        walk_at "w"
        refine ⟨nx2 [encS .neg] rfl, ?_⟩
        exact ih _ _ (nx [encS .neg] rfl)
theorem ok_Formula___init__K (T : Txt K mg A) (G_read_steps : FnAtD P w K mg base 4 "read_steps" S_read_steps [.bl false]) (G_written : FnAt P w K mg base 2 "written" S_written) : MkAtK P w K mg base 6 "Formula" A.Formula "text" (S_init A) := by
  refine mkAtK_of T.K_Formula___init__ sc_Formula___init__ (fun ds M q h => by first | (obtain ⟨e, _⟩ := h; rw [e]; rfl) | (obtain ⟨_, e, _⟩ := h; rw [e]; rfl) | (obtain ⟨_, _, e, _⟩ := h; rw [e]; rfl) | (obtain ⟨_, _, _, e, _⟩ := h; rw [e]; rfl) | (obtain ⟨_, _, _, _, e, _⟩ := h; rw [e]; rfl) | (obtain ⟨_, _, _, _, _, e, _⟩ := h; rw [e]; rfl) | (obtain ⟨_, _, _, _, _, _, e, _⟩ := h; rw [e]; rfl) | (obtain ⟨_, _, _, _, _, _, _, e, _⟩ := h; rw [e]; rfl) | (obtain ⟨_, _, _, _, _, _, _, _, e, _⟩ := h; rw [e]; rfl) | (obtain ⟨_, _, _, _, _, _, _, _, _, e, _⟩ := h; rw [e]; rfl) | (obtain ⟨_, _, _, _, _, _, _, _, _, _, e, _⟩ := h; rw [e]; rfl) | (obtain ⟨_, _, _, _, _, _, _, _, _, _, _, e, _⟩ := h; rw [e]; rfl)) ?_
  intro f cdv A' outer s H E hr
  have S := sc_Formula___init__
  have hu := hr.units
  have hu1 := Nat.lt_of_le_of_lt (Nat.add_le_add_left (by decide : 1 ≤ 64) _) hu
  refine ⟨_, _, (pdb_cons (pds_setF (pd_var 0) (pd_if (pdt_val (pd_callB pc_isi rfl T.n_isinstance (by decide +kernel) (pda_cons (pd_var 1) (pda_cons (pd_glR rfl T.m_Steps) pda_nil)))) (pd_fld (pd_var 1)) (pd_ix (pd_callD G_read_steps (fun _ => .cons (.bl _) .nil) (hr.mono (by omega)) rfl (pda_cons (pd_var 1) pda_nil)) pd_int fun _ _ => rfl)))
      (pdb_one (pds_setF (pd_var 0) (pd_call G_written (hr.mono (by omega)) rfl (pda_cons (pd_fld (pd_var 0)) pda_nil))))), fun ds M q h => ?_⟩
  obtain ⟨p, x, t, rfl, hM, ok, hd, hx, hq⟩ := h
  have hsz := sz_le hd
  have hsl := steps_len t
  rcases hx with ⟨z, k, rfl, hz, hL⟩ | rfl
  · walk_at "w"
    refine ⟨"str", false, .str _, T.ki_sS, ?_⟩
    walk_at "w"
    refine ⟨z, t, k, rfl, hz, hL, ok, fun y => ?_⟩
    walk_at "w"
    rw [hM]
    refine ⟨T.d_Formula, T.na_steps, by decide, ?_⟩
    walk_at "w"
    refine ⟨T.d_Formula, T.na_steps, ?_⟩
    walk_at "w"
    refine ⟨stepsT t, shownT t 1, rfl, by omega, ev_all ok hd, ?_⟩
    walk_at "w"
    refine ⟨T.d_Formula, T.na_text, (by show 1 < 1000; decide), ?_⟩
    rw [Mem.put_put]
    exact .of hq
  · walk_at "w"
    refine ⟨T.d_Steps.ob, true, T.ki_SS, ?_⟩
    walk_at "w"
    refine ⟨T.d_Steps, T.na_rows, ?_⟩
    walk_at "w"
    rw [hM]
    refine ⟨T.d_Formula, T.na_steps, by decide, ?_⟩
    walk_at "w"
    refine ⟨T.d_Formula, T.na_steps, ?_⟩
    walk_at "w"
    refine ⟨stepsT t, shownT t 1, rfl, by omega, ev_all ok hd, ?_⟩
    walk_at "w"
    refine ⟨T.d_Formula, T.na_text, (by show 1 < 1000; decide), ?_⟩
    rw [Mem.put_put]
    exact .of hq
end
end D2

set_option maxRecDepth 100000
set_option maxHeartbeats 2000000
set_option pp.maxSteps 400
set_option pp.deepTerms false
namespace D2
open PySem PySem.Spec PyProof.Rows L2
local macro_rules | `(tactic| walk_at "wp") => `(tactic| conv => whnf)
local macro_rules | `(tactic| walk_at "w") => `(tactic| (conv => whnf) <;> repeat ((first | rw [seqD_ptr Mem.put_same] | rw [atI_zero] | rw [lstD_ptr Mem.put_same] | rw [dctD_ptr Mem.put_same] | rw [objD_ptr Mem.put_same] | rw [Mem.put_same]); conv => whnf))
local macro_rules | `(tactic| walk_at "v") => `(tactic| (conv => whnf) <;> repeat ((first | rw [seqD_ptr Mem.put_same] | rw [atI_zero] | rw [Mem.put_same] | rw [seqD_ptr (Mem.at2 (by assumption))] | rw [Mem.at2 (by assumption)]); conv => whnf))
local macro_rules | `(tactic| walk_at "a") => `(tactic| (walk_at "w") <;> repeat (refine ⟨(by first | exact mulR ⟨by omega, by omega⟩ | exact mulL ⟨by omega, by omega⟩ | (show (0 : Int) < _; omega) | exact ⟨by omega, by decide +kernel⟩ | exact ⟨by decide, by decide, by decide⟩), ?_⟩ <;> walk_at "w"))
local macro_rules | `(tactic| walk_at "i") => `(tactic| ((walk_at "w") <;> (refine ⟨trivial, by first | exact .inl rfl | exact .inr (.inl rfl) | exact .inr (.inr (.inl rfl)) | exact .inr (.inr (.inr (.inl rfl))) | exact .inr (.inr (.inr (.inr (.inl rfl)))), ?_⟩)))
section
variable {P : Program} {w : World} {K : W.Frag} {mg : Str → Option Value} {base : Heap} {A : Ad}
def S_isF (A : Ad) : SpD := fun ds M q => ∃ t, ds = [frmD A.Formula t, encT t] ∧ (GoodT t ∧ t.deep ≤ 16) ∧ q (.bl true) M
theorem like_strs (l : List Str) (h : l.length ≤ sizeLine) (n : Nat) : LikeD (n + 2) (.lst (l.map .str)) := ⟨by rw [List.length_map]; exact h, fun d hd => by
  obtain ⟨x, _, rfl⟩ := List.mem_map.mp hd
  exact trivial⟩
theorem like_step (s : Step) (n : Nat) : LikeD (n + 2) (encS s) := by
  cases s <;> refine ⟨(Nat.le_of_ble_eq_true rfl : _ ≤ sizeLine), fun d hd => ?_⟩ <;> simp only [List.mem_cons, List.not_mem_nil, or_false] at hd
  · rcases hd with rfl | rfl <;> exact trivial
  · rcases hd with rfl | rfl <;> exact trivial
  · subst hd; exact trivial
  · subst hd; exact trivial
  · subst hd; exact trivial
  · rcases hd with rfl | rfl <;> exact trivial
  · subst hd; exact trivial
theorem like_steps (l : List Step) (h : l.length ≤ sizeLine) (n : Nat) : LikeD (n + 3) (.lst (l.map encS)) := ⟨by rw [List.length_map]; exact h, fun d hd => by
  obtain ⟨x, _, rfl⟩ := List.mem_map.mp hd
  exact like_step x n⟩
theorem sc_l_is_formula : FnScope ["got", "tree", "said"] ["got", "tree"] (defScope (top 54)) := ⟨rfl, rfl, rfl, by decide +kernel, rfl, by decide +kernel, by decide +kernel⟩
theorem ok_l_is_formula (T : Txt K mg A)(G_text : MtAt P w K mg base 1 A.Formula "text" (S_str A)) (G_str : MtAt P w K mg base 1 A.Formula "__str__" (S_str A)) (G_repr : MtAt P w K mg base 1 A.Formula "__repr__" (S_repr A)) (G_roots : PrAt P w K mg base 1 A.Formula "roots" (S_roots1 A)) (G_has_i : PrAt P w K mg base 1 A.Formula "has_i" (S_has_i A)) (G_names : MtAt P w K mg base 1 A.Formula "names" (S_namesF A)) (G_steps : MtAt P w K mg base 1 A.Formula "steps" (S_stepsF A)) (G_l_like : FnAt P w K mg base 10 "_law_like" (S_l_like 10)) (G_l_shown : FnAt P w K mg base 17 "_law_shown" (S_l_shown 17)) (G_l_many : FnAt P w K mg base 17 "_law_many" (S_l_many 17)) (G_l_names_of : FnAt P w K mg base 17 "_law_names_of" (S_l_names_of 17)) (G_l_steps : FnAt P w K mg base 17 "_law_steps" (S_l_steps 17)) (G_l_grown : FnAt P w K mg base 122 "_law_grown" S_l_grown) : FnAt P w K mg base 124 "_law_is_formula" (S_isF A) := by
  refine fnAt_of T.F_l_is_formula sc_l_is_formula (fun ds M q h => by first | (obtain ⟨e, _⟩ := h; rw [e]; rfl) | (obtain ⟨_, e, _⟩ := h; rw [e]; rfl) | (obtain ⟨_, _, e, _⟩ := h; rw [e]; rfl) | (obtain ⟨_, _, _, e, _⟩ := h; rw [e]; rfl) | (obtain ⟨_, _, _, _, e, _⟩ := h; rw [e]; rfl) | (obtain ⟨_, _, _, _, _, e, _⟩ := h; rw [e]; rfl) | (obtain ⟨_, _, _, _, _, _, e, _⟩ := h; rw [e]; rfl) | (obtain ⟨_, _, _, _, _, _, _, e, _⟩ := h; rw [e]; rfl) | (obtain ⟨_, _, _, _, _, _, _, _, e, _⟩ := h; rw [e]; rfl) | (obtain ⟨_, _, _, _, _, _, _, _, _, e, _⟩ := h; rw [e]; rfl) | (obtain ⟨_, _, _, _, _, _, _, _, _, _, e, _⟩ := h; rw [e]; rfl) | (obtain ⟨_, _, _, _, _, _, _, _, _, _, _, e, _⟩ := h; rw [e]; rfl)) ?_
  intro f cdv A' outer s H E hr
  have S := sc_l_is_formula
  have hu := hr.units
  have hu1 := Nat.lt_of_le_of_lt (Nat.add_le_add_left (by decide : 1 ≤ 64) _) hu
  refine ⟨_, _, (pdb_cons (pds_if (pdt_not (pdt_val (pd_callB pc_isi rfl T.n_isinstance (by decide +kernel) (pda_cons (pd_var 0) (pda_cons (pd_glR rfl T.m_Formula) pda_nil))))) (pdb_one (pds_ret pd_bl)) pdb_nil)
      (pdb_cons (pds_set (i := 2) S.nd rfl (Or.inl rfl) (pd_call G_l_shown (hr.mono (by omega)) rfl (pda_cons (pd_var 1) (pda_cons pd_int pda_nil))))
      (pdb_cons (pds_if (PDW.pdt (pdt_or (pdt_not (pdt_val (pd_call G_l_like (hr.mono (by omega)) rfl (pda_cons (pd_lst (pda_cons (pd_meth0 G_text (hr.mono (by omega)) (pd_var 0)) (pda_cons (pd_callTy (pc_strO G_str (hr.mono (by omega))) rfl T.n_str (by decide +kernel) (pda_cons (pd_var 0) pda_nil)) (pda_cons (pd_callB (pc_reprO G_repr (hr.mono (by omega))) rfl T.n_repr (by decide +kernel) (pda_cons (pd_var 0) pda_nil)) pda_nil)))) (pda_cons (pd_lst (pda_cons (pd_var 2) (pda_cons (pd_var 2) (pda_cons (pd_op po_add (pd_op po_add pd_str (pd_var 2)) pd_str) pda_nil)))) pda_nil))))) (pdt_or1 (pdt_cmp (po_ne hu) (pd_ix (pd_call G_l_grown (hr.mono (by omega)) rfl (pda_cons (pd_var 2) pda_nil)) pd_int fun _ _ => rfl) (pd_var 1) (nomark _))))) (pdb_one (pds_ret pd_bl)) pdb_nil)
      (pdb_cons (pds_if (pdt_not (pdt_val (pd_call G_l_like (hr.mono (by omega)) rfl (pda_cons (pd_lst (pda_cons (pd_prop G_roots (hr.mono (by omega)) (pd_var 0)) (pda_cons (pd_prop G_has_i (hr.mono (by omega)) (pd_var 0)) pda_nil))) (pda_cons (pd_lst (pda_cons (pd_call G_l_many (hr.mono (by omega)) rfl (pda_cons (pd_var 1) (pda_cons pd_str pda_nil))) (pda_cons (pd_cmp po_gt (pd_call G_l_many (hr.mono (by omega)) rfl (pda_cons (pd_var 1) (pda_cons pd_str pda_nil))) pd_int (nomark _)) pda_nil))) pda_nil))))) (pdb_one (pds_ret pd_bl)) pdb_nil)
      (pdb_one (pds_ret (pd_and (pd_call G_l_like (hr.mono (by omega)) rfl (pda_cons (pd_meth0 G_names (hr.mono (by omega)) (pd_var 0)) (pda_cons (pd_call G_l_names_of (hr.mono (by omega)) rfl (pda_cons (pd_var 1) pda_nil)) pda_nil))) (pd_one (pd_call G_l_like (hr.mono (by omega)) rfl (pda_cons (pd_meth0 G_steps (hr.mono (by omega)) (pd_var 0)) (pda_cons (pd_call G_l_steps (hr.mono (by omega)) rfl (pda_cons (pd_var 1) pda_nil)) pda_nil))))))))))), fun ds M q h => ?_⟩
  obtain ⟨t, rfl, ⟨ok, hd⟩, hq⟩ := h
  have hsz := sz_le hd
  have hsl := steps_len t
  have hnl := names_len t
  have hsh := shown_le (l := 1) ok hd
  obtain ⟨es, et⟩ := encT_tup t
  walk_at "w"
  refine ⟨T.d_Formula.ob, true, T.ki_FF, ?_⟩
  walk_at "w"
  refine ⟨t, 1, rfl, by omega, ⟨ok, hd⟩, ?_⟩
  walk_at "w"
  refine ⟨⟨_, rfl, rfl⟩, ?_⟩
  walk_at "w"
  refine ⟨t, rfl, ⟨ok, hd⟩, ?_⟩
  walk_at "w"
  refine ⟨⟨_, rfl⟩, ?_⟩
  refine ⟨t, rfl, ⟨ok, hd⟩, ?_⟩
  refine ⟨⟨_, rfl⟩, rfl, ?_⟩
  walk_at "w"
  refine ⟨⟨_, rfl⟩, ?_⟩
  refine ⟨t, rfl, ⟨ok, hd⟩, ?_⟩
  refine ⟨⟨_, rfl⟩, rfl, ?_⟩
  walk_at "w"
  refine ⟨(Nat.le_of_ble_eq_true rfl : _ ≤ sizeLine), ?_⟩
  walk_at "w"
  refine ⟨by show 8 + _ ≤ sizeLine; unfold sizeLine; omega, ?_⟩
  walk_at "w"
  refine ⟨by rw [str_len_app]; show 8 + _ + 1 ≤ sizeLine; unfold sizeLine; omega, ?_⟩
  walk_at "w"
  refine ⟨(Nat.le_of_ble_eq_true rfl : _ ≤ sizeLine), ?_⟩
  walk_at "w"
  refine ⟨_, rfl, ⟨(Nat.le_of_ble_eq_true rfl : _ ≤ sizeLine), fun d hd => by
    simp only [List.mem_cons, List.not_mem_nil, or_false] at hd
    rcases hd with rfl | rfl | rfl <;> exact trivial⟩, ?_⟩
  walk_at "w"
  refine ⟨_, t, t.deep, rfl, by omega, shown_toks ok, by omega, ok, fun x => ?_⟩
  walk_at "w"
  rw [et]
  refine ⟨pdT t, pdT t, et ▸ pd_T t, et ▸ pd_T t, shaped_T ok hd, shaped_T ok hd, ?_⟩
  rw [eqv_refl]
  walk_at "w"
  refine ⟨⟨_, rfl⟩, ?_⟩
  refine ⟨t, rfl, hd, ?_⟩
  walk_at "w"
  refine ⟨⟨_, rfl⟩, ?_⟩
  refine ⟨t, rfl, hd, ?_⟩
  walk_at "w"
  refine ⟨(Nat.le_of_ble_eq_true rfl : _ ≤ sizeLine), ?_⟩
  walk_at "w"
  refine ⟨t, _, by rw [et], by omega, ?_⟩
  walk_at "w"
  refine ⟨t, _, by rw [et], by omega, ?_⟩
  walk_at "w"
  refine ⟨(Nat.le_of_ble_eq_true rfl : _ ≤ sizeLine), ?_⟩
  walk_at "w"
  have hi : decide ((0 : Int) < (manyT "i" t : Int)) = decide (0 < manyT "i" t) := by
    by_cases h : 0 < manyT "i" t
    · rw [decide_eq_true h, decide_eq_true (by omega)]
    · rw [decide_eq_false h, decide_eq_false (by omega)]
  refine ⟨.lst [.int (manyT "root" t : Int), .bl (decide (0 < manyT "i" t))], by
    show [_, D.lst [_, D.bl (decide ((0 : Int) < (manyT "i" t : Int)))]] = _
    rw [hi], ⟨(Nat.le_of_ble_eq_true rfl : _ ≤ sizeLine), fun d hd => by
    simp only [List.mem_cons, List.not_mem_nil, or_false] at hd
    rcases hd with rfl | rfl <;> exact trivial⟩, ?_⟩
  walk_at "w"
  refine ⟨⟨_, rfl, rfl⟩, ?_⟩
  walk_at "w"
  refine ⟨t, rfl, hd, ?_⟩
  walk_at "w"
  refine ⟨t, by rw [et], by omega, hd, ?_⟩
  walk_at "w"
  refine ⟨_, rfl, like_strs _ (by unfold sizeLine; omega) 8, ?_⟩
  walk_at "w"
  refine ⟨⟨_, rfl, rfl⟩, ?_⟩
  walk_at "w"
  refine ⟨t, rfl, ?_⟩
  walk_at "w"
  refine ⟨t, by rw [et], by omega, hd, ?_⟩
  walk_at "w"
  refine ⟨_, rfl, like_steps _ (by unfold sizeLine; omega) 7, ?_⟩
  exact .of hq
end
end D2

set_option maxRecDepth 100000
set_option maxHeartbeats 2000000
set_option pp.maxSteps 400
set_option pp.deepTerms false
namespace D2
open PySem PySem.Spec PyProof.Rows L2
local macro_rules | `(tactic| walk_at "wp") => `(tactic| conv => whnf)
local macro_rules | `(tactic| walk_at "w") => `(tactic| (conv => whnf) <;> repeat ((first | rw [seqD_ptr Mem.put_same] | rw [atI_zero] | rw [lstD_ptr Mem.put_same] | rw [dctD_ptr Mem.put_same] | rw [objD_ptr Mem.put_same] | rw [Mem.put_same]); conv => whnf))
local macro_rules | `(tactic| walk_at "v") => `(tactic| (conv => whnf) <;> repeat ((first | rw [seqD_ptr Mem.put_same] | rw [atI_zero] | rw [Mem.put_same] | rw [seqD_ptr (Mem.at2 (by assumption))] | rw [Mem.at2 (by assumption)]); conv => whnf))
local macro_rules | `(tactic| walk_at "a") => `(tactic| (walk_at "w") <;> repeat (refine ⟨(by first | exact mulR ⟨by omega, by omega⟩ | exact mulL ⟨by omega, by omega⟩ | (show (0 : Int) < _; omega) | exact ⟨by omega, by decide +kernel⟩ | exact ⟨by decide, by decide, by decide⟩), ?_⟩ <;> walk_at "w"))
local macro_rules | `(tactic| walk_at "i") => `(tactic| ((walk_at "w") <;> (refine ⟨trivial, by first | exact .inl rfl | exact .inr (.inl rfl) | exact .inr (.inr (.inl rfl)) | exact .inr (.inr (.inr (.inl rfl))) | exact .inr (.inr (.inr (.inr (.inl rfl)))), ?_⟩)))
section
variable {P : Program} {w : World} {K : W.Frag} {mg : Str → Option Value} {base : Heap} {A : Ad}
/-- three cells: the jar and two dicts -/
def Mem3 (M : Mem) (a n h : Addr) (js : List D) (N H : List (Key × D)) : Mem := ((M.put a (.lst js)).put n (.dct N)).put h (.dct H)
section
variable {M : Mem} {a n h : Addr} {js js' : List D} {N H N' H' : List (Key × D)}
theorem m3_a (h1 : n ≠ a) (h2 : h ≠ a) : Mem3 M a n h js N H a = some (.lst js) := by
  unfold Mem3
  rw [Mem.put_ne h2.symm, Mem.put_ne h1.symm, Mem.put_same]
theorem m3_n (h3 : h ≠ n) : Mem3 M a n h js N H n = some (.dct N) := by
  unfold Mem3
  rw [Mem.put_ne h3.symm, Mem.put_same]
theorem m3_h : Mem3 M a n h js N H h = some (.dct H) := Mem.put_same
theorem m3_pa (h1 : n ≠ a) (h2 : h ≠ a) : (Mem3 M a n h js N H).put a (.lst js') = Mem3 M a n h js' N H := by
  unfold Mem3
  rw [Mem.put_comm h2.symm, Mem.put_comm h1.symm, Mem.put_put]
theorem m3_pn (h3 : h ≠ n) : (Mem3 M a n h js N H).put n (.dct N') = Mem3 M a n h js N' H := by
  unfold Mem3
  rw [Mem.put_comm h3.symm, Mem.put_put]
theorem m3_ph : (Mem3 M a n h js N H).put h (.dct H') = Mem3 M a n h js N H' := Mem.put_put
theorem m3_dn (h3 : h ≠ n) : dctD (Mem3 M a n h js N H) (.ptr n) = some N := by
  show (match Mem3 M a n h js N H n with
    | some (.dct es) => some es
    | _ => none) = some N
  rw [m3_n h3]
theorem m3_dh : dctD (Mem3 M a n h js N H) (.ptr h) = some H := by
  show (match Mem3 M a n h js N H h with
    | some (.dct es) => some es
    | _ => none) = some H
  rw [m3_h]
theorem m3_le (hn : (M.put a (.lst js)) n = none) (hh : ((M.put a (.lst js)).put n (.dct N)) h = none) : (M.put a (.lst js)).le (Mem3 M a n h js N H) := fun b o e => Mem.le_put hh b o (Mem.le_put hn b o e)
end
/-- written into a list of pairs -/
def putE (es : List (Str × Tr)) (x : Str) (u : Tr) : List (Str × Tr) := if es.any (fun e => decide (e.1 = x)) then es.map fun e => if e.1 = x then (e.1, u) else e else es ++ [(x, u)]
theorem putKD_map (f : Tr → D) (es : List (Str × Tr)) (x : Str) (u : Tr) : putKD (es.map fun e => ((.inr e.1 : Key), f e.2)) (.inr x) (f u) = (putE es x u).map fun e => ((.inr e.1 : Key), f e.2) := by
  have ha : ((es.map fun e => ((.inr e.1 : Key), f e.2)).any fun kv => decide (kv.1 = Sum.inr x)) = es.any fun e => decide (e.1 = x) := by
    rw [List.any_map]
    congr 1
    funext e
    show decide ((Sum.inr e.1 : Key) = Sum.inr x) = decide (e.1 = x)
    by_cases h : e.1 = x
    · rw [decide_eq_true h, decide_eq_true (by rw [h])]
    · rw [decide_eq_false h, decide_eq_false fun z => h (Sum.inr.inj z)]
  unfold putKD putE
  rw [ha]
  cases es.any fun e => decide (e.1 = x) with
  | true =>
    rw [if_pos rfl, if_pos rfl, List.map_map, List.map_map]
    apply List.map_congr_left
    intro e _
    show (if (Sum.inr e.1 : Key) = Sum.inr x then ((Sum.inr e.1 : Key), f u) else (Sum.inr e.1, f e.2)) = ((Sum.inr (if e.1 = x then (e.1, u) else e).1 : Key), f (if e.1 = x then (e.1, u) else e).2)
    by_cases h : e.1 = x
    · rw [if_pos (by rw [h]), if_pos h]
    · rw [if_neg (fun z => h (Sum.inr.inj z)), if_neg h]
  | false =>
    rw [if_neg Bool.noConfusion, if_neg Bool.noConfusion, List.map_append]
    rfl
theorem lookup_putE (es : List (Str × Tr)) (x : Str) (u : Tr) (y : Str) : (putE es x u).lookup y = if y = x then some u else es.lookup y := by
  unfold putE
  cases ha : es.any fun e => decide (e.1 = x) with
  | true =>
    rw [if_pos rfl]
    induction es with
    | nil => cases ha
    | cons e es ih =>
      obtain ⟨z, t⟩ := e
      rw [List.map_cons]
      by_cases hz : z = x
      · subst hz
        rw [if_pos rfl, List.lookup_cons, List.lookup_cons]
        by_cases hy : y = z
        · subst hy; rw [if_pos rfl]; simp
        · have e1 : (y == z) = false := by simpa using hy
          simp only [e1]
          rw [if_neg hy]
          clear ih ha
          induction es with
          | nil => rfl
          | cons e es ih =>
            obtain ⟨v, t2⟩ := e
            rw [List.map_cons]
            by_cases hv : v = z
            · subst hv
              rw [if_pos rfl, List.lookup_cons, List.lookup_cons]
              simp only [e1]
              exact ih
            · rw [if_neg hv, List.lookup_cons, List.lookup_cons, ih]
      · rw [if_neg (by exact hz), List.lookup_cons, List.lookup_cons]
        rw [List.any_cons, decide_eq_false hz, Bool.false_or] at ha
        rw [ih ha]
        by_cases hy : y = z
        · subst hy
          simp [hz]
        · have e1 : (y == z) = false := by simpa using hy
          simp only [e1]
  | false =>
    rw [if_neg Bool.noConfusion]
    induction es with
    | nil =>
      show List.lookup y [(x, u)] = _
      rw [List.lookup_cons]
      by_cases hy : y = x
      · subst hy; rw [if_pos rfl]; simp
      · have e1 : (y == x) = false := by simpa using hy
        simp only [e1]
        rw [if_neg hy]
    | cons e es ih =>
      obtain ⟨z, t⟩ := e
      rw [List.any_cons, Bool.or_eq_false_iff] at ha
      have hz : z ≠ x := of_decide_eq_false ha.1
      rw [List.cons_append, List.lookup_cons, List.lookup_cons, ih ha.2]
      by_cases hy : y = z
      · subst hy
        simp [hz]
      · have e1 : (y == z) = false := by simpa using hy
        simp only [e1]
theorem mem_putE {es : List (Str × Tr)} {x : Str} {u : Tr} {e : Str × Tr} (h : e ∈ putE es x u) : e = (x, u) ∨ e ∈ es := by
  unfold putE at h
  split at h
  · obtain ⟨b, hb, he⟩ := List.mem_map.mp h
    split at he
    · rename_i hx
      left
      rw [← he, hx]
    · right; rw [← he]; exact hb
  · rcases List.mem_append.mp h with h | h
    · exact .inr h
    · exact .inl (List.mem_singleton.mp h)
theorem len_putE (es : List (Str × Tr)) (x : Str) (u : Tr) : (putE es x u).length ≤ es.length + 1 := by
  unfold putE
  split
  · rw [List.length_map]; omega
  · rw [List.length_append]; exact Nat.le_refl _
theorem put_same_on {f g : Str → Option Tr} : ∀ t : Tr, (∀ x ∈ namesT t, f x = g x) → putT f t = putT g t
  | .num n, _ => rfl
  | .im, _ => rfl
  | .name x, h => by
    show (f x).getD _ = (g x).getD _
    rw [h x (List.mem_singleton.mpr rfl)]
  | .root t, h => by show Tr.root _ = Tr.root _; rw [put_same_on t h]
  | .neg t, h => by show Tr.neg _ = Tr.neg _; rw [put_same_on t h]
  | .pow t e, h => by show Tr.pow _ _ = Tr.pow _ _; rw [put_same_on t h]
  | .bin o l r, h => by
    show Tr.bin _ _ _ = Tr.bin _ _ _
    rw [put_same_on l fun x hx => h x (List.mem_append_left _ hx), put_same_on r fun x hx => h x (by
      by_cases hl : x ∈ namesT l
      · exact List.mem_append_left _ hl
      · exact List.mem_append_right _ (List.mem_filter.mpr ⟨hx, by simpa using hl⟩))]
theorem eqv_strs : ∀ l : List Str, PyData.eqv (.list (l.map .str)) (.list (l.map .str)) = true := fun l => by
  have h : PyData.eqvAll (l.map .str) (l.map .str) = true := by
    induction l with
    | nil => rfl
    | cons x l ih =>
      show (PyData.eqv (.str x) (.str x) && PyData.eqvAll (l.map .str) (l.map .str)) = true
      rw [ih]
      simp [PyData.eqv]
  simpa [PyData.eqv] using h
theorem keysF (C : Addr) (es : List (Str × Tr)) : (dctF C es).map (fun kv => dKey kv.1) = (es.map (·.1)).map .str := by
  unfold dctF
  rw [List.map_map, List.map_map]
  rfl
def PartsOk (es : List (Str × Tr)) (n : Nat) : Prop := (∀ e ∈ es, (GoodT e.2 ∧ e.2.deep ≤ 7) ∧ nameB e.1 = true) ∧ es.length ≤ n
theorem PartsOk.put {es : List (Str × Tr)} {n : Nat} {x : Str} {u : Tr} (h : PartsOk es n) (gx : nameB x = true) (gu : GoodT u) (du : u.deep ≤ 7) : PartsOk (putE es x u) (n + 1) := ⟨fun e he => by
  rcases mem_putE he with rfl | he
  · exact ⟨⟨gu, du⟩, gx⟩
  · exact h.1 e he, Nat.le_trans (len_putE _ _ _) (by have := h.2; omega)⟩
theorem lo_dig {k : Nat} {z : Str} (n : Int) (h1 : (tokL z).map (·.1) = [z]) (h2 : numS n = z) : Lo k (.num n) 1 ((tokL z).map (·.1)) := by
  rw [h1, ← h2]
  exact .num n
def S_puts (A : Ad) : SpD := fun ds M q => ∃ a js t syms, ds = [.ptr a, frmD A.Formula t, encT t, .lst (List.map D.str syms)] ∧ M a = some (.lst js) ∧ JarL js ∧ (GoodN syms t ∧ t.deep ≤ 7) ∧ (∀ x ∈ syms, nameB x = true) ∧ 0 < syms.length ∧ syms.length ≤ 4 ∧ ∀ js', JarL js' → q (.bl true) (M.put a (.lst js'))
theorem sc_l_puts : FnScope ["jar", "formula", "tree", "syms", "news", "handed", "swapped", "k", "due", "keys", "first", "part"] ["jar", "formula", "tree", "syms"] (defScope (top 56)) := ⟨rfl, rfl, rfl, by decide +kernel, rfl, by decide +kernel, by decide +kernel⟩
theorem ok_l_puts (T : Txt K mg A)(G_Formula : MkAt P w K mg base 6 "Formula" A.Formula (S_init A) []) (G_put : MtAt P w K mg base 8 A.Formula "put" (S_putF A)) (G_putK : MtAtK P w K mg base 8 A.Formula "put" "formulas" (S_putF A)) (G_l_is_formula : FnAt P w K mg base 124 "_law_is_formula" (S_isF A)) (G_l_put : FnAt P w K mg base 17 "_law_put" (S_l_put 17)) (G_l_tree : FnAt P w K mg base 30 "_law_tree" (S_l_tree 28)) (G_l_loose : FnAt P w K mg base 30 "_law_loose" (S_l_loose 27)) (G_l_draw : FnAt P w K mg base 1 "_law_draw" S_l_draw) (G_l_spaced : FnAt P w K mg base 3 "_law_spaced" S_l_spaced) (G_l_stranger : FnAt P w K mg base 1 "_law_stranger" S_l_stranger) : FnAt P w K mg base 130 "_law_puts" (S_puts A) := by
  refine fnAt_of T.F_l_puts sc_l_puts (fun ds M q h => by first | (obtain ⟨e, _⟩ := h; rw [e]; rfl) | (obtain ⟨_, e, _⟩ := h; rw [e]; rfl) | (obtain ⟨_, _, e, _⟩ := h; rw [e]; rfl) | (obtain ⟨_, _, _, e, _⟩ := h; rw [e]; rfl) | (obtain ⟨_, _, _, _, e, _⟩ := h; rw [e]; rfl) | (obtain ⟨_, _, _, _, _, e, _⟩ := h; rw [e]; rfl) | (obtain ⟨_, _, _, _, _, _, e, _⟩ := h; rw [e]; rfl) | (obtain ⟨_, _, _, _, _, _, _, e, _⟩ := h; rw [e]; rfl) | (obtain ⟨_, _, _, _, _, _, _, _, e, _⟩ := h; rw [e]; rfl) | (obtain ⟨_, _, _, _, _, _, _, _, _, e, _⟩ := h; rw [e]; rfl) | (obtain ⟨_, _, _, _, _, _, _, _, _, _, e, _⟩ := h; rw [e]; rfl) | (obtain ⟨_, _, _, _, _, _, _, _, _, _, _, e, _⟩ := h; rw [e]; rfl)) ?_
  intro f cdv A' outer s H E hr
  have S := sc_l_puts
  have hu := hr.units
  have hu1 := Nat.lt_of_le_of_lt (Nat.add_le_add_left (by decide : 1 ≤ 64) _) hu
  refine ⟨_, _, (pdb_cons (pds_set (i := 4) S.nd rfl (Or.inl rfl) pd_dnew)
      (pdb_cons (pds_set (i := 5) S.nd rfl (Or.inl rfl) pd_dnew)
      (pdb_cons (pds_set (i := 6) S.nd rfl (Or.inl rfl) (pd_cmp (po_eq hu) (pd_call G_l_draw (hr.mono (by omega)) rfl (pda_cons (pd_var 0) (pda_cons pd_int pda_nil))) pd_int (nomark _)))
      (pdb_cons (pds_for PassesOwn.never rfl (pi_r1 rfl T.n_range (pda_cons (pd_callB pc_len rfl T.n_len (by decide +kernel) (pda_cons (pd_var 3) pda_nil)) pda_nil)) (pdg_name (i := 7) S.nd rfl (Or.inl rfl)) (pdb_cut (pds_if (pdt_val (pd_var 6)) (pdb_one (pds_set (i := 11) S.nd rfl (Or.inl rfl) (pd_tup (pda_cons pd_str (pda_cons (pd_ix (pd_var 3) (pd_op po_sub (pd_var 7) pd_int) fun _ _ => rfl) pda_nil))))) (pdb_one (pds_set (i := 11) S.nd rfl (Or.inl rfl) (pd_call G_l_tree (hr.mono (by omega)) rfl (pda_cons (pd_var 0) (pda_cons (pd_var 3) (pda_cons (pd_call G_l_draw (hr.mono (by omega)) rfl (pda_cons (pd_var 0) (pda_cons pd_int pda_nil))) (pda_cons (pd_lst (pda_cons pd_str (pda_cons pd_str (pda_cons pd_str (pda_cons pd_str (pda_cons pd_str (pda_cons pd_str (pda_cons pd_str pda_nil)))))))) pda_nil))))))))
      (pdb_one (pds_if (PDW.pdt (pdt_or (pdt_val (pd_var 6)) (pdt_or1 (pdt_cmp po_gt (pd_call G_l_draw (hr.mono (by omega)) rfl (pda_cons (pd_var 0) (pda_cons pd_int pda_nil))) pd_int (nomark _))))) (pdb_cons (pds_dputW hu1 (pd_var 4) (pd_ix (pd_var 3) (pd_var 7) fun _ _ => rfl) (pd_var 11))
      (pdb_one (pds_dputW hu1 (pd_var 5) (pd_ix (pd_var 3) (pd_var 7) fun _ _ => rfl) (pd_make G_Formula (fun _ => .nil) (hr.mono (by omega)) rfl (pda_cons (pd_call G_l_spaced (hr.mono (by omega)) rfl (pda_cons (pd_var 0) (pda_cons (pd_call G_l_loose (hr.mono (by omega)) rfl (pda_cons (pd_var 0) (pda_cons (pd_var 11) (pda_cons pd_int pda_nil)))) pda_nil))) pda_nil))))) pdb_nil))))
      (pdb_cons (pds_dputW hu1 (pd_var 5) (pd_call G_l_stranger (hr.mono (by omega)) rfl (pda_cons (pd_var 3) pda_nil)) (pd_make G_Formula (fun _ => .nil) (hr.mono (by omega)) rfl (pda_cons pd_str pda_nil)))
      (pdb_cons (pds_set (i := 8) S.nd rfl (Or.inl rfl) (pd_call G_l_put (hr.mono (by omega)) rfl (pda_cons (pd_var 2) (pda_cons (pd_var 4) pda_nil))))
      (pdb_cons (pds_set (i := 9) S.nd rfl (Or.inl rfl) (pd_callTy (pc_listD rfl) rfl T.n_list (by decide +kernel) (pda_cons (pd_var 5) pda_nil)))
      (pdb_cons (pds_set (i := 10) S.nd rfl (Or.inl rfl) (pd_meth G_put (hr.mono (by omega)) (pd_var 1) (pda_cons (pd_var 5) pda_nil)))
      (pdb_cons (pds_if (pdt_cmp (po_ne hu) (pd_callTy (pc_listD rfl) rfl T.n_list (by decide +kernel) (pda_cons (pd_var 5) pda_nil)) (pd_var 9) (nomark _)) (pdb_one (pds_ret pd_bl)) pdb_nil)
      (pdb_cons (pds_dputW hu1 (pd_var 5) (pd_ix (pd_var 3) pd_int fun _ _ => rfl) (pd_make G_Formula (fun _ => .nil) (hr.mono (by omega)) rfl (pda_cons pd_str pda_nil)))
      (pdb_cons (pds_dputW hu1 (pd_var 4) (pd_ix (pd_var 3) pd_int fun _ _ => rfl) (pd_tup (pda_cons pd_str (pda_cons pd_int pda_nil))))
      (pdb_cons (pds_if (PDW.pdt (pdt_or (pdt_not (pdt_val (pd_call G_l_is_formula (hr.mono (by omega)) rfl (pda_cons (pd_var 10) (pda_cons (pd_var 8) pda_nil))))) (pdt_or1 (pdt_not (pdt_val (pd_call G_l_is_formula (hr.mono (by omega)) rfl (pda_cons (pd_meth1K G_putK (hr.mono (by omega)) (pd_var 1) (pd_var 5)) (pda_cons (pd_call G_l_put (hr.mono (by omega)) rfl (pda_cons (pd_var 2) (pda_cons (pd_var 4) pda_nil))) pda_nil)))))))) (pdb_one (pds_ret pd_bl)) pdb_nil)
      (pdb_one (pds_ret (pd_and (pd_call G_l_is_formula (hr.mono (by omega)) rfl (pda_cons (pd_meth G_put (hr.mono (by omega)) (pd_var 1) (pda_cons pd_dnew pda_nil)) (pda_cons (pd_var 2) pda_nil))) (pd_one (pd_call G_l_is_formula (hr.mono (by omega)) rfl (pda_cons (pd_var 1) (pda_cons (pd_var 2) pda_nil))))))))))))))))))), fun ds M q h => ?_⟩
  obtain ⟨a, js, t, syms, rfl, hM, hj, ⟨⟨ok, hnm⟩, hd⟩, hsy, hs0, hs4, hq⟩ := h
  have nm3 : ∀ {N : List Str} {x : Str}, atI (List.map D.str syms) (0 : Int) = some (.str x) → True := fun _ => trivial
  rw [← Mem.put_self hM]
  walk_at "w"
  intro pn hpn
  walk_at "w"
  intro ph hph
  have h1 : pn ≠ a := fun e => by rw [e, Mem.put_same] at hpn; cases hpn
  have h3 : ph ≠ pn := fun e => by rw [e, Mem.put_same] at hph; cases hph
  have h2 : ph ≠ a := fun e => by rw [e, Mem.put_ne h1.symm, Mem.put_same] at hph; cases hph
  rw [show (((M.put a (.lst js)).put pn (.dct [])).put ph (.dct [])) = Mem3 M a pn ph js (dctT []) (dctF A.Formula []) from rfl]
  walk_at "w"
  refine ⟨a, 3, js, rfl, m3_a h1 h2, hj, ⟨by decide, by decide +kernel⟩, fun r js2 r0 r1 hj2 => ?_⟩
  rw [m3_pa h1 h2]
  walk_at "w"
  refine ⟨by rw [List.length_map]; omega, by rw [List.length_map]; omega, ?_⟩
  have ecut : ((List.map D.str syms).length : Int) = (syms.length : Int) := by rw [List.length_map]
  rw [ecut, Int.toNat_natCast]
  refine for_by (fun rest Γ M' => ∃ es n js v7 v11, Γ = [some (.ptr a), some (frmD A.Formula t), some (encT t), some (.lst (List.map D.str syms)), some (.ptr pn), some (.ptr ph), some (.bl (decide (r = 0))), v7, none, none, none, v11] ∧ M' = Mem3 M a pn ph js (dctT es) (dctF A.Formula es) ∧ JarL js ∧ PartsOk es n ∧ n + rest.length ≤ 4 ∧ ∀ d ∈ rest, ∃ k : Nat, d = .int k ∧ k < syms.length) ?_ ?_ _ _ _ ⟨[], 0, js2, none, none, rfl, rfl, hj2, ⟨(fun _ h => nomatch h), Nat.le_refl _⟩, by rw [ints_length]; omega, fun d hd => nums_nat hd⟩
  · rintro Γ M' ⟨es, n, js, v7, v11, rfl, rfl, hj, hpe, hn, _⟩
    walk_at "w"
    intro p1 hp1
    refine ⟨p1, _, .num 7, rfl, Mem.put_same, ⟨by decide, by decide⟩, Nat.zero_le _, .inl ⟨"7", 0, rfl, by decide, lo_dig 7 (by decide +kernel) (by decide +kernel)⟩, ?_⟩
    refine ⟨rfl, .inl ⟨_, _, hp1, by rw [Mem.put_put], ?_⟩⟩
    walk_at "w"
    refine ⟨syms, rfl, by omega, fun sx gx hxs => ?_⟩
    walk_at "w"
    rw [m3_h]
    walk_at "w"
    refine ⟨by unfold dctF; rw [List.length_map]; have := hpe.2; unfold sizeLine; omega, ?_⟩
    rw [show putKD (dctF A.Formula es) (.inr sx) (.obj A.Formula [("_steps", .lst ((stepsT (.num 7)).map encS)), ("_text", .str (shownT (.num 7) 1))]) = dctF A.Formula (putE es sx (.num 7)) from putKD_map (frmD A.Formula) es sx (.num 7), m3_ph]
    have hpe2 := hpe.put (x := sx) (u := .num 7) gx ⟨by decide, by decide⟩ (Nat.zero_le _)
    walk_at "w"
    refine ⟨t, pn, es, rfl, by omega, m3_n h3, ?_⟩
    walk_at "w"
    rw [m3_dh]
    walk_at "w"
    refine ⟨⟨_, rfl, rfl⟩, ?_⟩
    walk_at "w"
    refine ⟨t, .ptr ph, putE es sx (.num 7), rfl, m3_dh, ⟨ok, hd⟩, fun e he => (hpe2.1 e he).1, by have := hpe2.2; omega, ?_⟩
    walk_at "w"
    rw [m3_dh]
    walk_at "w"
    have hkp := keysF A.Formula (putE es sx (.num 7))
    have shk : SeqAt.shaped (.list (((putE es sx (.num 7)).map (·.1)).map .str)) = true := shaped_strs _ fun x hx => by
      obtain ⟨e, he, rfl⟩ := List.mem_map.mp hx
      exact name_strOk (hpe2.1 e he).2
    refine ⟨.list (((putE es sx (.num 7)).map (·.1)).map .str), .list (((putE es sx (.num 7)).map (·.1)).map .str), by rw [hkp]; exact .lst (pds_strs _), by rw [hkp]; exact .lst (pds_strs _), shk, shk, ?_⟩
    rw [eqv_strs]
    obtain ⟨x0, hx0, hxm0⟩ : ∃ x, atI (List.map D.str syms) (0 : Int) = some (.str x) ∧ x ∈ syms := by
      obtain ⟨y, hy, hym, _⟩ := atI_nat (xs := List.map D.str syms) (i := (0 : Int)) (by omega) (by rw [List.length_map]; omega)
      obtain ⟨x, hx, rfl⟩ := List.mem_map.mp hym
      exact ⟨x, hy, hx⟩
    have gx0 := hsy x0 hxm0
    have hpe3 := hpe2.put (x := x0) (u := .num 5) gx0 ⟨by decide, by decide⟩ (Nat.zero_le _)
    have hpe4 := hpe.put (x := x0) (u := .num 5) gx0 ⟨by decide, by decide⟩ (Nat.zero_le _)
    have goodP : ∀ {fs : List (Str × Tr)} {m : Nat}, PartsOk fs m → GoodT (putT (fun x => fs.lookup x) t) ∧ (putT (fun x => fs.lookup x) t).deep ≤ 16 := fun {fs m} h =>
      ⟨good_put (f := fun x => fs.lookup x) (fun y u e => (h.1 _ (lookup_mem e)).1.1) t ok, by
        have := deep_put (f := fun x => fs.lookup x) (d := 7) (fun y u e => (h.1 _ (lookup_mem e)).1.2) t
        omega⟩
    have e1 : putT (fun x => (putE es sx (.num 7)).lookup x) t = putT (fun x => es.lookup x) t := put_same_on t fun x hx => by
      show (putE es sx (.num 7)).lookup x = es.lookup x
      have hne : x ≠ sx := fun e => hxs (e ▸ hnm x hx)
      rw [lookup_putE, if_neg hne]
    have e2 : putT (fun x => (putE (putE es sx (.num 7)) x0 (.num 5)).lookup x) t = putT (fun x => (putE es x0 (.num 5)).lookup x) t := put_same_on t fun x hx => by
      show (putE (putE es sx (.num 7)) x0 (.num 5)).lookup x = (putE es x0 (.num 5)).lookup x
      have hne : x ≠ sx := fun e => hxs (e ▸ hnm x hx)
      simp only [lookup_putE, if_neg hne]
    walk_at "w"
    intro p2 hp2
    refine ⟨p2, _, .num 5, rfl, Mem.put_same, ⟨by decide, by decide⟩, Nat.zero_le _, .inl ⟨"5", 0, rfl, by decide, lo_dig 5 (by decide +kernel) (by decide +kernel)⟩, ?_⟩
    refine ⟨rfl, .inl ⟨_, _, hp2, by rw [Mem.put_put], ?_⟩⟩
    walk_at "w"
    rw [hx0]
    walk_at "w"
    rw [m3_h]
    walk_at "w"
    refine ⟨by unfold dctF; rw [List.length_map]; have := hpe2.2; unfold sizeLine; omega, ?_⟩
    rw [show putKD (dctF A.Formula (putE es sx (.num 7))) (.inr x0) (.obj A.Formula [("_steps", .lst ((stepsT (.num 5)).map encS)), ("_text", .str (shownT (.num 5) 1))]) = dctF A.Formula (putE (putE es sx (.num 7)) x0 (.num 5)) from putKD_map (frmD A.Formula) _ x0 (.num 5), m3_ph]
    walk_at "w"
    refine ⟨(Nat.le_of_ble_eq_true rfl : _ ≤ sizeLine), ?_⟩
    walk_at "w"
    rw [hx0]
    walk_at "w"
    rw [m3_n h3]
    walk_at "w"
    refine ⟨by unfold dctT; rw [List.length_map]; have := hpe.2; unfold sizeLine; omega, ?_⟩
    rw [show putKD (dctT es) (.inr x0) (.tup [.str "num", .int 5]) = dctT (putE es x0 (.num 5)) from putKD_map encT es x0 (.num 5), m3_pn h3]
    walk_at "w"
    refine ⟨putT (fun x => es.lookup x) t, by rw [e1], goodP hpe, ?_⟩
    walk_at "w"
    refine ⟨⟨_, rfl, rfl⟩, ?_⟩
    walk_at "w"
    refine ⟨t, .ptr ph, putE (putE es sx (.num 7)) x0 (.num 5), rfl, m3_dh, ⟨ok, hd⟩, fun e he => (hpe3.1 e he).1, by have := hpe3.2; omega, ?_⟩
    walk_at "w"
    refine ⟨t, pn, putE es x0 (.num 5), rfl, by omega, m3_n h3, ?_⟩
    walk_at "w"
    refine ⟨putT (fun x => (putE es x0 (.num 5)).lookup x) t, by rw [e2], goodP hpe4, ?_⟩
    walk_at "w"
    refine ⟨⟨_, rfl, rfl⟩, ?_⟩
    walk_at "w"
    intro p3 hp3
    refine ⟨t, .ptr p3, [], rfl, dctD_ptr Mem.put_same, ⟨ok, hd⟩, fun e he => (nomatch he), Nat.zero_le _, ?_⟩
    walk_at "w"
    refine ⟨t, by rw [show putT (fun x => ([] : List (Str × Tr)).lookup x) t = t from putT_none t], ⟨ok, by omega⟩, ?_⟩
    walk_at "w"
    refine ⟨t, rfl, ⟨ok, by omega⟩, ?_⟩
    exact .le (fun b o e => Mem.le_put hp3 b o (m3_le (by rw [Mem.put_ne h1] at hpn ⊢; exact hpn) (by rw [Mem.put_ne h3, Mem.put_ne h2] at hph ⊢; exact hph) b o e)) (hq _ hj)
  · rintro d ds Γ M' ⟨es, n, js, v7, v11, rfl, rfl, hj, hpe, hn, hds⟩ ih
    obtain ⟨k, rfl, hk⟩ := hds d (List.mem_cons_self ..)
    have hds2 := fun d hd => hds d (List.mem_cons_of_mem _ hd)
    obtain ⟨x, hx, hxm⟩ : ∃ x, atI (List.map D.str syms) (k : Int) = some (.str x) ∧ x ∈ syms := by
      obtain ⟨y, hy, hym, _⟩ := atI_nat (xs := List.map D.str syms) (i := (k : Int)) (by omega) (by rw [List.length_map]; omega)
      obtain ⟨x, hx, rfl⟩ := List.mem_map.mp hym
      exact ⟨x, hy, hx⟩
    obtain ⟨y, hy, hym⟩ : ∃ x, atI (List.map D.str syms) ((k : Int) - 1) = some (.str x) ∧ x ∈ syms := by
      obtain ⟨z, hz⟩ := atI_any (l := List.map D.str syms) (j := (k : Int) - 1) (by rw [List.length_map]; omega) (by rw [List.length_map]; omega)
      have hzm : z ∈ List.map D.str syms := by
        obtain ⟨j, _, hj⟩ := Option.bind_eq_some_iff.mp hz
        exact List.mem_of_getElem? hj
      obtain ⟨x, hx, rfl⟩ := List.mem_map.mp hzm
      exact ⟨x, hz, hx⟩
    walk_at "w"
    refine ⟨fun Γ M' => ∃ js p, Γ = [some (.ptr a), some (frmD A.Formula t), some (encT t), some (.lst (List.map D.str syms)), some (.ptr pn), some (.ptr ph), some (.bl (decide (r = 0))), some (.int k), none, none, none, some (encT p)] ∧ M' = Mem3 M a pn ph js (dctT es) (dctF A.Formula es) ∧ JarL js ∧ GoodT p ∧ p.deep ≤ 2, ?_, ?_⟩
    · walk_at "w"
      refine wite_d (fun z => ?_) fun z => ?_
      · walk_at "w"
        rw [hy]
        walk_at "w"
        refine ⟨(Nat.le_of_ble_eq_true rfl : _ ≤ sizeLine), ?_⟩
        exact ⟨js, .name y, rfl, rfl, hj, hsy y hym, Nat.zero_le _⟩
      · walk_at "w"
        refine ⟨a, 3, js, rfl, m3_a h1 h2, hj, ⟨by decide, by decide +kernel⟩, fun r3 js2 g0 g1 hj2 => ?_⟩
        rw [m3_pa h1 h2]
        walk_at "w"
        refine ⟨(Nat.le_of_ble_eq_true rfl : _ ≤ sizeLine), ?_⟩
        walk_at "w"
        refine ⟨a, js2, syms, r3, ["add", "sub", "mul", "div", "pow", "neg", "root"], rfl, by omega, by omega, m3_a h1 h2, hj2, hsy, by omega, by decide, by decide, ⟨"add", by decide, by decide⟩, fun p js3 gp dp hj3 => ?_⟩
        rw [m3_pa h1 h2]
        exact ⟨js3, p, rfl, rfl, hj3, gp.1, by omega⟩
    · rintro Γ M1 ⟨js, p, rfl, rfl, hj, gp, dp⟩
      simp only [List.length_cons] at hn
      have pz : p.sz ≤ 7 := by
        have h1 := p.sz_le
        have h2 : 2 ^ (p.deep + 1) ≤ 2 ^ 3 := Nat.pow_le_pow_right (by decide) (by omega)
        have h3 : (2 : Nat) ^ 3 = 8 := by decide
        omega
      generalize decide (r = 0) = sw at ih ⊢
      cases sw with
      | true =>
        walk_at "w"
        rw [hx]
        walk_at "w"
        rw [m3_n h3]
        walk_at "w"
        refine ⟨by unfold dctT; rw [List.length_map]; have := hpe.2; unfold sizeLine; omega, ?_⟩
        rw [show putKD (dctT es) (.inr x) (encT p) = dctT (putE es x p) from putKD_map encT es x p, m3_pn h3]
        walk_at "w"
        refine ⟨a, js, p, 1, rfl, by omega, m3_a h1 h2, hj, ⟨gp, by omega, by decide, by decide⟩, fun toks js4 hlo hlen hj4 => ?_⟩
        rw [m3_pa h1 h2]
        walk_at "w"
        refine ⟨a, js4, toks, rfl, m3_a h1 h2, hj4, hlo.toks gp, by have := sz_le (t := p) (by omega); have := pz; omega, fun z js5 e hsp hz hj5 => ?_⟩
        rw [m3_pa h1 h2]
        walk_at "w"
        intro p1 hp1
        refine ⟨p1, _, p, rfl, Mem.put_same, gp, by omega, .inl ⟨z, _, rfl, by omega, by rw [tokL_sp hsp]; exact hlo⟩, ?_⟩
        refine ⟨rfl, .inl ⟨_, _, hp1, by rw [Mem.put_put], ?_⟩⟩
        walk_at "w"
        rw [hx]
        walk_at "w"
        rw [m3_h]
        walk_at "w"
        refine ⟨by unfold dctF; rw [List.length_map]; have := hpe.2; unfold sizeLine; omega, ?_⟩
        rw [show putKD (dctF A.Formula es) (.inr x) (.obj A.Formula [("_steps", .lst ((stepsT p).map encS)), ("_text", .str (shownT p 1))]) = dctF A.Formula (putE es x p) from putKD_map (frmD A.Formula) es x p, m3_ph]
        exact ih _ _ ⟨putE es x p, n + 1, js5, _, _, rfl, rfl, hj5, hpe.put (hsy x hxm) gp (by omega), by omega, hds2⟩
      | false =>
        walk_at "w"
        refine ⟨a, 3, js, rfl, m3_a h1 h2, hj, ⟨by decide, by decide +kernel⟩, fun r3 js2 g0 g1 hj2 => ?_⟩
        rw [m3_pa h1 h2]
        walk_at "w"
        refine wite_d (fun z => ?_) fun z => ?_
        rotate_left
        · exact ih _ _ ⟨es, n, js2, _, _, rfl, rfl, hj2, hpe, by omega, hds2⟩
        walk_at "w"
        rw [hx]
        walk_at "w"
        rw [m3_n h3]
        walk_at "w"
        refine ⟨by unfold dctT; rw [List.length_map]; have := hpe.2; unfold sizeLine; omega, ?_⟩
        rw [show putKD (dctT es) (.inr x) (encT p) = dctT (putE es x p) from putKD_map encT es x p, m3_pn h3]
        walk_at "w"
        refine ⟨a, js2, p, 1, rfl, by omega, m3_a h1 h2, hj2, ⟨gp, by omega, by decide, by decide⟩, fun toks js4 hlo hlen hj4 => ?_⟩
        rw [m3_pa h1 h2]
        walk_at "w"
        refine ⟨a, js4, toks, rfl, m3_a h1 h2, hj4, hlo.toks gp, by have := sz_le (t := p) (by omega); have := pz; omega, fun z js5 e hsp hz hj5 => ?_⟩
        rw [m3_pa h1 h2]
        walk_at "w"
        intro p1 hp1
        refine ⟨p1, _, p, rfl, Mem.put_same, gp, by omega, .inl ⟨z, _, rfl, by omega, by rw [tokL_sp hsp]; exact hlo⟩, ?_⟩
        refine ⟨rfl, .inl ⟨_, _, hp1, by rw [Mem.put_put], ?_⟩⟩
        walk_at "w"
        rw [hx]
        walk_at "w"
        rw [m3_h]
        walk_at "w"
        refine ⟨by unfold dctF; rw [List.length_map]; have := hpe.2; unfold sizeLine; omega, ?_⟩
        rw [show putKD (dctF A.Formula es) (.inr x) (.obj A.Formula [("_steps", .lst ((stepsT p).map encS)), ("_text", .str (shownT p 1))]) = dctF A.Formula (putE es x p) from putKD_map (frmD A.Formula) es x p, m3_ph]
        exact ih _ _ ⟨putE es x p, n + 1, js5, _, _, rfl, rfl, hj5, hpe.put (hsy x hxm) gp (by omega), by omega, hds2⟩
end
end D2

set_option maxRecDepth 100000
set_option maxHeartbeats 2000000
set_option pp.maxSteps 60
set_option pp.deepTerms false
namespace D2
open PySem PySem.Spec PyProof.Rows L2
local macro_rules | `(tactic| walk_at "wp") => `(tactic| conv => whnf)
local macro_rules | `(tactic| walk_at "w") => `(tactic| (conv => whnf) <;> repeat ((first | rw [seqD_ptr Mem.put_same] | rw [atI_zero] | rw [lstD_ptr Mem.put_same] | rw [dctD_ptr Mem.put_same] | rw [objD_ptr Mem.put_same] | rw [Mem.put_same]); conv => whnf))
local macro_rules | `(tactic| walk_at "v") => `(tactic| (conv => whnf) <;> repeat ((first | rw [seqD_ptr Mem.put_same] | rw [atI_zero] | rw [Mem.put_same] | rw [seqD_ptr (Mem.at2 (by assumption))] | rw [Mem.at2 (by assumption)]); conv => whnf))
local macro_rules | `(tactic| walk_at "a") => `(tactic| (walk_at "w") <;> repeat (refine ⟨(by first | exact mulR ⟨by omega, by omega⟩ | exact mulL ⟨by omega, by omega⟩ | (show (0 : Int) < _; omega) | exact ⟨by omega, by decide +kernel⟩ | exact ⟨by decide, by decide, by decide⟩), ?_⟩ <;> walk_at "w"))
local macro_rules | `(tactic| walk_at "i") => `(tactic| ((walk_at "w") <;> (refine ⟨trivial, by first | exact .inl rfl | exact .inr (.inl rfl) | exact .inr (.inr (.inl rfl)) | exact .inr (.inr (.inr (.inl rfl))) | exact .inr (.inr (.inr (.inr (.inl rfl)))), ?_⟩)))
section
variable {P : Program} {w : World} {K : W.Frag} {mg : Str → Option Value} {base : Heap} {A : Ad}
theorem rows_snoc {s1 : List Step} {acc : List D} {s : Step} {d : D} (h : Rows s1 acc) (g : RowOf s d) : Rows (s1 ++ [s]) (acc ++ [d]) := by
  induction h with
  | nil => exact .cons g .nil
  | cons a b ih => exact .cons a ih
theorem rows_ps {st : List Step} {rows : List D} (h : Rows st rows) : (∀ s ∈ st, GoodS s) → ∃ ps, Pds rows ps ∧ ShOk ps 1 (16 * st.length) := by
  induction h with
  | nil => exact fun _ => ⟨[], .nil, .nil⟩
  | @cons s d ss ds a b ih =>
    intro g
    obtain ⟨ps, h1, h2⟩ := ih fun x hx => g x (List.mem_cons_of_mem _ hx)
    obtain ⟨p, _, h3, h4⟩ := shown_row (g s (List.mem_cons_self ..)) a h1 h2
    exact ⟨p :: ps, h3, h4.mono (by rw [List.length_cons]; omega)⟩
theorem tyv_obj {M : Mem} {C : Addr} {gs : List (Str × D)} (d : ClD K C) : TyV K M (.obj C gs) (.ref C) := fun F H v s h => by
  cases h with
  | obj h1 h2 => exact d.ob.ty H _ _ _ (s.sub _ _ h1)
theorem tyv_str {M : Mem} {z : Str} : TyV K M (.str z) (.type "str") := fun F H v s h => tyX_of s.sub h (.str _)
theorem sc_law : FnScope ["script", "jar", "syms", "turn", "menu", "tree", "formula", "handed", "kept", "made", "other_tree", "twin", "step"] ["script"] (defScope (top 57)) := ⟨rfl, rfl, rfl, by decide +kernel, rfl, by decide +kernel, by decide +kernel⟩
theorem run_law (T : Txt K mg A) (hroom : Room 140 callerA)(G_text : ∀ base, MtAt P w K mg base 1 A.Formula "text" (S_str A)) (G_eq : ∀ base, MtAt P w K mg base 1 A.Formula "__eq__" (S_eqF A)) (G_namesP : ∀ base, MtAt P w K mg base 1 A.Formula "names" (S_namesP A)) (G_stepsP : ∀ base, MtAt P w K mg base 1 A.Formula "steps" (S_stepsP A)) (G_ofP : ∀ base, SmAt2 P w K mg base 8 A.Formula "of" "steps" (S_ofP A)) (G_ofT : ∀ base, SmAt2 P w K mg base 8 A.Formula "of" "steps" (S_ofT A)) (G_Formula : ∀ base, MkAt P w K mg base 6 "Formula" A.Formula (S_init A) []) (GK_Formula : ∀ base, MkAtK P w K mg base 6 "Formula" A.Formula "text" (S_init A)) (G_l_is_formula : ∀ base, FnAt P w K mg base 124 "_law_is_formula" (S_isF A)) (G_l_puts : ∀ base, FnAt P w K mg base 130 "_law_puts" (S_puts A)) (G_l_steps : ∀ base, FnAt P w K mg base 17 "_law_steps" (S_l_steps 17)) (G_l_tree : ∀ base, FnAt P w K mg base 30 "_law_tree" (S_l_tree 28)) (G_l_loose : ∀ base, FnAt P w K mg base 30 "_law_loose" (S_l_loose 27)) (G_l_twin : ∀ base, FnAt P w K mg base 30 "_law_twin" (S_l_twin 28)) (G_l_like : ∀ base, FnAt P w K mg base 10 "_law_like" (S_l_like 10)) (G_l_draw : ∀ base, FnAt P w K mg base 1 "_law_draw" S_l_draw) (G_l_jar : ∀ base, FnAt P w K mg base 1 "_law_jar" S_l_jar) (G_l_pick : ∀ base, FnAt P w K mg base 2 "_law_pick" S_l_pick) (G_l_spaced : ∀ base, FnAt P w K mg base 3 "_law_spaced" S_l_spaced) (G_l_syms : ∀ base, FnAt P w K mg base 4 "_law_syms" S_l_syms) : ∃ f, mg "law" = some (.ref f) ∧ Runs P w K mg CX0 f (spT K S_law3) := by
  obtain ⟨f, fd, F, hm, hb⟩ := T.F_law.ex
  refine ⟨f, hm, runsT F hb sc_law (fun ds M q h => by first | (obtain ⟨e, _⟩ := h; rw [e]; rfl) | (obtain ⟨_, e, _⟩ := h; rw [e]; rfl) | (obtain ⟨_, _, e, _⟩ := h; rw [e]; rfl) | (obtain ⟨_, _, _, e, _⟩ := h; rw [e]; rfl)) fun base cdv s H => ?_⟩
  have S := sc_law
  have hr := hroom.deeper (envOfC "law" (defScope (top 57)) s.heap.objs.size f cdv)
  have hu := hr.units
  have hu1 := Nat.lt_of_le_of_lt (Nat.add_le_add_left (by decide : 1 ≤ 64) _) hu
  have hgd : (callerA.deeper (envOfC "law" (defScope (top 57)) s.heap.objs.size f cdv)).guards = some [] := rfl
  have G_text := G_text base
  have G_eq := G_eq base
  have G_namesP := G_namesP base
  have G_stepsP := G_stepsP base
  have G_ofP := G_ofP base
  have G_ofT := G_ofT base
  have G_Formula := G_Formula base
  have GK_Formula := GK_Formula base
  have G_l_is_formula := G_l_is_formula base
  have G_l_puts := G_l_puts base
  have G_l_steps := G_l_steps base
  have G_l_tree := G_l_tree base
  have G_l_loose := G_l_loose base
  have G_l_twin := G_l_twin base
  have G_l_like := G_l_like base
  have G_l_draw := G_l_draw base
  have G_l_jar := G_l_jar base
  have G_l_pick := G_l_pick base
  have G_l_spaced := G_l_spaced base
  have G_l_syms := G_l_syms base
  refine ⟨_, _, (pdb_cons (pds_set (i := 1) S.nd rfl (Or.inr rfl) (pd_call G_l_jar (hr.mono (by omega)) rfl (pda_cons (pd_var 0) pda_nil)))
      (pdb_cons (pds_set (i := 2) S.nd rfl (Or.inl rfl) (pd_call G_l_syms (hr.mono (by omega)) rfl (pda_cons (pd_var 1) (pda_cons (pd_op po_add pd_int (pd_call G_l_draw (hr.mono (by omega)) rfl (pda_cons (pd_var 1) (pda_cons pd_int pda_nil)))) (pda_cons (pd_lst pda_nil) pda_nil)))))
      (pdb_cons (pds_for PassesOwn.never rfl (pi_r1 rfl T.n_range (pda_cons pd_int pda_nil)) (pdg_name (i := 3) S.nd rfl (Or.inl rfl)) (pdb_cons (pds_set (i := 4) S.nd rfl (Or.inl rfl) (pd_call G_l_pick (hr.mono (by omega)) rfl (pda_cons (pd_var 1) (pda_cons (pd_lst (pda_cons (pd_lst (pda_cons pd_str (pda_cons pd_str (pda_cons pd_str (pda_cons pd_str (pda_cons pd_str (pda_cons pd_str (pda_cons pd_str (pda_cons pd_str pda_nil))))))))) (pda_cons (pd_lst (pda_cons pd_str (pda_cons pd_str pda_nil))) (pda_cons (pd_lst (pda_cons pd_str (pda_cons pd_str (pda_cons pd_str pda_nil)))) (pda_cons (pd_lst (pda_cons pd_str (pda_cons pd_str (pda_cons pd_str (pda_cons pd_str (pda_cons pd_str (pda_cons pd_str pda_nil))))))) pda_nil))))) pda_nil))))
      (pdb_cons (pds_set (i := 5) S.nd rfl (Or.inl rfl) (pd_call G_l_tree (hr.mono (by omega)) rfl (pda_cons (pd_var 1) (pda_cons (pd_var 2) (pda_cons (pd_op po_add pd_int (pd_call G_l_draw (hr.mono (by omega)) rfl (pda_cons (pd_var 1) (pda_cons pd_int pda_nil)))) (pda_cons (pd_var 4) pda_nil))))))
      (pdb_cut (pds_if (pdt_cmp (po_eq hu) (pd_var 3) pd_int (nomark _)) (pdb_one (pds_set (i := 5) S.nd rfl (Or.inl rfl) (pd_tup (pda_cons (pd_call G_l_pick (hr.mono (by omega)) rfl (pda_cons (pd_var 1) (pda_cons (pd_lst (pda_cons pd_str (pda_cons pd_str (pda_cons pd_str (pda_cons pd_str pda_nil))))) pda_nil))) (pda_cons (pd_var 5) (pda_cons (pd_tup (pda_cons pd_str (pda_cons (pd_ix (pd_var 2) pd_int fun _ _ => rfl) pda_nil))) pda_nil)))))) pdb_nil)
      (pdb_cons (pds_set (i := 6) S.nd rfl (Or.inl rfl) (pd_make G_Formula (fun _ => .nil) (hr.mono (by omega)) rfl (pda_cons (pd_call G_l_spaced (hr.mono (by omega)) rfl (pda_cons (pd_var 1) (pda_cons (pd_call G_l_loose (hr.mono (by omega)) rfl (pda_cons (pd_var 1) (pda_cons (pd_var 5) (pda_cons pd_int pda_nil)))) pda_nil))) pda_nil)))
      (pdb_cons (pds_if (pdt_not (pdt_val (pd_call G_l_is_formula (hr.mono (by omega)) rfl (pda_cons (pd_var 6) (pda_cons (pd_var 5) pda_nil))))) (pdb_one (pds_ret pd_bl)) pdb_nil)
      (pdb_cons (pds_expr (pd_app (pd_meth0 G_namesP (hr.mono (by omega)) (pd_var 6)) pd_str))
      (pdb_cut (pds_expr (pd_app (pd_meth0 G_stepsP (hr.mono (by omega)) (pd_var 6)) (pd_tup (pda_cons pd_str pda_nil))))
      (pdb_cut (pds_setLcC (i := 7) rfl S.nd rfl rfl (sw_true rfl rfl rfl (by decide +kernel)) (own := [("step", 12)]) (pi_l (pd_call G_l_steps (hr.mono (by omega)) rfl (pda_cons (pd_var 5) pda_nil))) (blkOk_by (N := ["script", "jar", "syms", "turn", "menu", "tree", "formula", "handed", "kept", "made", "other_tree", "twin", "step"]) (sc := (defScope (top 57))) (by decide +kernel)) (fun _ _ _ _ _ => (pg_name (i := 12) S.nd rfl (Or.inl rfl))) pdgc_1 (fun _ _ _ _ _ => blkT pdts_nil (by first | dsimp only | exact rfl) (by first | dsimp only | exact rfl)) fun _ _ _ _ _ => blkE (pd_if (pdt_cmp (po_eq hu) (pd_call G_l_draw (hr.mono (by omega)) rfl (pda_cons (pd_var 1) (pda_cons pd_int pda_nil))) pd_int (nomark _)) (pd_callTy (pc_list rfl) rfl T.n_list (by decide +kernel) (pda_cons (pd_var 12) pda_nil)) (pd_var 12)) (by first | dsimp only | exact rfl) (by first | dsimp only | exact rfl))
      (pdb_cons (pds_set (i := 8) S.nd rfl (Or.inl rfl) (pd_callB (pc_repr hgd hu) rfl T.n_repr (by decide +kernel) (pda_cons (pd_var 7) pda_nil)))
      (pdb_cut (pds_set (i := 9) S.nd rfl (Or.inl rfl) (pd_if (pdt_cmp po_gt (pd_var 3) pd_int (nomark _)) (pd_sm (SmAt2.at_ G_ofP) (hr.mono (by omega)) rfl T.m_Formula (pda_cons (pd_var 7) pda_nil)) (pd_sm1K (SmAt2.at_ G_ofT) (SmAt2.kw G_ofT) (hr.mono (by omega)) rfl T.m_Formula (pd_callTy pc_tuple rfl T.n_tuple (by decide +kernel) (pda_cons (pd_var 7) pda_nil)))))
      (pdb_cons (pds_if (PDW.pdt (pdt_or (pdt_not (pdt_val (pd_call G_l_is_formula (hr.mono (by omega)) rfl (pda_cons (pd_var 9) (pda_cons (pd_var 5) pda_nil))))) (pdt_or (pdt_cmp (po_ne hu) (pd_callB (pc_repr hgd hu) rfl T.n_repr (by decide +kernel) (pda_cons (pd_var 7) pda_nil)) (pd_var 8) (nomark _)) (pdt_or1 (pdt_not (pdt_cmp (po_eqO G_eq (hr.mono (by omega))) (pd_var 9) (pd_var 6) (nomark _))))))) (pdb_one (pds_ret pd_bl)) pdb_nil)
      (pdb_cut (pds_expr (pd_app (pd_var 7) (pd_tup (pda_cons pd_str pda_nil))))
      (pdb_cons (pds_set (i := 10) S.nd rfl (Or.inl rfl) (pd_call G_l_twin (hr.mono (by omega)) rfl (pda_cons (pd_var 1) (pda_cons (pd_var 5) pda_nil))))
      (pdb_cut (pds_set (i := 11) S.nd rfl (Or.inl rfl) (pd_make1K GK_Formula (hr.mono (by omega)) rfl (pd_call G_l_spaced (hr.mono (by omega)) rfl (pda_cons (pd_var 1) (pda_cons (pd_call G_l_loose (hr.mono (by omega)) rfl (pda_cons (pd_var 1) (pda_cons (pd_var 10) (pda_cons pd_int pda_nil)))) pda_nil)))))
      (pdb_cons (pds_if (PDW.pdt (pdt_or (pdt_not (pdt_val (pd_call G_l_is_formula (hr.mono (by omega)) rfl (pda_cons (pd_var 11) (pda_cons (pd_var 10) pda_nil))))) (pdt_or1 (pdt_not (pdt_val (pd_call G_l_like (hr.mono (by omega)) rfl (pda_cons (pd_cmp (po_eqO G_eq (hr.mono (by omega))) (pd_var 11) (pd_var 6) (nomark _)) (pda_cons (pd_cmp (po_eq hu) (pd_var 10) (pd_var 5) (nomark _)) pda_nil)))))))) (pdb_one (pds_ret pd_bl)) pdb_nil)
      (pdb_cons (pds_if (PDW.pdt (pdt_or (pdt_cmp po_isn (pd_cmp (po_eqO G_eq (hr.mono (by omega))) (pd_var 6) (pd_meth0 G_text (hr.mono (by omega)) (pd_var 6)) (nomark _)) pd_bl (nomark _)) (pdt_or (pdt_not (pdt_cmp (po_eqO G_eq (hr.mono (by omega))) (pd_make G_Formula (fun _ => .nil) (hr.mono (by omega)) rfl (pda_cons (pd_meth0 G_text (hr.mono (by omega)) (pd_var 6)) pda_nil)) (pd_var 6) (nomark _))) (pdt_or1 (pdt_not (pdt_val (pd_call G_l_is_formula (hr.mono (by omega)) rfl (pda_cons (pd_var 9) (pda_cons (pd_var 5) pda_nil))))))))) (pdb_one (pds_ret pd_bl)) pdb_nil)
      (pdb_one (pds_if (pdt_not (pdt_val (pd_call G_l_puts (hr.mono (by omega)) rfl (pda_cons (pd_var 1) (pda_cons (pd_var 6) (pda_cons (pd_var 5) (pda_cons (pd_var 2) pda_nil))))))) (pdb_one (pds_ret pd_bl)) pdb_nil)))))))))))))))))))
      (pdb_one (pds_ret pd_bl))))), fun ds M q h => ?_⟩
  obtain ⟨cs, rfl, hq⟩ := h
  walk_at "w"
  refine ⟨cs, rfl, fun a js hM hj => ?_⟩
  walk_at "w"
  refine ⟨a, 4, js, rfl, Mem.put_same, hj, ⟨by decide, by decide +kernel⟩, fun r js2 r0 r1 hj2 => ?_⟩
  rw [Mem.put_put]
  walk_at "w"
  refine ⟨(Nat.le_of_ble_eq_true rfl : _ ≤ sizeLine), ?_⟩
  walk_at "w"
  refine ⟨a, 1 + r, js2, rfl, Mem.put_same, hj2, by omega, by omega, fun ns js3 hns hgood hnd hj3 => ?_⟩
  rw [Mem.put_put]
  walk_at "w"
  refine ⟨by decide, by decide, ?_⟩
  obtain ⟨x0, hx0, hxm0⟩ : ∃ x, atI (List.map D.str ns) (0 : Int) = some (.str x) ∧ x ∈ ns := by
    obtain ⟨y, hy, hym, _⟩ := atI_nat (xs := List.map D.str ns) (i := (0 : Int)) (by omega) (by rw [List.length_map]; omega)
    obtain ⟨x, hx, rfl⟩ := List.mem_map.mp hym
    exact ⟨x, hy, hx⟩
  refine for_by (fun rest Γ M' => ∃ js v3 v4 v5 v6 v7 v8 v9 v10 v11 v12, Γ = [some (.scr (cs.map .int)), some (.ptr a), some (.lst (ns.map .str)), v3, v4, v5, v6, v7, v8, v9, v10, v11, v12] ∧ M' a = some (.lst js) ∧ JarL js ∧ ∀ d ∈ rest, ∃ k : Nat, d = .int k) ?_ ?_ _ _ _ ⟨js3, none, none, none, none, none, none, none, none, none, none, rfl, Mem.put_same, hj3, fun d hd => (nums_nat hd).imp fun k hk => hk.1⟩
  · rintro Γ M' ⟨js, v3, v4, v5, v6, v7, v8, v9, v10, v11, v12, rfl, hMa, hj, _⟩
    walk_at "w"
    exact .of (hq _)
  · rintro d ds Γ M0 ⟨js, v3, v4, v5, v6, v7, v8, v9, v10, v11, v12, rfl, hMa, hj, hds⟩ ih
    obtain ⟨k, rfl⟩ := hds d (List.mem_cons_self ..)
    have hds2 := fun d hd => hds d (List.mem_cons_of_mem _ hd)
    walk_at "w"
    refine ⟨(Nat.le_of_ble_eq_true rfl : _ ≤ sizeLine), ?_⟩
    walk_at "w"
    refine ⟨(Nat.le_of_ble_eq_true rfl : _ ≤ sizeLine), ?_⟩
    walk_at "w"
    refine ⟨(Nat.le_of_ble_eq_true rfl : _ ≤ sizeLine), ?_⟩
    walk_at "w"
    refine ⟨(Nat.le_of_ble_eq_true rfl : _ ≤ sizeLine), ?_⟩
    walk_at "w"
    refine ⟨(Nat.le_of_ble_eq_true rfl : _ ≤ sizeLine), ?_⟩
    walk_at "w"
    refine ⟨a, js, _, rfl, hMa, hj, (Nat.le_of_ble_eq_true rfl : 1 ≤ _), (Nat.le_of_ble_eq_true rfl : _ ≤ sizeLine), fun m js1 hm hj1 => ?_⟩
    obtain ⟨L, rfl, hL1, hL2, hL3⟩ : ∃ L : List Str, m = .lst (L.map .str) ∧ (∀ m ∈ L, m ∈ (["add", "sub", "mul", "div", "pow", "neg", "root", "i"] : List Str)) ∧ L.length ≤ 100 ∧ ∃ m ∈ L, m ≠ ("i" : Str) := by
      simp only [List.mem_cons, List.not_mem_nil, or_false] at hm
      rcases hm with rfl | rfl | rfl | rfl
      · exact ⟨["add", "sub", "mul", "div", "pow", "neg", "root", "i"], rfl, by decide, by decide, "add", by decide, by decide⟩
      · exact ⟨["add", "sub"], rfl, by decide, by decide, "add", by decide, by decide⟩
      · exact ⟨["mul", "div", "neg"], rfl, by decide, by decide, "mul", by decide, by decide⟩
      · exact ⟨["add", "sub", "mul", "div", "neg", "pow"], rfl, by decide, by decide, "add", by decide, by decide⟩
    walk_at "w"
    refine ⟨a, 4, js1, rfl, Mem.put_same, hj1, ⟨by decide, by decide +kernel⟩, fun r2 js2 g0 g1 hj2 => ?_⟩
    rw [Mem.put_put]
    walk_at "w"
    refine ⟨a, js2, ns, 1 + r2, L, rfl, by omega, by omega, Mem.put_same, hj2, hgood, by omega, hL1, hL2, hL3, fun t js3 gt dt hj3 => ?_⟩
    rw [Mem.put_put]
    walk_at "w"
    refine ⟨fun Γ M' => ∃ t js, Γ = [some (.scr (cs.map .int)), some (.ptr a), some (.lst (ns.map .str)), some (.int k), some (.lst (L.map .str)), some (encT t), v6, v7, v8, v9, v10, v11, v12] ∧ M' = M0.put a (.lst js) ∧ JarL js ∧ GoodN ns t ∧ t.deep ≤ 5, ?_, ?_⟩
    · walk_at "w"
      refine wite_d (fun z => ?_) fun z => ⟨t, js3, rfl, rfl, hj3, gt, by omega⟩
      walk_at "w"
      refine ⟨(Nat.le_of_ble_eq_true rfl : _ ≤ sizeLine), ?_⟩
      walk_at "w"
      refine ⟨a, js3, _, rfl, Mem.put_same, hj3, (Nat.le_of_ble_eq_true rfl : 1 ≤ _), (Nat.le_of_ble_eq_true rfl : _ ≤ sizeLine), fun m js4 hm hj4 => ?_⟩
      rw [Mem.put_put]
      obtain ⟨o, rfl⟩ : ∃ o : Bn, m = .str o.tag := by
        simp only [List.mem_cons, List.not_mem_nil, or_false] at hm
        rcases hm with rfl | rfl | rfl | rfl
        · exact ⟨.add, rfl⟩
        · exact ⟨.sub, rfl⟩
        · exact ⟨.mul, rfl⟩
        · exact ⟨.div, rfl⟩
      walk_at "w"
      rw [hx0]
      walk_at "w"
      refine ⟨(Nat.le_of_ble_eq_true rfl : _ ≤ sizeLine), ?_⟩
      walk_at "w"
      refine ⟨(Nat.le_of_ble_eq_true rfl : _ ≤ sizeLine), ?_⟩
      exact ⟨.bin o t (.name x0), js4, rfl, rfl, hj4, gt.bin ⟨hgood x0 hxm0, fun y h => by rw [List.mem_singleton.mp h]; exact hxm0⟩, by simp only [Tr.deep]; omega⟩
    · clear hj3 hj2 hj1 hm gt dt
      rintro Γ M1 ⟨t, js4, rfl, rfl, hj4, ⟨ok, hnm⟩, hd⟩
      have hsz : t.sz ≤ 63 := by
        have h1 := t.sz_le
        have h2 : 2 ^ (t.deep + 1) ≤ 2 ^ 6 := Nat.pow_le_pow_right (by decide) (by omega)
        have h3 : (2 : Nat) ^ 6 = 64 := by decide
        omega
      walk_at "w"
      refine ⟨a, js4, t, 1, rfl, by omega, Mem.put_same, hj4, ⟨ok, by omega, by decide, by decide⟩, fun toks js5 hlo hlen hj5 => ?_⟩
      rw [Mem.put_put]
      walk_at "w"
      refine ⟨a, js5, toks, rfl, Mem.put_same, hj5, hlo.toks ok, by omega, fun z js6 e hsp hz hj6 => ?_⟩
      rw [Mem.put_put]
      walk_at "w"
      intro p1 hp1
      refine ⟨p1, _, t, rfl, Mem.put_same, ok, by omega, .inl ⟨z, _, rfl, by omega, by rw [tokL_sp hsp]; exact hlo⟩, ?_⟩
      refine ⟨rfl, .inl ⟨_, _, hp1, by rw [Mem.put_put], ?_⟩⟩
      walk_at "w"
      refine ⟨t, rfl, ⟨ok, by omega⟩, ?_⟩
      walk_at "w"
      refine ⟨⟨_, rfl, rfl⟩, ?_⟩
      walk_at "w"
      refine ⟨t, rfl, by omega, fun p hp => ?_⟩
      walk_at "w"
      refine ⟨⟨_, rfl⟩, ?_⟩
      walk_at "w"
      refine ⟨by rw [List.length_map]; have := names_len t; unfold sizeLine; omega, ?_⟩
      walk_at "w"
      have npa : p ≠ a := fun e => by rw [e, Mem.put_same] at hp; cases hp
      refine ⟨fun Γ M' => ∃ js, Γ = [some (.scr (cs.map .int)), some (.ptr a), some (.lst (ns.map .str)), some (.int k), some (.lst (L.map .str)), some (encT t), some (frmD A.Formula t), v7, v8, v9, v10, v11, v12] ∧ M' a = some (.lst js) ∧ JarL js, ?_, ?_⟩
      · walk_at "w"
        refine ⟨⟨_, rfl, rfl⟩, ?_⟩
        walk_at "w"
        refine ⟨t, rfl, fun p2 hp2 => ?_⟩
        walk_at "w"
        refine ⟨⟨_, rfl⟩, ?_⟩
        walk_at "w"
        refine ⟨(Nat.le_of_ble_eq_true rfl : _ ≤ sizeLine), ?_⟩
        walk_at "w"
        refine ⟨by rw [List.length_map, steps_len]; unfold sizeLine; omega, ?_⟩
        have np2 : p2 ≠ a := fun e => by
          rw [e] at hp2
          simp only [Mem.put_ne npa.symm, Mem.put_same] at hp2
          cases hp2
        exact ⟨js6, rfl, by simp only [Mem.put_ne np2.symm, Mem.put_ne npa.symm, Mem.put_same], hj6⟩
      · clear hp hp1 hj5 hj4 hlo hlen hsp npa
        rintro Γ M1 ⟨js7, rfl, hM1, hj7⟩
        have hsl := steps_len t
        walk_at "w"
        refine ⟨fun Γ M' => ∃ js h rows v12, Γ = [some (.scr (cs.map .int)), some (.ptr a), some (.lst (ns.map .str)), some (.int k), some (.lst (L.map .str)), some (encT t), some (frmD A.Formula t), some (.ptr h), v8, v9, v10, v11, v12] ∧ M' a = some (.lst js) ∧ JarL js ∧ M' h = some (.lst rows) ∧ Rows (stepsT t) rows ∧ h ≠ a, ?_, ?_⟩
        · walk_at "w"
          refine ⟨t, rfl, by omega, by omega, ?_⟩
          walk_at "w"
          refine ⟨by rw [List.length_map, hsl]; unfold sizeLine; omega, fun ph hph => ?_⟩
          have nha : ph ≠ a := fun e => by rw [e, hM1] at hph; cases hph
          refine lc_by (fun rest acc M' => ∃ s1 s2 js, stepsT t = s1 ++ s2 ∧ rest = s2.map encS ∧ Rows s1 acc ∧ M' = M1.put a (.lst js) ∧ JarL js) ?_ ?_ _ _ _ ⟨[], stepsT t, js7, rfl, rfl, .nil, (Mem.put_self hM1).symm, hj7⟩
          · rintro acc M' ⟨s1, s2, js, e, hr, hacc, rfl, hj⟩
            have hs2 : s2 = [] := by cases s2 with
              | nil => rfl
              | cons => cases hr
            subst hs2
            rw [List.append_nil] at e
            subst e
            walk_at "w"
            exact ⟨js, ph, acc, _, rfl, by rw [Mem.put_ne nha.symm, Mem.put_same], hj, Mem.put_same, hacc, nha⟩
          · rintro d ds acc M' ⟨s1, s2, js, e, hr, hacc, rfl, hj⟩ ih
            cases s2 with
            | nil => cases hr
            | cons s s2 =>
              cases hr
              walk_at "w"
              refine ⟨a, 4, js, rfl, by rw [Mem.put_ne nha.symm]; exact Mem.put_same, hj, ⟨by decide, by decide +kernel⟩, fun r5 js8 g0 g1 hj8 => ?_⟩
              rw [show ((M1.put a (.lst js)).put ph (.lst acc)).put a (.lst js8) = (M1.put a (.lst js8)).put ph (.lst acc) from Mem.put2 nha]
              obtain ⟨xs, ex⟩ : ∃ xs, encS s = .tup xs := by cases s <;> exact ⟨_, rfl⟩
              have fr : (M1.put a (.lst js8)) ph = none := by rw [Mem.put_ne nha]; exact hph
              have nx : ∀ d, (d = .tup xs ∨ d = .lst xs) → lcL _ _ _ _ _ ph (s2.map encS) (acc ++ [d]) (M1.put a (.lst js8)) := fun d hd => ih _ _ ⟨s1 ++ [s], s2, js8, by rw [e, List.append_assoc]; rfl, rfl, rows_snoc hacc ⟨xs, ex, hd⟩, rfl, hj8⟩
              rw [ex]
              walk_at "w"
              refine wite_d (fun z => ?_) fun z => ?_
              · walk_at "w"
                exact ⟨_, fr, rfl, nx _ (.inr rfl)⟩
              · walk_at "w"
                exact ⟨_, fr, rfl, nx _ (.inl rfl)⟩
        · clear hM1 hj7
          rintro Γ M1 ⟨js7, h, rows, v12, rfl, hM1, hj7, hMh, hR, nha⟩
          obtain ⟨ps, hps, hsh⟩ := rows_ps hR (good_steps t ok)
          have hsl2 := sh_list hsh (by rw [hsl]; omega)
          walk_at "w"
          rw [hMh]
          refine ⟨ps, hps, hsl2.1, hsl2.2.1, hsl2.2.2.1, hsl2.2.2.2, ?_⟩
          walk_at "w"
          refine ⟨fun Γ M' => Γ = [some (.scr (cs.map .int)), some (.ptr a), some (.lst (ns.map .str)), some (.int k), some (.lst (L.map .str)), some (encT t), some (frmD A.Formula t), some (.ptr h), some (.str (PyData.shown (.list ps))), some (frmD A.Formula t), v10, v11, v12] ∧ M' = M1, ?_, ?_⟩
          · walk_at "w"
            refine wite_d (fun z => ?_) fun z => ?_
            · walk_at "w"
              refine ⟨h, rows, t, rfl, hMh, hR, ⟨ok, by omega⟩, ?_⟩
              exact ⟨rfl, rfl⟩
            · walk_at "w"
              rw [seqD_ptr hMh]
              walk_at "w"
              refine ⟨rows, t, rfl, hR, ⟨ok, by omega⟩, ?_⟩
              exact ⟨rfl, rfl⟩
          · rintro Γ M2 ⟨rfl, rfl⟩
            walk_at "w"
            refine ⟨t, rfl, ⟨ok, by omega⟩, ?_⟩
            walk_at "w"
            rw [hMh]
            refine ⟨ps, hps, hsl2.1, hsl2.2.1, hsl2.2.2.1, hsl2.2.2.2, ?_⟩
            walk_at "w"
            refine wite_nd (fun z => absurd rfl z) fun _ => ?_
            walk_at "w"
            refine ⟨⟨_, rfl⟩, ⟨.ref A.Formula, tyv_obj T.d_Formula, T.nf_F⟩, ?_⟩
            refine ⟨t, _, _, rfl, .inl ⟨t, rfl, rfl⟩, ⟨_, rfl⟩, rfl, ?_⟩
            rw [decide_eq_true (rfl : shownT t 1 = shownT t 1)]
            walk_at "w"
            refine ⟨fun Γ M' => Γ = [some (.scr (cs.map .int)), some (.ptr a), some (.lst (ns.map .str)), some (.int k), some (.lst (L.map .str)), some (encT t), some (frmD A.Formula t), some (.ptr h), some (.str (PyData.shown (.list ps))), some (frmD A.Formula t), v10, v11, v12] ∧ M' a = some (.lst js7), ?_, ?_⟩
            · walk_at "w"
              rw [hMh]
              refine ⟨⟨_, rfl⟩, ?_⟩
              walk_at "w"
              refine ⟨(Nat.le_of_ble_eq_true rfl : _ ≤ sizeLine), ?_⟩
              walk_at "w"
              rw [hMh]
              walk_at "w"
              refine ⟨by rw [rows_len hR, hsl]; unfold sizeLine; omega, ?_⟩
              exact ⟨rfl, by rw [Mem.put_ne nha.symm]; exact hM1⟩
            · clear hM1 hMh hR hps hsl2 hsh
              rintro Γ M3 ⟨rfl, hM3⟩
              walk_at "w"
              refine ⟨a, js7, t, rfl, by omega, hM3, hj7, ⟨ok, by omega⟩, fun u js8 gu du hj8 => ?_⟩
              have husz : u.sz ≤ 127 := by
                have h1 := u.sz_le
                have h2 : 2 ^ (u.deep + 1) ≤ 2 ^ 7 := Nat.pow_le_pow_right (by decide) (by omega)
                have h3 : (2 : Nat) ^ 7 = 128 := by decide
                omega
              walk_at "w"
              refine ⟨fun Γ M' => ∃ js, Γ = [some (.scr (cs.map .int)), some (.ptr a), some (.lst (ns.map .str)), some (.int k), some (.lst (L.map .str)), some (encT t), some (frmD A.Formula t), some (.ptr h), some (.str (PyData.shown (.list ps))), some (frmD A.Formula t), some (encT u), some (frmD A.Formula u), v12] ∧ M' = M3.put a (.lst js) ∧ JarL js, ?_, ?_⟩
              · walk_at "w"
                refine ⟨a, js8, u, 1, rfl, by omega, Mem.put_same, hj8, ⟨gu, by omega, by decide, by decide⟩, fun toks js9 hlo hlen hj9 => ?_⟩
                rw [Mem.put_put]
                walk_at "w"
                refine ⟨a, js9, toks, rfl, Mem.put_same, hj9, hlo.toks gu, by omega, fun z js10 e hsp hz hj10 => ?_⟩
                rw [Mem.put_put]
                walk_at "w"
                intro p1 hp1
                refine ⟨p1, _, u, rfl, Mem.put_same, gu, by omega, .inl ⟨z, _, rfl, by omega, by rw [tokL_sp hsp]; exact hlo⟩, ?_⟩
                refine ⟨rfl, .inl ⟨_, _, hp1, by rw [Mem.put_put], ?_⟩⟩
                exact ⟨js10, rfl, rfl, hj10⟩
              · rintro Γ M4 ⟨js11, rfl, rfl, hj11⟩
                obtain ⟨eu, hu'⟩ := encT_tup u
                obtain ⟨et, ht'⟩ := encT_tup t
                walk_at "w"
                refine ⟨u, rfl, ⟨gu, by omega⟩, ?_⟩
                walk_at "w"
                refine ⟨⟨_, rfl⟩, ⟨.ref A.Formula, tyv_obj T.d_Formula, T.nf_F⟩, ?_⟩
                refine ⟨u, _, _, rfl, .inl ⟨t, rfl, rfl⟩, ⟨_, rfl⟩, rfl, ?_⟩
                walk_at "w"
                rw [hu', ht']
                refine ⟨pdT u, pdT t, hu' ▸ pd_T u, ht' ▸ pd_T t, shaped_T gu (by omega), shaped_T ok (by omega), ?_⟩
                rw [eqv_T]
                walk_at "w"
                refine ⟨.bl (decide (u = t)), by rw [shown_inj gu ok], trivial, ?_⟩
                walk_at "w"
                refine ⟨⟨_, rfl, rfl⟩, ?_⟩
                walk_at "w"
                refine ⟨t, rfl, ⟨ok, by omega⟩, ?_⟩
                walk_at "w"
                refine ⟨⟨_, rfl⟩, ⟨.type "str", tyv_str, T.nf_s⟩, ?_⟩
                refine ⟨t, _, false, rfl, .inr ⟨_, rfl, rfl⟩, ⟨_, rfl⟩, rfl, ?_⟩
                walk_at "w"
                refine ⟨⟨_, rfl, rfl⟩, ?_⟩
                walk_at "w"
                refine ⟨t, rfl, ⟨ok, by omega⟩, ?_⟩
                walk_at "w"
                intro p1 hp1
                refine ⟨p1, _, t, rfl, Mem.put_same, ok, by omega, .inl ⟨shownT t 1, t.deep, rfl, by have := shown_le (l := 1) ok (by omega); omega, shown_toks ok⟩, ?_⟩
                refine ⟨rfl, .inl ⟨_, _, hp1, by rw [Mem.put_put], ?_⟩⟩
                walk_at "w"
                refine ⟨⟨_, rfl⟩, ⟨.ref A.Formula, tyv_obj T.d_Formula, T.nf_F⟩, ?_⟩
                refine ⟨t, _, _, rfl, .inl ⟨t, rfl, rfl⟩, ⟨_, rfl⟩, rfl, ?_⟩
                rw [decide_eq_true (rfl : shownT t 1 = shownT t 1)]
                walk_at "w"
                refine ⟨t, by rw [ht'], ⟨ok, by omega⟩, ?_⟩
                walk_at "w"
                refine ⟨a, js11, t, ns, by rw [ht'], Mem.put_same, hj11, ⟨⟨ok, hnm⟩, by omega⟩, hgood, by omega, by omega, fun js12 hj12 => ?_⟩
                rw [Mem.put_put]
                exact ih _ _ ⟨js12, _, _, _, _, _, _, _, _, _, _, rfl, Mem.put_same, hj12, hds2⟩
end
end D2

set_option maxRecDepth 100000
set_option maxHeartbeats 2000000
set_option pp.maxSteps 60
set_option pp.deepTerms false
namespace D2
open PySem PySem.Spec PyProof.Rows L2
local macro_rules | `(tactic| walk_at "wp") => `(tactic| conv => whnf)
local macro_rules | `(tactic| walk_at "w") => `(tactic| (conv => whnf) <;> repeat ((first | rw [seqD_ptr Mem.put_same] | rw [atI_zero] | rw [lstD_ptr Mem.put_same] | rw [dctD_ptr Mem.put_same] | rw [objD_ptr Mem.put_same] | rw [Mem.put_same]); conv => whnf))
local macro_rules | `(tactic| walk_at "v") => `(tactic| (conv => whnf) <;> repeat ((first | rw [seqD_ptr Mem.put_same] | rw [atI_zero] | rw [Mem.put_same] | rw [seqD_ptr (Mem.at2 (by assumption))] | rw [Mem.at2 (by assumption)]); conv => whnf))
local macro_rules | `(tactic| walk_at "a") => `(tactic| (walk_at "w") <;> repeat (refine ⟨(by first | exact mulR ⟨by omega, by omega⟩ | exact mulL ⟨by omega, by omega⟩ | (show (0 : Int) < _; omega) | exact ⟨by omega, by decide +kernel⟩ | exact ⟨by decide, by decide, by decide⟩), ?_⟩ <;> walk_at "w"))
local macro_rules | `(tactic| walk_at "i") => `(tactic| ((walk_at "w") <;> (refine ⟨trivial, by first | exact .inl rfl | exact .inr (.inl rfl) | exact .inr (.inr (.inl rfl)) | exact .inr (.inr (.inr (.inl rfl))) | exact .inr (.inr (.inr (.inr (.inl rfl)))), ?_⟩)))
section
variable {P : Program} {w : World} {K : W.Frag} {mg : Str → Option Value} {base : Heap} {A : Ad}
theorem run_all (T : Txt K mg A) (R : KMap K w A.RANKS rankD) (room : Room 140 callerA) : ∃ f, mg "law" = some (.ref f) ∧ Runs P w K mg CX0 f (spT K S_law3) := by
  have draw := fun base => ok_l_draw (P := P) (w := w) (base := base) T
  have pick := fun base => ok_l_pick (P := P) (w := w) (base := base) T (draw base)
  have jar := fun base => ok_l_jar (P := P) (w := w) (base := base) T
  have like := fun base => ok_l_like (P := P) (w := w) (base := base) T 10
  have words := fun base => ok_l_words (P := P) (w := w) (base := base) T
  have stranger := fun base => ok_l_stranger (P := P) (w := w) (base := base) T
  have syms := fun base => ok_l_syms (P := P) (w := w) (base := base) T (draw base) (pick base) (words base)
  have shown := fun base => ok_l_shown (P := P) (w := w) (base := base) T 17
  have steps := fun base => ok_l_steps (P := P) (w := w) (base := base) T 17
  have names := fun base => ok_l_names_of (P := P) (w := w) (base := base) T 17
  have many := fun base => ok_l_many (P := P) (w := w) (base := base) T 17
  have lput := fun base => ok_l_put (P := P) (w := w) (base := base) T 17
  have tree := fun base => ok_l_tree (P := P) (w := w) (base := base) T (draw base) (pick base) 28
  have loose := fun base => ok_l_loose (P := P) (w := w) (base := base) T (pick base) 27
  have spaced := fun base => ok_l_spaced (P := P) (w := w) (base := base) T (pick base)
  have twin := fun base => ok_l_twin (P := P) (w := w) (base := base) T (draw base) 28
  have ltok := fun base => ok_l_tokens (P := P) (w := w) (base := base) T
  have tok := fun base => ok_tokens (P := P) (w := w) (base := base) T
  have rsum := fun base => ok_read (P := P) (w := w) (base := base) T 40
  have grown := fun base => ok_l_grown (P := P) (w := w) (base := base) T (rsum base) (ltok base)
  have isn := fun base => ok_is_name (P := P) (w := w) (base := base) T
  have isd := fun base => ok_is_digits (P := P) (w := w) (base := base) T
  have next := fun base => ok_next_state (P := P) (w := w) (base := base) T (isd base) (isn base)
  have bad := fun base => ok_bad_place (P := P) (w := w) (base := base) T (next base)
  have ops := fun base => ok_operand_step (P := P) (w := w) (base := base) T
  have aro := fun base => ok_around (P := P) (w := w) (base := base) T
  have post := fun base => ok_postfix (P := P) (w := w) (base := base) T (ops base) R
  have writ := fun base => ok_written (P := P) (w := w) (base := base) T (aro base) R
  have read := fun base => ok_read_steps (P := P) (w := w) (base := base) T (bad base) (post base) (tok base)
  have form := fun base => ok_Formula___init__ (P := P) (w := w) (base := base) T (read base) (writ base)
  have formK := fun base => ok_Formula___init__K (P := P) (w := w) (base := base) T (read base) (writ base)
  have text := fun base => ok_Formula_text (P := P) (w := w) (base := base) T
  have str := fun base => ok_Formula___str__ (P := P) (w := w) (base := base) T
  have repr := fun base => ok_Formula___repr__ (P := P) (w := w) (base := base) T
  have roots := fun base => ok_Formula_roots (P := P) (w := w) (base := base) T
  have hasi := fun base => ok_Formula_has_i (P := P) (w := w) (base := base) T
  have fsteps := fun base => ok_Formula_steps (P := P) (w := w) (base := base) T
  have fstepsP := fun base => ok_Formula_stepsP (P := P) (w := w) (base := base) T
  have fnames := fun base => ok_Formula_names (P := P) (w := w) (base := base) T
  have fnamesP := fun base => ok_Formula_namesP (P := P) (w := w) (base := base) T
  have feq := fun base => ok_Formula___eq__ (P := P) (w := w) (base := base) T
  have st := fun base => ok_Steps___init__ (P := P) (w := w) (base := base) T
  have stT := fun base => ok_Steps___init__T (P := P) (w := w) (base := base) T
  have stP := fun base => ok_Steps___init__P (P := P) (w := w) (base := base) T
  have ofT := fun base => ok_Formula_of (P := P) (w := w) (base := base) T (stT base) (form base)
  have ofP := fun base => ok_Formula_ofP (P := P) (w := w) (base := base) T (stP base) (form base)
  have fput := fun base => ok_Formula_put (P := P) (w := w) (base := base) T (fsteps base) (st base) (form base)
  have fputK := fun base => ok_Formula_putK (P := P) (w := w) (base := base) T (fsteps base) (st base) (form base)
  have isf := fun base => ok_l_is_formula (P := P) (w := w) (base := base) T (text base) (str base) (repr base) (roots base) (hasi base) (fnames base) (fsteps base) (like base) (shown base) (many base) (names base) (steps base) (grown base)
  have puts := fun base => ok_l_puts (P := P) (w := w) (base := base) T (form base) (fput base) (fputK base) (isf base) (lput base) (tree base) (loose base) (draw base) (spaced base) (stranger base)
  exact run_law T room (G_text := text) (G_eq := feq) (G_namesP := fnamesP) (G_stepsP := fstepsP) (G_ofP := ofP) (G_ofT := ofT) (G_Formula := form) (GK_Formula := formK) (G_l_is_formula := isf) (G_l_puts := puts) (G_l_steps := steps) (G_l_tree := tree) (G_l_loose := loose) (G_l_twin := twin) (G_l_like := like) (G_l_draw := draw) (G_l_jar := jar) (G_l_pick := pick) (G_l_spaced := spaced) (G_l_syms := syms)
end
end D2

set_option maxRecDepth 100000
set_option maxHeartbeats 2000000
namespace D2
open PySem PySem.Spec PyProof.Rows L2
theorem cutH {a b : Prop} (h : a) (k : a → b) : b := k h
theorem na_mk {K : W.Frag} {C : Addr} {f : Str} (h : W.findIn K (.ref C) f = some none) : NoAttr K C f := h
theorem con_mk {K : W.Frag} {h : Heap} {mg : Str → Option Value} {x s c : Str} {t : Tok} (X : K.In h) (G : h.Ns mainGlobals mg) (a : W.nsIn K mainGlobals x = some (some (.str s t))) (e : s = c) : mg x = some (.str c t) := by
  subst e
  exact W.mg_of X G a
def adr {K : W.Frag} {mg : Str → Option Value} {n : Str} {C : Addr} (_ : Own K mg n C) : Addr := C
theorem lk_of {K : W.Frag} {h : Heap} {mg : Str → Option Value} {n : Str} {a : Addr} {o : Obj} (_ : K.In h) (_ : mg n = some (.ref a)) (l : K.lookup a = some o) : K.lookup a = some o := l
theorem ref_mk {K : W.Frag} {h : Heap} {mg : Str → Option Value} {n : Str} {a : Addr} (X : K.In h) (G : h.Ns mainGlobals mg) (e : W.nsIn K mainGlobals n = some (some (.ref a))) : mg n = some (.ref a) := W.mg_of X G e
theorem int_mk {K : W.Frag} {h : Heap} {mg : Str → Option Value} {n : Str} {t : Tok} (i : Int) (X : K.In h) (G : h.Ns mainGlobals mg) (e : W.nsIn K mainGlobals n = some (some (.int i t))) : mg n = some (.int i t) := W.mg_of X G e
structure ShH (K : W.Frag) : Prop where
  hn : W.specialIn K (.builtin "object.__class__") "__get__" = some (some (.builtin "getset_descriptor.__get__"))
  htk : W.takesIn K (.builtin "object.__class__") = some true
theorem shH_mk {K : W.Frag} {h : Heap} (_ : K.In h) (a : W.specialIn K (.builtin "object.__class__") "__get__" = some (some (.builtin "getset_descriptor.__get__"))) (b : W.takesIn K (.builtin "object.__class__") = some true) : ShH K := ⟨a, b⟩
theorem bd_is_name : BindH "is_name" "is_name" (top 7) ["value"] := fun _ _ _ _ _ _ us hl => match us, hl with
  | [_], _ => rfl
theorem bd_tokens : BindH "tokens" "tokens" (top 19) ["text"] := fun _ _ _ _ _ _ us hl => match us, hl with
  | [_], _ => rfl
theorem bd_is_digits : BindH "is_digits" "is_digits" (top 20) ["token"] := fun _ _ _ _ _ _ us hl => match us, hl with
  | [_], _ => rfl
theorem bd_next_state : BindH "next_state" "next_state" (top 21) ["state", "depth", "token", "with_t"] := fun _ _ _ _ _ _ us hl => match us, hl with
  | [_, _, _, _], _ => rfl
theorem bd_bad_place : BindH "bad_place" "bad_place" (top 22) ["found", "size", "with_t"] := fun _ _ _ _ _ _ us hl => match us, hl with
  | [_, _, _], _ => rfl
theorem bd_operand_step : BindH "operand_step" "operand_step" (top 23) ["token", "before"] := fun _ _ _ _ _ _ us hl => match us, hl with
  | [_, _], _ => rfl
theorem bd_postfix : BindH "postfix" "postfix" (top 24) ["found"] := fun _ _ _ _ _ _ us hl => match us, hl with
  | [_], _ => rfl
theorem bd_around : BindH "around" "around" (top 25) ["text", "level", "least"] := fun _ _ _ _ _ _ us hl => match us, hl with
  | [_, _, _], _ => rfl
theorem bd_written : BindH "written" "written" (top 26) ["steps"] := fun _ _ _ _ _ _ us hl => match us, hl with
  | [_], _ => rfl
theorem bd_read_steps : BindD "read_steps" (top 28) 1 ["text", "with_t"] := fun _ _ _ _ _ _ _ us its h1 h2 => match us, its, h1, h2 with
  | [_], [_], _, _ => ⟨_, rfl, rfl⟩
theorem bd_l_jar : BindH "_law_jar" "_law_jar" (top 34) ["script"] := fun _ _ _ _ _ _ us hl => match us, hl with
  | [_], _ => rfl
theorem bd_l_draw : BindH "_law_draw" "_law_draw" (top 35) ["jar", "many"] := fun _ _ _ _ _ _ us hl => match us, hl with
  | [_, _], _ => rfl
theorem bd_l_pick : BindH "_law_pick" "_law_pick" (top 36) ["jar", "menu"] := fun _ _ _ _ _ _ us hl => match us, hl with
  | [_, _], _ => rfl
theorem bd_l_like : BindH "_law_like" "_law_like" (top 37) ["got", "due"] := fun _ _ _ _ _ _ us hl => match us, hl with
  | [_, _], _ => rfl
theorem bd_l_words : BindH "_law_words" "_law_words" (top 38) [] := fun _ _ _ _ _ _ us hl => match us, hl with
  | [], _ => rfl
theorem bd_l_syms : BindH "_law_syms" "_law_syms" (top 39) ["jar", "many", "kept"] := fun _ _ _ _ _ _ us hl => match us, hl with
  | [_, _, _], _ => rfl
theorem bd_l_stranger : BindH "_law_stranger" "_law_stranger" (top 40) ["kept"] := fun _ _ _ _ _ _ us hl => match us, hl with
  | [_], _ => rfl
theorem bd_l_tokens : BindH "_law_tokens" "_law_tokens" (top 41) ["said"] := fun _ _ _ _ _ _ us hl => match us, hl with
  | [_], _ => rfl
theorem bd_l_grown : BindH "_law_grown" "_law_grown" (top 42) ["said"] := fun _ _ _ _ _ _ us hl => match us, hl with
  | [_], _ => rfl
theorem bd_l_read_sum : BindH "_law_read_sum" "_law_read_sum" (top 43) ["toks", "spot"] := fun _ _ _ _ _ _ us hl => match us, hl with
  | [_, _], _ => rfl
theorem bd_l_read_product : BindH "_law_read_product" "_law_read_product" (top 44) ["toks", "spot"] := fun _ _ _ _ _ _ us hl => match us, hl with
  | [_, _], _ => rfl
theorem bd_l_read_power : BindH "_law_read_power" "_law_read_power" (top 45) ["toks", "spot"] := fun _ _ _ _ _ _ us hl => match us, hl with
  | [_, _], _ => rfl
theorem bd_l_shown : BindH "_law_shown" "_law_shown" (top 46) ["tree", "least"] := fun _ _ _ _ _ _ us hl => match us, hl with
  | [_, _], _ => rfl
theorem bd_l_loose : BindH "_law_loose" "_law_loose" (top 47) ["jar", "tree", "least"] := fun _ _ _ _ _ _ us hl => match us, hl with
  | [_, _, _], _ => rfl
theorem bd_l_spaced : BindH "_law_spaced" "_law_spaced" (top 48) ["jar", "toks"] := fun _ _ _ _ _ _ us hl => match us, hl with
  | [_, _], _ => rfl
theorem bd_l_tree : BindH "_law_tree" "_law_tree" (top 49) ["jar", "syms", "deep", "menu"] := fun _ _ _ _ _ _ us hl => match us, hl with
  | [_, _, _, _], _ => rfl
theorem bd_l_names_of : BindH "_law_names_of" "_law_names_of" (top 50) ["tree"] := fun _ _ _ _ _ _ us hl => match us, hl with
  | [_], _ => rfl
theorem bd_l_many : BindH "_law_many" "_law_many" (top 51) ["tree", "sort"] := fun _ _ _ _ _ _ us hl => match us, hl with
  | [_, _], _ => rfl
theorem bd_l_put : BindH "_law_put" "_law_put" (top 52) ["tree", "news"] := fun _ _ _ _ _ _ us hl => match us, hl with
  | [_, _], _ => rfl
theorem bd_l_steps : BindH "_law_steps" "_law_steps" (top 53) ["tree"] := fun _ _ _ _ _ _ us hl => match us, hl with
  | [_], _ => rfl
theorem bd_l_is_formula : BindH "_law_is_formula" "_law_is_formula" (top 54) ["got", "tree"] := fun _ _ _ _ _ _ us hl => match us, hl with
  | [_, _], _ => rfl
theorem bd_l_twin : BindH "_law_twin" "_law_twin" (top 55) ["jar", "tree"] := fun _ _ _ _ _ _ us hl => match us, hl with
  | [_, _], _ => rfl
theorem bd_l_puts : BindH "_law_puts" "_law_puts" (top 56) ["jar", "formula", "tree", "syms"] := fun _ _ _ _ _ _ us hl => match us, hl with
  | [_, _, _, _], _ => rfl
theorem bd_law : BindH "law" "law" (top 57) ["script"] := fun _ _ _ _ _ _ us hl => match us, hl with
  | [_], _ => rfl
theorem bd_Steps___init__ : BindH "__init__" "Steps.__init__" (mtop 30 0) ["self", "rows"] := fun _ _ _ _ _ _ us hl => match us, hl with
  | [_, _], _ => rfl
theorem bd_Formula___init__ : BindH "__init__" "Formula.__init__" (mtop 32 0) ["self", "text"] := fun _ _ _ _ _ _ us hl => match us, hl with
  | [_, _], _ => rfl
theorem bd_Formula_of : BindH "of" "Formula.of" (mtop 32 1) ["steps"] := fun _ _ _ _ _ _ us hl => match us, hl with
  | [_], _ => rfl
theorem bs_Formula_of : KwS "of" "Formula.of" (mtop 32 1) "steps" := fun _ _ _ _ _ _ s u => .of_eq rfl
theorem bd_Formula_names : BindH "names" "Formula.names" (mtop 32 2) ["self"] := fun _ _ _ _ _ _ us hl => match us, hl with
  | [_], _ => rfl
theorem bd_Formula_roots : BindH "roots" "Formula.roots" (mtop 32 3) ["self"] := fun _ _ _ _ _ _ us hl => match us, hl with
  | [_], _ => rfl
theorem bd_Formula_has_i : BindH "has_i" "Formula.has_i" (mtop 32 4) ["self"] := fun _ _ _ _ _ _ us hl => match us, hl with
  | [_], _ => rfl
theorem bd_Formula_put : BindH "put" "Formula.put" (mtop 32 5) ["self", "formulas"] := fun _ _ _ _ _ _ us hl => match us, hl with
  | [_, _], _ => rfl
theorem bd_Formula_steps : BindH "steps" "Formula.steps" (mtop 32 6) ["self"] := fun _ _ _ _ _ _ us hl => match us, hl with
  | [_], _ => rfl
theorem bd_Formula_text : BindH "text" "Formula.text" (mtop 32 7) ["self"] := fun _ _ _ _ _ _ us hl => match us, hl with
  | [_], _ => rfl
theorem bd_Formula___str__ : BindH "__str__" "Formula.__str__" (mtop 32 8) ["self"] := fun _ _ _ _ _ _ us hl => match us, hl with
  | [_], _ => rfl
theorem bd_Formula___repr__ : BindH "__repr__" "Formula.__repr__" (mtop 32 9) ["self"] := fun _ _ _ _ _ _ us hl => match us, hl with
  | [_], _ => rfl
theorem bd_Formula___eq__ : BindH "__eq__" "Formula.__eq__" (mtop 32 10) ["self", "other"] := fun _ _ _ _ _ _ us hl => match us, hl with
  | [_, _], _ => rfl
theorem bk_Formula___init__ : KwH "__init__" "Formula.__init__" (mtop 32 0) "text" := fun _ _ _ _ _ _ s u0 u1 => .of_eq rfl
theorem bk_Formula_put : KwH "put" "Formula.put" (mtop 32 5) "formulas" := fun _ _ _ _ _ _ s u0 u1 => .of_eq rfl
end D2

set_option maxRecDepth 100000
open PySem PySem.W PyProof.Rows in
set_option maxRecDepth 100000 in
set_option maxHeartbeats 0 in
theorem PySem.Challenge.cw_fewestroots_k02_formulas_there_and_back_holds : PySem.Challenge.rw_fewestroots_k02_formulas_there_and_back.Holds := by
  w_on; o_law; k_head; (case hw => w_witness2)
  k_fill
  refine D2.walk3 (l := PySem.Challenge.rw_fewestroots_k02_formulas_there_and_back) (n := 63) rfl (by decide) rfl (fun w h Y => PySem.W.kIn_of Y) ?zzF
  case zzF =>
    intro w mg fa h KX G hmg
    refine' D2.cutH (D2.shH_mk KX ?zzs1 ?zzs2) (fun sh => ?zzg0)
    (case zzs1 => k_is); (case zzs2 => k_is)
    refine' D2.cutH (D2.own_mk (n := "Steps") KX G sh.hn sh.htk ?zzaC_1 ?zzpg_1 ?zzhd_1 ?zzpo_1 ?zzsa_1 ?zzha_1 ?zzhm_1) (fun c_Steps => ?zzg1)
    (case zzaC_1 => k_is); (case zzpg_1 => k_is); (case zzhd_1 => k_is); (case zzpo_1 => k_is); (case zzsa_1 => k_is); (case zzha_1 => k_is); (case zzhm_1 => k_is)
    refine' D2.cutH (D2.own_mk (n := "Formula") KX G sh.hn sh.htk ?zzaC_2 ?zzpg_2 ?zzhd_2 ?zzpo_2 ?zzsa_2 ?zzha_2 ?zzhm_2) (fun c_Formula => ?zzg2)
    (case zzaC_2 => k_is); (case zzpg_2 => k_is); (case zzhd_2 => k_is); (case zzpo_2 => k_is); (case zzsa_2 => k_is); (case zzha_2 => k_is); (case zzhm_2 => k_is)
    refine' D2.cutH (D2.fa_mk (x := "is_name") KX G D2.bd_is_name ?zzfa_3 ?zzfl_3 ?zzfc_3 ?zzfk_3) (fun F_is_name => ?zzg3)
    (case zzfa_3 => k_is); (case zzfl_3 => k_is); (case zzfc_3 => k_is); (case zzfk_3 => k_is)
    refine' D2.cutH (D2.fa_mk (x := "tokens") KX G D2.bd_tokens ?zzfa_4 ?zzfl_4 ?zzfc_4 ?zzfk_4) (fun F_tokens => ?zzg4)
    (case zzfa_4 => k_is); (case zzfl_4 => k_is); (case zzfc_4 => k_is); (case zzfk_4 => k_is)
    refine' D2.cutH (D2.fa_mk (x := "is_digits") KX G D2.bd_is_digits ?zzfa_5 ?zzfl_5 ?zzfc_5 ?zzfk_5) (fun F_is_digits => ?zzg5)
    (case zzfa_5 => k_is); (case zzfl_5 => k_is); (case zzfc_5 => k_is); (case zzfk_5 => k_is)
    refine' D2.cutH (D2.fa_mk (x := "next_state") KX G D2.bd_next_state ?zzfa_6 ?zzfl_6 ?zzfc_6 ?zzfk_6) (fun F_next_state => ?zzg6)
    (case zzfa_6 => k_is); (case zzfl_6 => k_is); (case zzfc_6 => k_is); (case zzfk_6 => k_is)
    refine' D2.cutH (D2.fa_mk (x := "bad_place") KX G D2.bd_bad_place ?zzfa_7 ?zzfl_7 ?zzfc_7 ?zzfk_7) (fun F_bad_place => ?zzg7)
    (case zzfa_7 => k_is); (case zzfl_7 => k_is); (case zzfc_7 => k_is); (case zzfk_7 => k_is)
    refine' D2.cutH (D2.fa_mk (x := "operand_step") KX G D2.bd_operand_step ?zzfa_8 ?zzfl_8 ?zzfc_8 ?zzfk_8) (fun F_operand_step => ?zzg8)
    (case zzfa_8 => k_is); (case zzfl_8 => k_is); (case zzfc_8 => k_is); (case zzfk_8 => k_is)
    refine' D2.cutH (D2.fa_mk (x := "postfix") KX G D2.bd_postfix ?zzfa_9 ?zzfl_9 ?zzfc_9 ?zzfk_9) (fun F_postfix => ?zzg9)
    (case zzfa_9 => k_is); (case zzfl_9 => k_is); (case zzfc_9 => k_is); (case zzfk_9 => k_is)
    refine' D2.cutH (D2.fa_mk (x := "around") KX G D2.bd_around ?zzfa_10 ?zzfl_10 ?zzfc_10 ?zzfk_10) (fun F_around => ?zzg10)
    (case zzfa_10 => k_is); (case zzfl_10 => k_is); (case zzfc_10 => k_is); (case zzfk_10 => k_is)
    refine' D2.cutH (D2.fa_mk (x := "written") KX G D2.bd_written ?zzfa_11 ?zzfl_11 ?zzfc_11 ?zzfk_11) (fun F_written => ?zzg11)
    (case zzfa_11 => k_is); (case zzfl_11 => k_is); (case zzfc_11 => k_is); (case zzfk_11 => k_is)
    refine' D2.cutH (D2.fd_mk (x := "read_steps") (st := D2.top 28) KX G rfl D2.bd_read_steps ?zzfa_12 ?zzfl_12 ?zzft_12 ?zzfc_12 ?zzfk_12) (fun F_read_steps => ?zzg12)
    (case zzfa_12 => k_is); (case zzfl_12 => k_is); (case zzft_12 => k_is); (case zzfc_12 => k_is); (case zzfk_12 => k_is)
    refine' D2.cutH (D2.fa_mk (x := "_law_jar") KX G D2.bd_l_jar ?zzfa_13 ?zzfl_13 ?zzfc_13 ?zzfk_13) (fun F_l_jar => ?zzg13)
    (case zzfa_13 => k_is); (case zzfl_13 => k_is); (case zzfc_13 => k_is); (case zzfk_13 => k_is)
    refine' D2.cutH (D2.fa_mk (x := "_law_draw") KX G D2.bd_l_draw ?zzfa_14 ?zzfl_14 ?zzfc_14 ?zzfk_14) (fun F_l_draw => ?zzg14)
    (case zzfa_14 => k_is); (case zzfl_14 => k_is); (case zzfc_14 => k_is); (case zzfk_14 => k_is)
    refine' D2.cutH (D2.fa_mk (x := "_law_pick") KX G D2.bd_l_pick ?zzfa_15 ?zzfl_15 ?zzfc_15 ?zzfk_15) (fun F_l_pick => ?zzg15)
    (case zzfa_15 => k_is); (case zzfl_15 => k_is); (case zzfc_15 => k_is); (case zzfk_15 => k_is)
    refine' D2.cutH (D2.fa_mk (x := "_law_like") KX G D2.bd_l_like ?zzfa_16 ?zzfl_16 ?zzfc_16 ?zzfk_16) (fun F_l_like => ?zzg16)
    (case zzfa_16 => k_is); (case zzfl_16 => k_is); (case zzfc_16 => k_is); (case zzfk_16 => k_is)
    refine' D2.cutH (D2.fa_mk (x := "_law_words") KX G D2.bd_l_words ?zzfa_17 ?zzfl_17 ?zzfc_17 ?zzfk_17) (fun F_l_words => ?zzg17)
    (case zzfa_17 => k_is); (case zzfl_17 => k_is); (case zzfc_17 => k_is); (case zzfk_17 => k_is)
    refine' D2.cutH (D2.fa_mk (x := "_law_syms") KX G D2.bd_l_syms ?zzfa_18 ?zzfl_18 ?zzfc_18 ?zzfk_18) (fun F_l_syms => ?zzg18)
    (case zzfa_18 => k_is); (case zzfl_18 => k_is); (case zzfc_18 => k_is); (case zzfk_18 => k_is)
    refine' D2.cutH (D2.fa_mk (x := "_law_stranger") KX G D2.bd_l_stranger ?zzfa_19 ?zzfl_19 ?zzfc_19 ?zzfk_19) (fun F_l_stranger => ?zzg19)
    (case zzfa_19 => k_is); (case zzfl_19 => k_is); (case zzfc_19 => k_is); (case zzfk_19 => k_is)
    refine' D2.cutH (D2.fa_mk (x := "_law_tokens") KX G D2.bd_l_tokens ?zzfa_20 ?zzfl_20 ?zzfc_20 ?zzfk_20) (fun F_l_tokens => ?zzg20)
    (case zzfa_20 => k_is); (case zzfl_20 => k_is); (case zzfc_20 => k_is); (case zzfk_20 => k_is)
    refine' D2.cutH (D2.fa_mk (x := "_law_grown") KX G D2.bd_l_grown ?zzfa_21 ?zzfl_21 ?zzfc_21 ?zzfk_21) (fun F_l_grown => ?zzg21)
    (case zzfa_21 => k_is); (case zzfl_21 => k_is); (case zzfc_21 => k_is); (case zzfk_21 => k_is)
    refine' D2.cutH (D2.fa_mk (x := "_law_read_sum") KX G D2.bd_l_read_sum ?zzfa_22 ?zzfl_22 ?zzfc_22 ?zzfk_22) (fun F_l_read_sum => ?zzg22)
    (case zzfa_22 => k_is); (case zzfl_22 => k_is); (case zzfc_22 => k_is); (case zzfk_22 => k_is)
    refine' D2.cutH (D2.fa_mk (x := "_law_read_product") KX G D2.bd_l_read_product ?zzfa_23 ?zzfl_23 ?zzfc_23 ?zzfk_23) (fun F_l_read_product => ?zzg23)
    (case zzfa_23 => k_is); (case zzfl_23 => k_is); (case zzfc_23 => k_is); (case zzfk_23 => k_is)
    refine' D2.cutH (D2.fa_mk (x := "_law_read_power") KX G D2.bd_l_read_power ?zzfa_24 ?zzfl_24 ?zzfc_24 ?zzfk_24) (fun F_l_read_power => ?zzg24)
    (case zzfa_24 => k_is); (case zzfl_24 => k_is); (case zzfc_24 => k_is); (case zzfk_24 => k_is)
    refine' D2.cutH (D2.fa_mk (x := "_law_shown") KX G D2.bd_l_shown ?zzfa_25 ?zzfl_25 ?zzfc_25 ?zzfk_25) (fun F_l_shown => ?zzg25)
    (case zzfa_25 => k_is); (case zzfl_25 => k_is); (case zzfc_25 => k_is); (case zzfk_25 => k_is)
    refine' D2.cutH (D2.fa_mk (x := "_law_loose") KX G D2.bd_l_loose ?zzfa_26 ?zzfl_26 ?zzfc_26 ?zzfk_26) (fun F_l_loose => ?zzg26)
    (case zzfa_26 => k_is); (case zzfl_26 => k_is); (case zzfc_26 => k_is); (case zzfk_26 => k_is)
    refine' D2.cutH (D2.fa_mk (x := "_law_spaced") KX G D2.bd_l_spaced ?zzfa_27 ?zzfl_27 ?zzfc_27 ?zzfk_27) (fun F_l_spaced => ?zzg27)
    (case zzfa_27 => k_is); (case zzfl_27 => k_is); (case zzfc_27 => k_is); (case zzfk_27 => k_is)
    refine' D2.cutH (D2.fa_mk (x := "_law_tree") KX G D2.bd_l_tree ?zzfa_28 ?zzfl_28 ?zzfc_28 ?zzfk_28) (fun F_l_tree => ?zzg28)
    (case zzfa_28 => k_is); (case zzfl_28 => k_is); (case zzfc_28 => k_is); (case zzfk_28 => k_is)
    refine' D2.cutH (D2.fa_mk (x := "_law_names_of") KX G D2.bd_l_names_of ?zzfa_29 ?zzfl_29 ?zzfc_29 ?zzfk_29) (fun F_l_names_of => ?zzg29)
    (case zzfa_29 => k_is); (case zzfl_29 => k_is); (case zzfc_29 => k_is); (case zzfk_29 => k_is)
    refine' D2.cutH (D2.fa_mk (x := "_law_many") KX G D2.bd_l_many ?zzfa_30 ?zzfl_30 ?zzfc_30 ?zzfk_30) (fun F_l_many => ?zzg30)
    (case zzfa_30 => k_is); (case zzfl_30 => k_is); (case zzfc_30 => k_is); (case zzfk_30 => k_is)
    refine' D2.cutH (D2.fa_mk (x := "_law_put") KX G D2.bd_l_put ?zzfa_31 ?zzfl_31 ?zzfc_31 ?zzfk_31) (fun F_l_put => ?zzg31)
    (case zzfa_31 => k_is); (case zzfl_31 => k_is); (case zzfc_31 => k_is); (case zzfk_31 => k_is)
    refine' D2.cutH (D2.fa_mk (x := "_law_steps") KX G D2.bd_l_steps ?zzfa_32 ?zzfl_32 ?zzfc_32 ?zzfk_32) (fun F_l_steps => ?zzg32)
    (case zzfa_32 => k_is); (case zzfl_32 => k_is); (case zzfc_32 => k_is); (case zzfk_32 => k_is)
    refine' D2.cutH (D2.fa_mk (x := "_law_is_formula") KX G D2.bd_l_is_formula ?zzfa_33 ?zzfl_33 ?zzfc_33 ?zzfk_33) (fun F_l_is_formula => ?zzg33)
    (case zzfa_33 => k_is); (case zzfl_33 => k_is); (case zzfc_33 => k_is); (case zzfk_33 => k_is)
    refine' D2.cutH (D2.fa_mk (x := "_law_twin") KX G D2.bd_l_twin ?zzfa_34 ?zzfl_34 ?zzfc_34 ?zzfk_34) (fun F_l_twin => ?zzg34)
    (case zzfa_34 => k_is); (case zzfl_34 => k_is); (case zzfc_34 => k_is); (case zzfk_34 => k_is)
    refine' D2.cutH (D2.fa_mk (x := "_law_puts") KX G D2.bd_l_puts ?zzfa_35 ?zzfl_35 ?zzfc_35 ?zzfk_35) (fun F_l_puts => ?zzg35)
    (case zzfa_35 => k_is); (case zzfl_35 => k_is); (case zzfc_35 => k_is); (case zzfk_35 => k_is)
    refine' D2.cutH (D2.fa_mk (x := "law") KX G D2.bd_law ?zzfa_36 ?zzfl_36 ?zzfc_36 ?zzfk_36) (fun F_law => ?zzg36)
    (case zzfa_36 => k_is); (case zzfl_36 => k_is); (case zzfc_36 => k_is); (case zzfk_36 => k_is)
    refine' D2.cutH (D2.mi_mk c_Steps D2.bd_Steps___init__ ?zzmk_37 ?zzfa_37 ?zzfl_37 ?zzfc_37 ?zzfk_37 ?zzfi_37 ?zzkc_37) (fun F_Steps___init__ => ?zzg37)
    (case zzmk_37 => k_is); (case zzfa_37 => k_is); (case zzfl_37 => k_is); (case zzfc_37 => k_is); (case zzfk_37 => k_is); (case zzfi_37 => k_is); (case zzkc_37 => k_is)
    refine' D2.cutH (D2.mi_mk c_Formula D2.bd_Formula___init__ ?zzmk_38 ?zzfa_38 ?zzfl_38 ?zzfc_38 ?zzfk_38 ?zzfi_38 ?zzkc_38) (fun F_Formula___init__ => ?zzg38)
    (case zzmk_38 => k_is); (case zzfa_38 => k_is); (case zzfl_38 => k_is); (case zzfc_38 => k_is); (case zzfk_38 => k_is); (case zzfi_38 => k_is); (case zzkc_38 => k_is)
    refine' D2.cutH (D2.sm_mk c_Formula D2.bd_Formula_of D2.bs_Formula_of ?zzga_39 ?zzty_39 ?zzrd_39 ?zzfc_39 ?zzfr_39 ?zzfl_39 ?zzfo_39 ?zzfk_39) (fun F_Formula_of => ?zzg39)
    (case zzga_39 => k_is); (case zzty_39 => k_is); (case zzrd_39 => k_is); (case zzfc_39 => k_is); (case zzfr_39 => k_is); (case zzfl_39 => k_is); (case zzfo_39 => k_is); (case zzfk_39 => k_is)
    refine' D2.cutH (D2.me_mk c_Formula D2.bd_Formula_names ?zzfa_40 ?zzfl_40 ?zzfc_40 ?zzfk_40 ?zzfi_40) (fun F_Formula_names => ?zzg40)
    (case zzfa_40 => k_is); (case zzfl_40 => k_is); (case zzfc_40 => k_is); (case zzfk_40 => k_is); (case zzfi_40 => k_is)
    refine' D2.cutH (D2.pr_mk c_Formula D2.bd_Formula_roots ?zzfa_41 ?zzfg_41 ?zzft_41 ?zzfr_41 ?zzfl_41 ?zzfc_41 ?zzfk_41) (fun F_Formula_roots => ?zzg41)
    (case zzfa_41 => k_is); (case zzfg_41 => k_is); (case zzft_41 => k_is); (case zzfr_41 => k_is); (case zzfl_41 => k_is); (case zzfc_41 => k_is); (case zzfk_41 => k_is)
    refine' D2.cutH (D2.pr_mk c_Formula D2.bd_Formula_has_i ?zzfa_42 ?zzfg_42 ?zzft_42 ?zzfr_42 ?zzfl_42 ?zzfc_42 ?zzfk_42) (fun F_Formula_has_i => ?zzg42)
    (case zzfa_42 => k_is); (case zzfg_42 => k_is); (case zzft_42 => k_is); (case zzfr_42 => k_is); (case zzfl_42 => k_is); (case zzfc_42 => k_is); (case zzfk_42 => k_is)
    refine' D2.cutH (D2.me_mk c_Formula D2.bd_Formula_put ?zzfa_43 ?zzfl_43 ?zzfc_43 ?zzfk_43 ?zzfi_43) (fun F_Formula_put => ?zzg43)
    (case zzfa_43 => k_is); (case zzfl_43 => k_is); (case zzfc_43 => k_is); (case zzfk_43 => k_is); (case zzfi_43 => k_is)
    refine' D2.cutH (D2.me_mk c_Formula D2.bd_Formula_steps ?zzfa_44 ?zzfl_44 ?zzfc_44 ?zzfk_44 ?zzfi_44) (fun F_Formula_steps => ?zzg44)
    (case zzfa_44 => k_is); (case zzfl_44 => k_is); (case zzfc_44 => k_is); (case zzfk_44 => k_is); (case zzfi_44 => k_is)
    refine' D2.cutH (D2.me_mk c_Formula D2.bd_Formula_text ?zzfa_45 ?zzfl_45 ?zzfc_45 ?zzfk_45 ?zzfi_45) (fun F_Formula_text => ?zzg45)
    (case zzfa_45 => k_is); (case zzfl_45 => k_is); (case zzfc_45 => k_is); (case zzfk_45 => k_is); (case zzfi_45 => k_is)
    refine' D2.cutH (D2.me_mk c_Formula D2.bd_Formula___str__ ?zzfa_46 ?zzfl_46 ?zzfc_46 ?zzfk_46 ?zzfi_46) (fun F_Formula___str__ => ?zzg46)
    (case zzfa_46 => k_is); (case zzfl_46 => k_is); (case zzfc_46 => k_is); (case zzfk_46 => k_is); (case zzfi_46 => k_is)
    refine' D2.cutH (D2.me_mk c_Formula D2.bd_Formula___repr__ ?zzfa_47 ?zzfl_47 ?zzfc_47 ?zzfk_47 ?zzfi_47) (fun F_Formula___repr__ => ?zzg47)
    (case zzfa_47 => k_is); (case zzfl_47 => k_is); (case zzfc_47 => k_is); (case zzfk_47 => k_is); (case zzfi_47 => k_is)
    refine' D2.cutH (D2.me_mk c_Formula D2.bd_Formula___eq__ ?zzfa_48 ?zzfl_48 ?zzfc_48 ?zzfk_48 ?zzfi_48) (fun F_Formula___eq__ => ?zzg48)
    (case zzfa_48 => k_is); (case zzfl_48 => k_is); (case zzfc_48 => k_is); (case zzfk_48 => k_is); (case zzfi_48 => k_is)
    refine' D2.cutH (D2.mik_mk c_Formula D2.bk_Formula___init__ ?zzmk_49 ?zzfa_49 ?zzfl_49 ?zzfc_49 ?zzfk_49 ?zzfi_49 ?zzkc_49) (fun K_Formula___init__ => ?zzg49)
    (case zzmk_49 => k_is); (case zzfa_49 => k_is); (case zzfl_49 => k_is); (case zzfc_49 => k_is); (case zzfk_49 => k_is); (case zzfi_49 => k_is); (case zzkc_49 => k_is)
    refine' D2.cutH (D2.mek_mk c_Formula D2.bk_Formula_put ?zzfa_50 ?zzfl_50 ?zzfc_50 ?zzfk_50 ?zzfi_50) (fun K_Formula_put => ?zzg50)
    (case zzfa_50 => k_is); (case zzfl_50 => k_is); (case zzfc_50 => k_is); (case zzfk_50 => k_is); (case zzfi_50 => k_is)
    refine' D2.cutH (PySem.W.mg_none_of (n := "all") KX G ?zzz_51) (fun n_all => ?zzg51)
    (case zzz_51 => k_is)
    refine' D2.cutH (PySem.W.mg_none_of (n := "any") KX G ?zzz_52) (fun n_any => ?zzg52)
    (case zzz_52 => k_is)
    refine' D2.cutH (PySem.W.mg_none_of (n := "bool") KX G ?zzz_53) (fun n_bool => ?zzg53)
    (case zzz_53 => k_is)
    refine' D2.cutH (PySem.W.mg_none_of (n := "enumerate") KX G ?zzz_54) (fun n_enumerate => ?zzg54)
    (case zzz_54 => k_is)
    refine' D2.cutH (PySem.W.mg_none_of (n := "int") KX G ?zzz_55) (fun n_int => ?zzg55)
    (case zzz_55 => k_is)
    refine' D2.cutH (PySem.W.mg_none_of (n := "isinstance") KX G ?zzz_56) (fun n_isinstance => ?zzg56)
    (case zzz_56 => k_is)
    refine' D2.cutH (PySem.W.mg_none_of (n := "len") KX G ?zzz_57) (fun n_len => ?zzg57)
    (case zzz_57 => k_is)
    refine' D2.cutH (PySem.W.mg_none_of (n := "list") KX G ?zzz_58) (fun n_list => ?zzg58)
    (case zzz_58 => k_is)
    refine' D2.cutH (PySem.W.mg_none_of (n := "max") KX G ?zzz_59) (fun n_max => ?zzg59)
    (case zzz_59 => k_is)
    refine' D2.cutH (PySem.W.mg_none_of (n := "property") KX G ?zzz_60) (fun n_property => ?zzg60)
    (case zzz_60 => k_is)
    refine' D2.cutH (PySem.W.mg_none_of (n := "range") KX G ?zzz_61) (fun n_range => ?zzg61)
    (case zzz_61 => k_is)
    refine' D2.cutH (PySem.W.mg_none_of (n := "repr") KX G ?zzz_62) (fun n_repr => ?zzg62)
    (case zzz_62 => k_is)
    refine' D2.cutH (PySem.W.mg_none_of (n := "staticmethod") KX G ?zzz_63) (fun n_staticmethod => ?zzg63)
    (case zzz_63 => k_is)
    refine' D2.cutH (PySem.W.mg_none_of (n := "str") KX G ?zzz_64) (fun n_str => ?zzg64)
    (case zzz_64 => k_is)
    refine' D2.cutH (PySem.W.mg_none_of (n := "sum") KX G ?zzz_65) (fun n_sum => ?zzg65)
    (case zzz_65 => k_is)
    refine' D2.cutH (PySem.W.mg_none_of (n := "tuple") KX G ?zzz_66) (fun n_tuple => ?zzg66)
    (case zzz_66 => k_is)
    refine' D2.cutH (D2.ref_mk (n := "WORDS") KX G ?zzg_67) (fun m_WORDS => ?zzg67)
    (case zzg_67 => k_is)
    refine' D2.cutH (D2.strs_is ["root", "if", "then", "else", "i", "t", "sheet", "input", "let", "given", "answer", "answers", "broken", "program", "number", "round", "out", "scaffold", "inputs", "pillar", "done", "at", "as", "of", "real", "complex", "dear", "free"] (D2.lk_of KX m_WORDS ?zzl_68) ?zzz_68 ?zzv_68) (fun i_WORDS => ?zzg68)
    (case zzl_68 => k_is); (case zzz_68 => decide +kernel); (case zzv_68 => repeat (first | exact Paired.nil | refine Paired.cons ⟨_, rfl⟩ ?_))
    refine' D2.cutH (D2.con_mk (x := "LETTERS") (c := D2.c_LETTERS) KX G ?zzg_69 ?zze_69) (fun m_LETTERS => ?zzg69)
    (case zzg_69 => k_is); (case zze_69 => decide +kernel)
    refine' D2.cutH (D2.con_mk (x := "SIGNS") (c := D2.c_SIGNS) KX G ?zzg_70 ?zze_70) (fun m_SIGNS => ?zzg70)
    (case zzg_70 => k_is); (case zze_70 => decide +kernel)
    refine' D2.cutH (D2.con_mk (x := "DIGITS") (c := D2.c_DIGITS) KX G ?zzg_71 ?zze_71) (fun m_DIGITS => ?zzg71)
    (case zzg_71 => k_is); (case zze_71 => decide +kernel)
    refine' D2.cutH (D2.con_mk (x := "RUN") (c := D2.c_RUN) KX G ?zzg_72 ?zze_72) (fun m_RUN => ?zzg72)
    (case zzg_72 => k_is); (case zze_72 => decide +kernel)
    refine' D2.cutH (D2.ref_mk (n := "RANKS") KX G ?zzg_73) (fun m_RANKS => ?zzg73)
    (case zzg_73 => k_is)
    refine' D2.cutH (D2.ranks_mk (w := w) (D2.lk_of KX m_RANKS ?zzl_74) ?zze1_74 ?zze2_74 ?zze3_74 ?zze4_74 ?zze5_74 ?zzlo_74) (fun R_RANKS => ?zzg74)
    (case zzl_74 => k_is); (case zze1_74 => first | rfl | decide +kernel); (case zze2_74 => first | rfl | decide +kernel); (case zze3_74 => first | rfl | decide +kernel); (case zze4_74 => first | rfl | decide +kernel); (case zze5_74 => first | rfl | decide +kernel); (case zzlo_74 => decide +kernel)
    refine' D2.cutH (D2.int_mk (n := "BEGIN") 0 KX G ?zzg_75) (fun m_BEGIN => ?zzg75)
    (case zzg_75 => k_is)
    refine' D2.cutH (D2.int_mk (n := "OPERAND") 1 KX G ?zzg_76) (fun m_OPERAND => ?zzg76)
    (case zzg_76 => k_is)
    refine' D2.cutH (D2.int_mk (n := "BRACKET") 2 KX G ?zzg_77) (fun m_BRACKET => ?zzg77)
    (case zzg_77 => k_is)
    refine' D2.cutH (D2.int_mk (n := "EXPONENT") 3 KX G ?zzg_78) (fun m_EXPONENT => ?zzg78)
    (case zzg_78 => k_is)
    refine' D2.cutH (D2.int_mk (n := "ATOM") 4 KX G ?zzg_79) (fun m_ATOM => ?zzg79)
    (case zzg_79 => k_is)
    refine' D2.cutH (D2.int_mk (n := "POWER") 5 KX G ?zzg_80) (fun m_POWER => ?zzg80)
    (case zzg_80 => k_is)
    refine' D2.cutH (D2.int_mk (n := "BAD") 6 KX G ?zzg_81) (fun m_BAD => ?zzg81)
    (case zzg_81 => k_is)
    refine' D2.done_mk (D2.run_all (A := ⟨_, _, _, _, _, _, _, _, _, _, _, _, _, _, _⟩) {
      m_Steps := c_Steps.m,
      d_Steps := c_Steps.d,
      m_Formula := c_Formula.m,
      d_Formula := c_Formula.d,
      F_is_name := F_is_name,
      F_tokens := F_tokens,
      F_is_digits := F_is_digits,
      F_next_state := F_next_state,
      F_bad_place := F_bad_place,
      F_operand_step := F_operand_step,
      F_postfix := F_postfix,
      F_around := F_around,
      F_written := F_written,
      F_read_steps := F_read_steps,
      F_l_jar := F_l_jar,
      F_l_draw := F_l_draw,
      F_l_pick := F_l_pick,
      F_l_like := F_l_like,
      F_l_words := F_l_words,
      F_l_syms := F_l_syms,
      F_l_stranger := F_l_stranger,
      F_l_tokens := F_l_tokens,
      F_l_grown := F_l_grown,
      F_l_read_sum := F_l_read_sum,
      F_l_read_product := F_l_read_product,
      F_l_read_power := F_l_read_power,
      F_l_shown := F_l_shown,
      F_l_loose := F_l_loose,
      F_l_spaced := F_l_spaced,
      F_l_tree := F_l_tree,
      F_l_names_of := F_l_names_of,
      F_l_many := F_l_many,
      F_l_put := F_l_put,
      F_l_steps := F_l_steps,
      F_l_is_formula := F_l_is_formula,
      F_l_twin := F_l_twin,
      F_l_puts := F_l_puts,
      F_law := F_law,
      F_Steps___init__ := F_Steps___init__,
      F_Formula___init__ := F_Formula___init__,
      F_Formula_of := F_Formula_of,
      F_Formula_names := F_Formula_names,
      F_Formula_roots := F_Formula_roots,
      F_Formula_has_i := F_Formula_has_i,
      F_Formula_put := F_Formula_put,
      F_Formula_steps := F_Formula_steps,
      F_Formula_text := F_Formula_text,
      F_Formula___str__ := F_Formula___str__,
      F_Formula___repr__ := F_Formula___repr__,
      F_Formula___eq__ := F_Formula___eq__,
      K_Formula___init__ := K_Formula___init__,
      K_Formula_put := K_Formula_put,
      na_steps := D2.na_mk ?zzna_steps,
      na_text := D2.na_mk ?zzna_text,
      na_rows := D2.na_mk ?zzna_rows,
      ki_FF := ?zzki_FF,
      ki_SS := ?zzki_SS,
      ki_sS := ?zzki_sS,
      ki_sF := ?zzki_sF,
      nf_F := ?zznf_F,
      nf_s := ?zznf_s,
      n_all := n_all,
      n_any := n_any,
      n_bool := n_bool,
      n_enumerate := n_enumerate,
      n_int := n_int,
      n_isinstance := n_isinstance,
      n_len := n_len,
      n_list := n_list,
      n_max := n_max,
      n_property := n_property,
      n_range := n_range,
      n_repr := n_repr,
      n_staticmethod := n_staticmethod,
      n_str := n_str,
      n_sum := n_sum,
      n_tuple := n_tuple,
      m_WORDS := m_WORDS,
      i_WORDS := i_WORDS,
      m_LETTERS := m_LETTERS,
      i_LETTERS := fun _ => .str _,
      m_SIGNS := m_SIGNS,
      i_SIGNS := fun _ => .str _,
      m_DIGITS := m_DIGITS,
      i_DIGITS := fun _ => .str _,
      m_RUN := m_RUN,
      i_RUN := fun _ => .str _,
      m_RANKS := m_RANKS,
      m_BEGIN := m_BEGIN,
      i_BEGIN := fun _ => .int _,
      m_OPERAND := m_OPERAND,
      i_OPERAND := fun _ => .int _,
      m_BRACKET := m_BRACKET,
      i_BRACKET := fun _ => .int _,
      m_EXPONENT := m_EXPONENT,
      i_EXPONENT := fun _ => .int _,
      m_ATOM := m_ATOM,
      i_ATOM := fun _ => .int _,
      m_POWER := m_POWER,
      i_POWER := fun _ => .int _,
      m_BAD := m_BAD,
      i_BAD := fun _ => .int _ } R_RANKS ⟨rfl, by decide, by decide +kernel⟩) hmg
    (case zzna_steps => k_is)
    (case zzna_text => k_is)
    (case zzna_rows => k_is)
    (case zzki_FF => kit_is)
    (case zzki_SS => kit_is)
    (case zzki_sS => kit_is)
    (case zzki_sF => kit_is)
    (case zznf_F => k_is)
    (case zznf_s => k_is)
