import PyProof.Rows.All
import Wide.All
import OpenK.AllK
import Wide.FinOn
import HandS.ForMost
import HandS.ForExc
import HandS.ExcInit
import KE.DataEq
import HandS.IsInst
import HandS.Style
import HandS.Wide
import HandS.TupAny
import HandS.Zip
import HandS.TryOnly
import HandS.More
import HandS.Star
import HandS.MakeKwOnly
import KE.KSuper
import KE.KExcSuper
import HandS.Nested
import HandS.ExcSuper
import KE.KExcIs
import HandS.ExcField
import PyProof.Conv_bool
import PyProof.ReprRoads
import HandS.ExcIs
import HandS.Ends
import HandS.HeadEnd
import HandS.HeadHook1
import HandS.HeadHook2
import HandS.WordsExc
import HandS.Defaults
import KE.KStateDown
import HandS.Head0
import HandS.Head1
import HandS.Head2
import HandS.HeadHook4
import PyProof.ReprLen
import PySem.Challenge.RW_leanon_k02_papers_and_errors
set_option Elab.async false
set_option linter.all false
set_option maxRecDepth 100000
set_option maxHeartbeats 4000000
/-! Ly0: plain data D, results R, the pen, what a heap holds of them (Dt, Rel), the judgement DX of an expression. -/
namespace L2.Ly
open PySem PySem.Spec PyProof.Rows

inductive D where
  | non | bl (b : Bool) | int (i : Int) | str (s : Str)
  | tup (xs : List D) | lst (xs : List D) | dct (kvs : List (Key × D))
  | ins (c : Str) (fs : List (Str × D)) | exn (c : Str) (fs : List (Str × D))

structure Ex where
  cls : Str
  fs : List (Str × D)

inductive R (α : Type) where
  | ok (a : α) | err (e : Ex) | bad

structure Pen where
  cells : List Int
  pos : Int
  rest : Int

/-- a run that may draw: the pen goes along -/
def M (α : Type) := Pen → R α × Pen

namespace R
def bind {α β : Type} (x : R α) (f : α → R β) : R β := match x with
  | .ok a => f a
  | .err e => .err e
  | .bad => .bad
instance : Monad R where
  pure := R.ok
  bind := R.bind
section
variable {α β γ : Type}
@[simp] theorem ok_bind (a : α) (f : α → R β) : ((R.ok a : R α) >>= f) = f a := rfl
@[simp] theorem err_bind (e : Ex) (f : α → R β) : ((R.err e : R α) >>= f) = R.err e := rfl
@[simp] theorem bad_bind (f : α → R β) : ((R.bad : R α) >>= f) = R.bad := rfl
@[simp] theorem pure_ok (a : α) : (pure a : R α) = R.ok a := rfl
theorem bind_assoc (x : R α) (f : α → R β) (g : β → R γ) : ((x >>= f) >>= g) = (x >>= fun a => f a >>= g) := by cases x <;> rfl
end
end R

namespace M
def bind {α β : Type} (x : M α) (f : α → M β) : M β := fun p => match x p with
  | (.ok a, p') => f a p'
  | (.err e, p') => (.err e, p')
  | (.bad, p') => (.bad, p')
instance : Monad M where
  pure a := fun p => (.ok a, p)
  bind := M.bind
def lift {α : Type} (r : R α) : M α := fun p => (r, p)
section
variable {α β γ : Type}
theorem bind_def (x : M α) (f : α → M β) (p : Pen) : (x >>= f) p = match x p with
  | (.ok a, p') => f a p'
  | (.err e, p') => (.err e, p')
  | (.bad, p') => (.bad, p') := rfl
@[simp] theorem pure_def (a : α) (p : Pen) : (pure a : M α) p = (.ok a, p) := rfl
@[simp] theorem lift_def (r : R α) (p : Pen) : M.lift r p = (r, p) := rfl
theorem lift_ok (a : α) : M.lift (R.ok a) = pure a := rfl
theorem lift_bind (r : R α) (f : α → R β) : (M.lift r >>= fun x => M.lift (f x)) = M.lift (r >>= f) := by
  funext p
  cases r <;> rfl
theorem pure_bind (a : α) (f : α → M β) : ((pure a : M α) >>= f) = f a := rfl
theorem bind_assoc (x : M α) (f : α → M β) (g : β → M γ) : ((x >>= f) >>= g) = (x >>= fun a => f a >>= g) := by
  funext p
  simp only [bind_def]
  cases x p with
  | mk a p' => cases a <;> rfl
theorem bind_pure (x : M α) : (x >>= fun a => pure a) = x := by
  funext p
  simp only [bind_def]
  cases x p with
  | mk a p' => cases a <;> rfl
end
end M

/-! ### what a heap holds -/
mutual
inductive Dt (K : PySem.W.Frag) (mg : Str → Option Value) (B : Hp) : V → D → Prop
  | non : Dt K mg B .non .non
  | bl (b : Bool) : Dt K mg B (.bl b) (.bl b)
  | int (i : Int) : Dt K mg B (.int i) (.int i)
  | str (x : Str) : Dt K mg B (.str x) (.str x)
  | tup {a : Addr} {vs : List V} {xs : List D} : SqT K B a vs → DtAll K mg B vs xs → Dt K mg B (.ref a) (.tup xs)
  | lst {a : Addr} {vs : List V} {xs : List D} : B a = some (.lst vs) → DtAll K mg B vs xs → Dt K mg B (.ref a) (.lst xs)
  | dct {a : Addr} {kvs : List (Key × V)} {xs : List (Key × D)} : B a = some (.dK kvs) → DtKv K mg B kvs xs → Dt K mg B (.ref a) (.dct xs)
  | ins {a C dx : Addr} {c : Str} {fs : List (Str × V)} {xs : List (Str × D)} : mg c = some (.ref C) → B a = some (.ins C dx fs) → DtFs K mg B fs xs → Dt K mg B (.ref a) (.ins c xs)
  | exn {a C dx : Addr} {c : Str} {fs : List (Str × V)} {xs : List (Str × D)} : mg c = some (.ref C) → B a = some (exo a C (some dx)) → B dx = some (exd dx fs) → DtFs K mg B fs xs → Dt K mg B (.ref a) (.exn c xs)
inductive DtAll (K : PySem.W.Frag) (mg : Str → Option Value) (B : Hp) : List V → List D → Prop
  | nil : DtAll K mg B [] []
  | cons {v : V} {vs : List V} {d : D} {ds : List D} : Dt K mg B v d → DtAll K mg B vs ds → DtAll K mg B (v :: vs) (d :: ds)
inductive DtKv (K : PySem.W.Frag) (mg : Str → Option Value) (B : Hp) : List (Key × V) → List (Key × D) → Prop
  | nil : DtKv K mg B [] []
  | cons {k : Key} {v : V} {vs : List (Key × V)} {d : D} {ds : List (Key × D)} : Dt K mg B v d → DtKv K mg B vs ds → DtKv K mg B ((k, v) :: vs) ((k, d) :: ds)
inductive DtFs (K : PySem.W.Frag) (mg : Str → Option Value) (B : Hp) : List (Str × V) → List (Str × D) → Prop
  | nil : DtFs K mg B [] []
  | cons {k : Str} {v : V} {vs : List (Str × V)} {d : D} {ds : List (Str × D)} : Dt K mg B v d → DtFs K mg B vs ds → DtFs K mg B ((k, v) :: vs) ((k, d) :: ds)
end

theorem Same.rd {H H' : Hp} {a : Addr} {o : HO} (s : Same H H') (h : Rd H a o) : Rd H' a o := by
  rcases h with h | ⟨u, h⟩
  · exact .inl (s _ _ h)
  · exact .inr ⟨u, s _ _ h⟩
theorem Same.sqt {K : PySem.W.Frag} {H H' : Hp} {a : Addr} {vs : List V} (s : Same H H') (h : SqT K H a vs) : SqT K H' a vs := by
  rcases h with h | h
  · exact .inl (Same.rd s h)
  · exact .inr h
section
variable {K : PySem.W.Frag} {mg : Str → Option Value} {B B' : Hp}
mutual
theorem Dt.mono (s : Same B B') : ∀ (d : D) (v : V), Dt K mg B v d → Dt K mg B' v d
  | .non, _, h => by cases h; exact .non
  | .bl b, _, h => by cases h; exact .bl b
  | .int i, _, h => by cases h; exact .int i
  | .str x, _, h => by cases h; exact .str x
  | .tup xs, _, h => by
    cases h with
    | tup h1 h2 => exact .tup (Same.sqt s h1) (DtAll.mono s xs _ h2)
  | .lst xs, _, h => by
    cases h with
    | lst h1 h2 => exact .lst (s _ _ h1) (DtAll.mono s xs _ h2)
  | .dct xs, _, h => by
    cases h with
    | dct h1 h2 => exact .dct (s _ _ h1) (DtKv.mono s xs _ h2)
  | .ins c xs, _, h => by
    cases h with
    | ins h0 h1 h2 => exact .ins h0 (s _ _ h1) (DtFs.mono s xs _ h2)
  | .exn c xs, _, h => by
    cases h with
    | exn h0 h1 h2 h3 => exact .exn h0 (s _ _ h1) (s _ _ h2) (DtFs.mono s xs _ h3)
theorem DtAll.mono (s : Same B B') : ∀ (xs : List D) (vs : List V), DtAll K mg B vs xs → DtAll K mg B' vs xs
  | [], _, h => by cases h; exact .nil
  | d :: ds, _, h => by
    cases h with
    | cons h1 h2 => exact .cons (Dt.mono s d _ h1) (DtAll.mono s ds _ h2)
theorem DtKv.mono (s : Same B B') : ∀ (xs : List (Key × D)) (vs : List (Key × V)), DtKv K mg B vs xs → DtKv K mg B' vs xs
  | [], _, h => by cases h; exact .nil
  | (_, d) :: ds, _, h => by
    cases h with
    | cons h1 h2 => exact .cons (Dt.mono s d _ h1) (DtKv.mono s ds _ h2)
theorem DtFs.mono (s : Same B B') : ∀ (xs : List (Str × D)) (vs : List (Str × V)), DtFs K mg B vs xs → DtFs K mg B' vs xs
  | [], _, h => by cases h; exact .nil
  | (_, d) :: ds, _, h => by
    cases h with
    | cons h1 h2 => exact .cons (Dt.mono s d _ h1) (DtFs.mono s ds _ h2)
end
theorem DtAll.length : ∀ {vs : List V} {xs : List D}, DtAll K mg B vs xs → vs.length = xs.length
  | _, _, .nil => rfl
  | _, _, .cons _ t => by rw [List.length_cons, List.length_cons, DtAll.length t]
theorem DtAll.append : ∀ {vs us : List V} {xs ys : List D}, DtAll K mg B vs xs → DtAll K mg B us ys → DtAll K mg B (vs ++ us) (xs ++ ys)
  | _, _, _, _, .nil, h => h
  | _, _, _, _, .cons a t, h => .cons a (DtAll.append t h)
theorem DtAll.get : ∀ {vs : List V} {xs : List D} {i : Nat} {v : V}, DtAll K mg B vs xs → vs[i]? = some v → ∃ d, xs[i]? = some d ∧ Dt K mg B v d
  | _, _, _, _, .nil, e => by simp at e
  | _, _, 0, _, .cons a _, e => by
    simp at e
    subst e
    exact ⟨_, rfl, a⟩
  | _, _, i + 1, _, .cons _ t, e => by
    obtain ⟨d, h1, h2⟩ := DtAll.get (i := i) t (by simpa using e)
    exact ⟨d, by simpa using h1, h2⟩
theorem DtAll.getD : ∀ {vs : List V} {xs : List D} {i : Nat} {d : D}, DtAll K mg B vs xs → xs[i]? = some d → ∃ v, vs[i]? = some v ∧ Dt K mg B v d
  | _, _, _, _, .nil, e => by simp at e
  | _, _, 0, _, .cons a _, e => by
    simp at e
    subst e
    exact ⟨_, rfl, a⟩
  | _, _, i + 1, _, .cons _ t, e => by
    obtain ⟨d, h1, h2⟩ := DtAll.getD (i := i) t (by simpa using e)
    exact ⟨d, by simpa using h1, h2⟩
theorem DtAll.take : ∀ {vs : List V} {xs : List D} (n : Nat), DtAll K mg B vs xs → DtAll K mg B (vs.take n) (xs.take n)
  | _, _, 0, _ => by simp; exact .nil
  | _, _, _ + 1, .nil => by simp; exact .nil
  | _, _, n + 1, .cons a t => by
    simp only [List.take_succ_cons]
    exact .cons a (DtAll.take n t)
theorem DtAll.drop : ∀ {vs : List V} {xs : List D} (n : Nat), DtAll K mg B vs xs → DtAll K mg B (vs.drop n) (xs.drop n)
  | _, _, 0, h => by simpa using h
  | _, _, _ + 1, .nil => by simp; exact .nil
  | _, _, n + 1, .cons a t => by
    simp only [List.drop_succ_cons]
    exact DtAll.drop n t
theorem DtAll.eraseIdx : ∀ {vs : List V} {xs : List D} (n : Nat), DtAll K mg B vs xs → DtAll K mg B (vs.eraseIdx n) (xs.eraseIdx n)
  | _, _, _, .nil => by simp; exact .nil
  | _, _, 0, .cons a t => by simpa using t
  | _, _, n + 1, .cons a t => by
    simp only [List.eraseIdx_cons_succ]
    exact .cons a (DtAll.eraseIdx n t)
theorem DtAll.set : ∀ {vs : List V} {xs : List D} {v : V} {d : D} (n : Nat), Dt K mg B v d → DtAll K mg B vs xs → DtAll K mg B (vs.set n v) (xs.set n d)
  | _, _, _, _, _, _, .nil => by simp; exact .nil
  | _, _, _, _, 0, h, .cons a t => by simpa using DtAll.cons h t
  | _, _, _, _, n + 1, h, .cons a t => by
    simp only [List.set_cons_succ]
    exact .cons a (DtAll.set n h t)
theorem DtAll.reverse : ∀ {vs : List V} {xs : List D}, DtAll K mg B vs xs → DtAll K mg B vs.reverse xs.reverse
  | _, _, .nil => by simp; exact .nil
  | _, _, .cons a t => by
    simp only [List.reverse_cons]
    exact DtAll.append (DtAll.reverse t) (.cons a .nil)
end

/-! ### slots -/
inductive LV where
  | no | d (x : D) | ml (xs : List D) | md (kvs : List (Key × D)) | pen
  /-- an instance at a of the class at C that is being made -/
  | mi (a C : Addr) (fs : List (Str × D))
  /-- just this value -/
  | is (v : V)

/-- where a body stands: the written part, the module's names, the abstract heap at the entry, the pen's place, what is wished of exceptions -/
structure Gam (K : PySem.W.Frag) (mg : Str → Option Value) where
  H0 : Hp
  pa : Option Addr
  W : WX
  /-- what stands and must never be held as plain data -/
  fre : Addr → Prop
def PenAt (K : PySem.W.Frag) (H B : Hp) (a : Addr) (p : Pen) : Prop :=
  ∃ c, H a = some (.lst [.ref c, .int p.pos, .int p.rest]) ∧ B a = none ∧ B c = some (.lst (p.cells.map V.int))
def SlotR {K : PySem.W.Frag} {mg : Str → Option Value} (G : Gam K mg) (H B : Hp) (v : Option (Option V)) : LV → Prop
  | .no => True
  | .d x => ∃ u, v = some (some u) ∧ Dt K mg B u x
  | .ml xs => ∃ l us, v = some (some (.ref l)) ∧ H l = some (.lst us) ∧ us.length ≤ sizeLine ∧ DtAll K mg B us xs
  | .md kvs => ∃ l us, v = some (some (.ref l)) ∧ H l = some (.dK us) ∧ DtKv K mg B us kvs
  | .pen => ∃ a, v = some (some (.ref a)) ∧ G.pa = some a
  | .is u => v = some (some u)
  | .mi a C fs => ∃ dx us, v = some (some (.ref a)) ∧ H a = some (.ins C dx us) ∧ DtFs K mg B us fs
def LV.own : LV → Bool
  | .ml _ => true
  | .md _ => true
  | .mi _ _ _ => true
  | _ => false
/-- the slot i is the owner of a -/
def Own (σ : St) (η : List LV) (i : Nat) (a : Addr) : Prop := σ[i]? = some (some (.ref a)) ∧ ∃ lv, η[i]? = some lv ∧ lv.own = true
/-- sequences have their largest size -/
def okSz : HO → Prop
  | .lst vs => vs.length ≤ sizeLine
  | .tup vs => vs.length ≤ sizeLine
  | .frz _ (.tup vs) => vs.length ≤ sizeLine
  | _ => True
structure Rel {K : PySem.W.Frag} {mg : Str → Option Value} (G : Gam K mg) (H B : Hp) (σ : St) (η : List LV) (p : Pen) : Prop where
  len : η.length = σ.length
  sub : Same B H
  sz : ∀ a o, B a = some o → okSz o
  fr : ∀ a o, G.H0 a = some o → G.pa ≠ some a → H a = some o
  pen : ∀ a, G.pa = some a → PenAt K H B a p
  sl : ∀ (i : Nat) (lv : LV), η[i]? = some lv → SlotR G H B σ[i]? lv
  dj : ∀ (i j : Nat) (a : Addr), Own σ η i a → Own σ η j a → i = j
  nf : ∀ a, G.fre a → B a = none ∧ ∃ o, H a = some o
  fresh : ∀ (i : Nat) (a : Addr), Own σ η i a → G.H0 a = none ∧ B a = none ∧ G.pa ≠ some a ∧ ¬ G.fre a

section
variable {K : PySem.W.Frag} {mg : Str → Option Value} {G : Gam K mg} {H B : Hp} {σ : St} {η : List LV} {p : Pen} {a l : Addr} {o : HO}
theorem same_upd {H : Hp} {l : Addr} {o : HO} (h : H l = none) : Same H (upd H l o) := fun b u e => by
  rw [upd_ne (ne_of_none e h)]
  exact e
theorem Rel.own_at (r : Rel G H B σ η p) {i : Nat} (h : Own σ η i a) : ∃ u, H a = some u := by
  obtain ⟨h1, lv, h2, h3⟩ := h
  have s := r.sl i lv h2
  cases lv with
  | no => simp [LV.own] at h3
  | d x => simp [LV.own] at h3
  | ml xs =>
    obtain ⟨l, us, e, q, _⟩ := s
    rw [h1] at e
    cases e
    exact ⟨_, q⟩
  | md xs =>
    obtain ⟨l, us, e, q, _⟩ := s
    rw [h1] at e
    cases e
    exact ⟨_, q⟩
  | pen => simp [LV.own] at h3
  | is u => simp [LV.own] at h3
  | mi a C fs =>
    obtain ⟨dx, us, e, q, _⟩ := s
    rw [h1] at e
    cases e
    exact ⟨_, q⟩
theorem SlotR.mono {H' B' : Hp} {v : Option (Option V)} {lv : LV} (h : SlotR G H B v lv) (s : Same B B') (k : ∀ a, lv.own = true → v = some (some (.ref a)) → H' a = H a) : SlotR G H' B' v lv := by
  cases lv with
  | no => trivial
  | d x =>
    obtain ⟨u, e, q⟩ := h
    exact ⟨u, e, Dt.mono s x u q⟩
  | ml xs =>
    obtain ⟨l, us, e, q, z, t⟩ := h
    exact ⟨l, us, e, by rw [k l rfl e]; exact q, z, DtAll.mono s xs us t⟩
  | md xs =>
    obtain ⟨l, us, e, q, t⟩ := h
    exact ⟨l, us, e, by rw [k l rfl e]; exact q, DtKv.mono s xs us t⟩
  | pen => exact h
  | is u => exact h
  | mi a C fs =>
    obtain ⟨dx, us, e, q, t⟩ := h
    exact ⟨dx, us, e, by rw [k a rfl e]; exact q, DtFs.mono s fs us t⟩
/-- a new object, not held as plain data yet -/
theorem Rel.new (r : Rel G H B σ η p) (h : H l = none) : Rel G (upd H l o) B σ η p := by
  refine ⟨r.len, fun b u e => ?_, r.sz, fun b u e n => ?_, fun b e => ?_, fun i lv e => ?_, r.dj, fun b e => ⟨(r.nf b e).1, let ⟨u, q⟩ := (r.nf b e).2; ⟨u, same_upd h b u q⟩⟩, r.fresh⟩
  · exact same_upd h b u (r.sub b u e)
  · exact same_upd h b u (r.fr b u e n)
  · obtain ⟨c, h1, h2, h3⟩ := r.pen b e
    exact ⟨c, same_upd h _ _ h1, h2, h3⟩
  · refine (r.sl i lv e).mono (Same.refl _) fun b ho hv => ?_
    obtain ⟨u, q⟩ := r.own_at ⟨hv, lv, e, ho⟩
    rw [upd_ne (ne_of_none q h)]
/-- what stands, nobody's own, is held as plain data from now on -/
theorem Rel.hold (r : Rel G H B σ η p) (hz : okSz o) (h : H l = some o) (hn : B l = none) (hp : G.pa ≠ some l) (ho : ∀ i, ¬ Own σ η i l) (hf : ¬ G.fre l) : Rel G H (upd B l o) σ η p := by
  have s : Same B (upd B l o) := same_upd hn
  refine ⟨r.len, fun b u e => ?_, fun b u e => ?_, r.fr, fun b e => ?_, fun i lv e => ?_, r.dj, fun b e => ⟨?_, (r.nf b e).2⟩, fun i b hb => ?_⟩
  · by_cases hb : b = l
    · subst hb
      rw [upd_same] at e
      cases e
      exact h
    · rw [upd_ne hb] at e
      exact r.sub b u e
  · by_cases hb : b = l
    · subst hb
      rw [upd_same] at e
      cases e
      exact hz
    · rw [upd_ne hb] at e
      exact r.sz b u e
  · obtain ⟨c, h1, h2, h3⟩ := r.pen b e
    refine ⟨c, h1, ?_, s _ _ h3⟩
    rw [upd_ne]
    · exact h2
    · rintro rfl
      exact hp e
  · exact (r.sl i lv e).mono s fun b _ _ => rfl
  · rw [upd_ne]
    · exact (r.nf b e).1
    · rintro rfl
      exact hf e
  · obtain ⟨h1, h2, h3⟩ := r.fresh i b hb
    refine ⟨h1, ?_, h3⟩
    rw [upd_ne]
    · exact h2
    · rintro rfl
      exact ho i hb
/-- a new object, held as plain data -/
theorem Rel.born (r : Rel G H B σ η p) (hz : okSz o) (h : H l = none) : Rel G (upd H l o) (upd B l o) σ η p := by
  refine (r.new h).hold hz upd_same ?_ ?_ ?_ ?_
  · cases q : B l with
    | none => rfl
    | some u =>
      have z := r.sub l u q
      rw [h] at z
      cases z
  · intro e
    obtain ⟨c, h1, _⟩ := r.pen l e
    rw [h] at h1
    cases h1
  · intro i ho
    obtain ⟨u, q⟩ := r.own_at ho
    rw [h] at q
    cases q
  · intro hf
    obtain ⟨_, u, q⟩ := r.nf l hf
    rw [h] at q
    cases q
theorem Rel.none_of (r : Rel G H B σ η p) (h : H l = none) : B l = none := by
  cases q : B l with
  | none => rfl
  | some u =>
    have z := r.sub l u q
    rw [h] at z
    cases z
end

theorem Rel.tupSz {K : PySem.W.Frag} {mg : Str → Option Value} {G : Gam K mg} {H B : Hp} {σ : St} {η : List LV} {p : Pen} {a : Addr} {vs : List V} (r : Rel G H B σ η p) (h : SqT K B a vs) : vs.length ≤ sizeLine := by
  rcases h with (h | ⟨o, h⟩) | ⟨o, its, n, _, _, _, hz, hv⟩
  · exact r.sz a _ h
  · exact r.sz a _ h
  · have e := hv.length
    simp only [Array.length_toList] at e
    omega
theorem Rel.lstSz {K : PySem.W.Frag} {mg : Str → Option Value} {G : Gam K mg} {H B : Hp} {σ : St} {η : List LV} {p : Pen} {a : Addr} {vs : List V} (r : Rel G H B σ η p) (h : B a = some (.lst vs)) : vs.length ≤ sizeLine := r.sz a _ h
/-! ### what is wanted behind -/
/-- an exception e, as it lies: its class, its own dict -/
def ExR {K : PySem.W.Frag} {mg : Str → Option Value} (G : Gam K mg) (H B : Hp) (e : Ex) (cls : Value) (x : Option Addr) : Prop :=
  ∃ C dx fs, cls = .ref C ∧ mg e.cls = some (.ref C) ∧ x = some dx ∧ H dx = some (.xd fs) ∧ DtFs K mg B fs e.fs
def Post {K : PySem.W.Frag} {mg : Str → Option Value} {α β : Type} (G : Gam K mg) (σ : St) (η : List LV) (rep : Hp → Hp → β → α → Prop) (B : Hp) (res : R α × Pen) (Q : β → Hp → Prop) : Prop := match res.1 with
  | .ok a => ∀ v H' B', Same B B' → Rel G H' B' σ η res.2 → rep B' H' v a → Q v H'
  | .err e => ∀ cls x H' B', Same B B' → Rel G H' B' σ η res.2 → ExR G H' B' e cls x → G.W cls x σ H'
  | .bad => False
def tX {K : PySem.W.Frag} {mg : Str → Option Value} (G : Gam K mg) (η : List LV) (r : M D) : TE := fun σ H Q => ∃ B p, Rel G H B σ η p ∧ Post G σ η (fun B _ v x => Dt K mg B v x) B (r p) Q
/-- the expression e gives r, wherever the slots hold η -/
def DX (X : Cx) (G : Gam X.K X.mg) (η : List LV) (e : Expr) (r : M D) : Prop := PE X e (tX G η r)
def tXb {K : PySem.W.Frag} {mg : Str → Option Value} (G : Gam K mg) (η : List LV) (r : M Bool) : TT := fun σ H Q => ∃ B p, Rel G H B σ η p ∧ Post G σ η (fun _ _ b c => b = c) B (r p) Q
/-- .. as a test -/
def DXb (X : Cx) (G : Gam X.K X.mg) (η : List LV) (e : Expr) (r : M Bool) : Prop := PT X e (tXb G η r)
def tXa {K : PySem.W.Frag} {mg : Str → Option Value} (G : Gam K mg) (η : List LV) (r : M (List D)) : TA := fun σ H Q => ∃ B p, Rel G H B σ η p ∧ Post G σ η (fun B _ v x => DtAll K mg B v x) B (r p) Q
/-- .. arguments, items -/
def DXa (X : Cx) (G : Gam X.K X.mg) (η : List LV) (es : List Expr) (r : M (List D)) : Prop := PA X es (tXa G η r) ∧ ∀ p xs p', r p = (R.ok xs, p') → xs.length = es.length

section
variable {K : PySem.W.Frag} {mg : Str → Option Value} {α β γ δ : Type} {G : Gam K mg} {σ : St} {η : List LV} {B B' : Hp} {p : Pen}
theorem Post.mono {rep : Hp → Hp → β → α → Prop} {res : R α × Pen} {Q : β → Hp → Prop} (s : Same B B') (h : Post G σ η rep B res Q) : Post G σ η rep B' res Q := by
  obtain ⟨r, p'⟩ := res
  cases r with
  | ok a => exact fun v H' B'' s' => h v H' B'' (s.trans s')
  | err e => exact fun cls x H' B'' s' => h cls x H' B'' (s.trans s')
  | bad => exact h
theorem Post.imp {rep : Hp → Hp → β → α → Prop} {res : R α × Pen} {Q Q' : β → Hp → Prop} (h : Post G σ η rep B res Q) (i : ∀ v H', Q v H' → Q' v H') : Post G σ η rep B res Q' := by
  obtain ⟨r, p'⟩ := res
  cases r with
  | ok a => exact fun v H' B'' s' r' q => i _ _ (h v H' B'' s' r' q)
  | err e => exact h
  | bad => exact h
/-- one thing behind another -/
theorem Post.bind {rep : Hp → Hp → β → α → Prop} {rep' : Hp → Hp → δ → γ → Prop} {x : M α} {f : α → M γ} {Q : δ → Hp → Prop} (h : Post G σ η rep' B ((x >>= f) p) Q) :
    Post G σ η rep B (x p) (fun v H' => ∃ B' p' a, Same B B' ∧ Rel G H' B' σ η p' ∧ rep B' H' v a ∧ Post G σ η rep' B' (f a p') Q) := by
  rw [M.bind_def] at h
  revert h
  cases x p with
  | mk r p' =>
    cases r with
    | ok a => exact fun h v H' B' s' r' q => ⟨B', p', a, s', r', q, h.mono s'⟩
    | err e => exact fun h => h
    | bad => exact fun h => h
theorem Post.lift {rep : Hp → Hp → β → α → Prop} {a : α} {Q : β → Hp → Prop} {H' : Hp} {v : β} (h : Post G σ η rep B (R.ok a, p) Q) (r : Rel G H' B σ η p) (q : rep B H' v a) : Q v H' := h v H' B (Same.refl _) r q
theorem Post.lift' {rep : Hp → Hp → β → α → Prop} {a : α} {Q : β → Hp → Prop} {H' : Hp} {v : β} (h : Post G σ η rep B (R.ok a, p) Q) (s : Same B B') (r : Rel G H' B' σ η p) (q : rep B' H' v a) : Q v H' := h v H' B' s r q
end
end L2.Ly

set_option Elab.async false
set_option linter.all false
set_option maxRecDepth 100000
set_option maxHeartbeats 4000000
/-! Ly1: rules of expressions over plain data: names, constants, displays, operators, comparisons, truth. -/
namespace L2.Ly
open PySem PySem.Spec PyProof.Rows

theorem PE.pre {X : Cx} {e : Expr} {t t' : TE} (h : PE X e t) (i : ∀ σ H Q, t' σ H Q → t σ H Q) : PE X e t' := ⟨fun pins s σ H Q I w => h.run pins s σ H Q I (i _ _ _ w)⟩
theorem PT.pre {X : Cx} {e : Expr} {t t' : TT} (h : PT X e t) (i : ∀ σ H Q, t' σ H Q → t σ H Q) : PT X e t' := ⟨fun pins s σ H Q I w => h.run pins s σ H Q I (i _ _ _ w)⟩
theorem PW.pre {X : Cx} {e : Expr} {t t' : TT} (h : PW X e t) (i : ∀ σ H Q, t' σ H Q → t σ H Q) : PW X e t' := ⟨fun wh pins s σ H Q I w => h.run wh pins s σ H Q I (i _ _ _ w)⟩
theorem PA.pre {X : Cx} {e : List Expr} {t t' : TA} (h : PA X e t) (i : ∀ σ H Q, t' σ H Q → t σ H Q) : PA X e t' := ⟨fun pos pins s σ H Q I w => h.run pos pins s σ H Q I (i _ _ _ w)⟩

/-- values that stand for data, in B -/
abbrev rD (K : PySem.W.Frag) (mg : Str → Option Value) : Hp → Hp → V → D → Prop := fun B _ v x => Dt K mg B v x
abbrev rA (K : PySem.W.Frag) (mg : Str → Option Value) : Hp → Hp → List V → List D → Prop := fun B _ v x => DtAll K mg B v x
abbrev rB : Hp → Hp → Bool → Bool → Prop := fun _ _ b c => b = c

section
variable {X : Cx} {G : Gam X.K X.mg} {η : List LV} {e a b : Expr} {es : List Expr} {pos : Pos}

theorem dx_of {t : TE} {r : M D} (h : PE X e t) (i : ∀ σ H Q B p, Rel G H B σ η p → Post G σ η (rD X.K X.mg) B (r p) Q → t σ H Q) : DX X G η e r := PE.pre h fun σ H Q ⟨B, p, rl, q⟩ => i σ H Q B p rl q
theorem dxb_of {t : TT} {r : M Bool} (h : PT X e t) (i : ∀ σ H Q B p, Rel G H B σ η p → Post G σ η rB B (r p) Q → t σ H Q) : DXb X G η e r := PT.pre h fun σ H Q ⟨B, p, rl, q⟩ => i σ H Q B p rl q

/-! ### names, constants -/
theorem dx_var {i : Nat} {x : Str} {d : D} (h : PE X (.Name x pos) (tVar i)) (hi : η[i]? = some (.d d) := by rfl) : DX X G η (.Name x pos) (pure d) :=
  dx_of h fun σ H Q B p rl q => by
    obtain ⟨u, e, dt⟩ := rl.sl i _ hi
    exact ⟨u, e, q.lift rl dt⟩
theorem dx_const {v : V} {d : D} (h : PE X e (tC v)) (hd : ∀ B, Dt X.K X.mg B v d) : DX X G η e (pure d) :=
  dx_of h fun σ H Q B p rl q => q.lift rl (hd B)
theorem dx_int {i : Int} {j pos} : DX X G η (.Constant (.int i) j pos) (pure (.int i)) := dx_const pe_int fun _ => .int i
theorem dx_bl {b : Bool} {j pos} : DX X G η (.Constant (.bool b) j pos) (pure (.bl b)) := dx_const pe_bl fun _ => .bl b
theorem dx_non {j pos} : DX X G η (.Constant .none j pos) (pure .non) := dx_const pe_non fun _ => .non
theorem dx_str {x : Str} {j pos} : DX X G η (.Constant (.str x) j pos) (pure (.str x)) := dx_const pe_str fun _ => .str x

/-! ### argument lists, tuples -/
theorem dxa_nil : DXa X G η [] (pure []) :=
  ⟨PA.pre pa_nil fun σ H Q ⟨B, p, rl, q⟩ => q.lift rl .nil, fun p xs p' h => by cases h; rfl⟩
theorem dxa_cons {r : M D} {rs : M (List D)} (he : DX X G η e r) (hr : DXa X G η es rs) (hs : starEach (e :: es) X.env = (false, eval e X.env) :: starEach es X.env := by rfl) :
    DXa X G η (e :: es) (r >>= fun x => rs >>= fun xs => pure (x :: xs)) := by
  refine ⟨PA.pre (pa_cons he hr.1 hs) fun σ H Q ⟨B, p, rl, q⟩ => ⟨B, p, rl, q.bind.imp ?_⟩, fun p xs p' h => ?_⟩
  · rintro v H1 ⟨B1, p1, x, s1, rl1, d1, q1⟩
    refine ⟨B1, p1, rl1, q1.bind.imp ?_⟩
    rintro vs H2 ⟨B2, p2, xs, s2, rl2, d2, q2⟩
    exact q2.lift rl2 (.cons (Dt.mono s2 _ _ d1) d2)
  · rw [M.bind_def] at h
    revert h
    cases r p with
    | mk y p1 =>
      cases y with
      | ok y =>
        show (rs >>= fun xs => pure (y :: xs)) p1 = _ → _
        rw [M.bind_def]
        cases e1 : rs p1 with
        | mk z p2 =>
          cases z with
          | ok z =>
            intro h
            cases h
            rw [List.length_cons, List.length_cons, hr.2 _ _ _ e1]
          | err e => intro h; cases h
          | bad => intro h; cases h
      | err e => intro h; cases h
      | bad => intro h; cases h
theorem sl1000 {n : Nat} (h : n ≤ 1000) : n ≤ sizeLine := Nat.le_trans h (by decide)
theorem dx_tup {x1} {rs : M (List D)} (h : DXa X G η es rs) (hl : es.length ≤ 1000 := by decide) : DX X G η (.Tuple es x1 pos) (rs >>= fun xs => pure (.tup xs)) := by
  refine PE.pre (pe_tup h.1) fun σ H Q ⟨B, p, rl, q⟩ => ⟨B, p, rl, ?_⟩
  have key : ∀ xs p', rs p = (R.ok xs, p') → xs.length = es.length := fun xs p' e => h.2 p xs p' e
  revert q
  rw [M.bind_def]
  cases e1 : rs p with
  | mk r p1 =>
    cases r with
    | ok xs =>
      intro q vs H1 B1 s1 rl1 d1
      have hz : vs.length ≤ sizeLine := by rw [d1.length, key _ _ e1]; exact sl1000 hl
      refine ⟨hz, fun l hn => ?_⟩
      exact q _ _ _ (s1.trans (same_upd (rl1.none_of hn))) (rl1.born hz hn) (.tup (SqT.of upd_same) (DtAll.mono (same_upd (rl1.none_of hn)) _ _ d1))
    | err e => exact fun q => q
    | bad => exact fun q => q

/-! ### operators by values -/
/-- F, by values, does f -/
def OpS (X : Cx) (F : Value → Value → Sem Value) (f : D → D → R D) : Prop := ∃ r : R2, OpR X F r ∧ ∀ (G : Gam X.K X.mg) (η : List LV) (σ : St) (B H : Hp) (p : Pen) (v w : V) (x y : D) (Q : VK),
  Rel G H B σ η p → Dt X.K X.mg B v x → Dt X.K X.mg B w y → Post G σ η (rD X.K X.mg) B (f x y, p) Q → r v w H Q
theorem two {f : D → D → R D} {ra rb : M D} {r : R2} {ta tb : TE} (ha : DX X G η a ra) (hb : DX X G η b rb)
    (hf : ∀ (σ : St) (B H : Hp) (p : Pen) (v w : V) (x y : D) (Q : VK), Rel G H B σ η p → Dt X.K X.mg B v x → Dt X.K X.mg B w y → Post G σ η (rD X.K X.mg) B (f x y, p) Q → r v w H Q)
    {σ : St} {H : Hp} {Q : VK} (h : tX G η (ra >>= fun x => rb >>= fun y => M.lift (f x y)) σ H Q) : tX G η ra σ H fun x H1 => tX G η rb σ H1 fun y H2 => r x y H2 Q := by
  obtain ⟨B, p, rl, q⟩ := h
  refine ⟨B, p, rl, q.bind.imp ?_⟩
  rintro v H1 ⟨B1, p1, x, s1, rl1, d1, q1⟩
  refine ⟨B1, p1, rl1, q1.bind.imp ?_⟩
  rintro w H2 ⟨B2, p2, y, s2, rl2, d2, q2⟩
  exact hf σ B2 H2 p2 v w x y Q rl2 (Dt.mono s2 _ _ d1) d2 q2
theorem dx_op {op : Operator} {f : D → D → R D} {ra rb : M D} (ho : OpS X (binaryOp op) f) (ha : DX X G η a ra) (hb : DX X G η b rb) : DX X G η (.BinOp a op b pos) (ra >>= fun x => rb >>= fun y => M.lift (f x y)) := by
  obtain ⟨r, h1, h2⟩ := ho
  exact PE.pre (pe_op h1 ha hb) fun σ H Q h => two ha hb (h2 G η) h (ta := tX G η ra) (tb := tX G η rb)
theorem dx_cmp {op : CmpOp} {f : D → D → R D} {ra rb : M D} (ho : OpS X (compareOp op) f) (ha : DX X G η a ra) (hb : DX X G η b rb) (hm : behindInMarks op b = false) : DX X G η (.Compare a [op] [b] pos) (ra >>= fun x => rb >>= fun y => M.lift (f x y)) := by
  obtain ⟨r, h1, h2⟩ := ho
  exact PE.pre (pe_cmpR h1 ha hb hm) fun σ H Q h => two ha hb (h2 G η) h (ta := tX G η ra) (tb := tX G η rb)
/-- an expression that gives a truth -/
def toB : D → R Bool
  | .bl b => .ok b
  | _ => .bad
/-- any value's truth -/
def truthy : D → R Bool
  | .bl b => .ok b
  | .non => .ok false
  | .int i => .ok (i != 0)
  | .str s => if s.length ≤ sizeLine then .ok (s.length != 0) else .bad
  | .tup xs => .ok (!xs.isEmpty)
  | .lst xs => .ok (!xs.isEmpty)
  | _ => .bad
theorem truthy_noerr (x : D) (e : Ex) : truthy x ≠ .err e := by
  intro h
  cases x with
  | str z =>
    have h : (if z.length ≤ sizeLine then R.ok (z.length != 0) else R.bad) = R.err e := h
    by_cases hz : z.length ≤ sizeLine
    · rw [if_pos hz] at h
      cases h
    · rw [if_neg hz] at h
      cases h
  | _ => cases h
theorem isEmpty_dt {B : Hp} {vs : List V} {xs : List D} (h : DtAll X.K X.mg B vs xs) : vs.isEmpty = xs.isEmpty := by cases h <;> rfl
theorem tru_of {B H : Hp} {v : V} {x : D} {b : Bool} (s : Same B H) (h : Dt X.K X.mg B v x) (e : truthy x = .ok b) : TruV X.K v H b := by
  cases h with
  | non => cases e; rfl
  | bl c => cases e; rfl
  | int i => cases e; rfl
  | str z =>
    have e : (if z.length ≤ sizeLine then R.ok (z.length != 0) else R.bad) = R.ok b := e
    by_cases hz : z.length ≤ sizeLine
    · rw [if_pos hz] at e
      cases e
      exact ⟨hz, by cases z.length <;> rfl⟩
    · rw [if_neg hz] at e
      cases e
  | tup h1 h2 =>
    cases e
    exact .inr (.inl ⟨_, Same.sqt s h1, by rw [isEmpty_dt h2]⟩)
  | lst h1 h2 =>
    cases e
    exact .inl ⟨_, SqL.of (s _ _ h1), by rw [isEmpty_dt h2]⟩
  | dct h1 h2 => cases e
  | ins h0 h1 h2 => cases e
  | exn h0 h1 h2 h3 => cases e
theorem dxb_truth {ra : M D} (ha : DX X G η a ra) (he : ∀ whole, isTrue a X.env whole = (do let v ← whole; standAt a.pos; holding [v] (PySem.truthy v)) := by intro _; rfl) : DXb X G η a (ra >>= fun x => M.lift (truthy x)) := by
  refine PT.pre (pt_truth ha he) fun σ H Q ⟨B, p, rl, q⟩ => ⟨B, p, rl, q.bind.imp ?_⟩
  rintro v H1 ⟨B1, p1, x, s1, rl1, d1, q1⟩
  revert q1
  rw [M.lift_def]
  cases e : truthy x with
  | ok b => exact fun q1 => ⟨b, tru_of rl1.sub d1 e, q1.lift rl1 rfl⟩
  | err e' => exact fun q1 => absurd e (truthy_noerr x e')
  | bad => exact fun q1 => q1.elim
theorem dxb_val {ra : M D} (ha : DX X G η a ra) (he : ∀ whole, isTrue a X.env whole = (do let v ← whole; standAt a.pos; holding [v] (PySem.truthy v)) := by intro _; rfl) : DXb X G η a (ra >>= fun x => M.lift (toB x)) := by
  refine PT.pre (pt_val ha he) fun σ H Q ⟨B, p, rl, q⟩ => ⟨B, p, rl, q.bind.imp ?_⟩
  rintro v H1 ⟨B1, p1, x, s1, rl1, d1, q1⟩
  cases d1 with
  | bl c => exact ⟨c, rfl, q1.lift rl1 rfl⟩
  | _ => exact q1.elim
theorem dxb_cmp {op : CmpOp} {f : D → D → R D} {ra rb : M D} (ho : OpS X (compareOp op) f) (ha : DX X G η a ra) (hb : DX X G η b rb) (hm : behindInMarks op b = false) : DXb X G η (.Compare a [op] [b] pos) (ra >>= fun x => rb >>= fun y => M.lift (f x y >>= toB)) := by
  obtain ⟨r, h1, h2⟩ := ho
  refine PT.pre (pt_cmpR h1 ha hb hm) fun σ H Q ⟨B, p, rl, q⟩ => ⟨B, p, rl, q.bind.imp ?_⟩
  rintro v H1 ⟨B1, p1, x, s1, rl1, d1, q1⟩
  refine ⟨B1, p1, rl1, q1.bind.imp ?_⟩
  rintro w H2 ⟨B2, p2, y, s2, rl2, d2, q2⟩
  refine h2 G η σ B2 H2 p2 v w x y _ rl2 (Dt.mono s2 _ _ d1) d2 ?_
  revert q2
  rw [M.lift_def]
  cases f x y with
  | ok z =>
    intro q2 u H3 B3 s3 rl3 d3
    cases d3 with
    | bl c => exact ⟨c, rfl, q2 c H3 B3 s3 rl3 rfl⟩
    | _ => exact q2.elim
  | err e => exact fun q2 => q2
  | bad => exact fun q2 => q2

/-! ### and, or, not, if -/
def DXw (X : Cx) (G : Gam X.K X.mg) (η : List LV) (e : Expr) (r : M Bool) : Prop := PW X e (tXb G η r)
theorem dxw_b {r : M Bool} (h : DXw X G η e r) : DXb X G η e r := PW.pt h
theorem dxw_and1 {r : M Bool} (h : DXb X G η a r) : DXw X G η (.BoolOp .And [a] pos) r := pw_and1 h
theorem dxw_or1 {r : M Bool} (h : DXb X G η a r) : DXw X G η (.BoolOp .Or [a] pos) r := pw_or1 h
theorem dxw_and {rest : List Expr} {r r' : M Bool} (h : DXb X G η a r) (h' : DXw X G η (.BoolOp .And (b :: rest) pos) r') : DXw X G η (.BoolOp .And (a :: b :: rest) pos) (r >>= fun c => if c then r' else pure false) := by
  refine PW.pre (pw_and h h') fun σ H Q ⟨B, p, rl, q⟩ => ⟨B, p, rl, q.bind.imp ?_⟩
  rintro c H1 ⟨B1, p1, c', s1, rl1, rfl, q1⟩
  cases c with
  | true => exact iteT ⟨B1, p1, rl1, q1⟩
  | false => exact iteF (q1.lift rl1 rfl)
theorem dxw_or {rest : List Expr} {r r' : M Bool} (h : DXb X G η a r) (h' : DXw X G η (.BoolOp .Or (b :: rest) pos) r') : DXw X G η (.BoolOp .Or (a :: b :: rest) pos) (r >>= fun c => if c then pure true else r') := by
  refine PW.pre (pw_or h h') fun σ H Q ⟨B, p, rl, q⟩ => ⟨B, p, rl, q.bind.imp ?_⟩
  rintro c H1 ⟨B1, p1, c', s1, rl1, rfl, q1⟩
  cases c with
  | true => exact iteT (q1.lift rl1 rfl)
  | false => exact iteF ⟨B1, p1, rl1, q1⟩
theorem dxb_not {r : M Bool} (h : DXb X G η a r) : DXb X G η (.UnaryOp .Not a pos) (r >>= fun c => pure (!c)) := by
  refine PT.pre (pt_not h) fun σ H Q ⟨B, p, rl, q⟩ => ⟨B, p, rl, q.bind.imp ?_⟩
  rintro c H1 ⟨B1, p1, c', s1, rl1, rfl, q1⟩
  exact q1.lift rl1 rfl
/-- as values: all but the last one are truths -/
theorem dx_one {op} {r : M D} (h : DX X G η a r) : DX X G η (.BoolOp op [a] pos) r := pe_one h
theorem dx_and {rest : List Expr} {r r' : M D} (h : DX X G η a r) (h' : DX X G η (.BoolOp .And (b :: rest) pos) r') : DX X G η (.BoolOp .And (a :: b :: rest) pos) (r >>= fun x => M.lift (toB x) >>= fun c => if c then r' else pure (.bl false)) := by
  refine PE.pre (pe_and h h') fun σ H Q ⟨B, p, rl, q⟩ => ⟨B, p, rl, q.bind.imp ?_⟩
  rintro v H1 ⟨B1, p1, x, s1, rl1, d1, q1⟩
  cases d1 with
  | bl c =>
    refine ⟨c, rfl, ?_⟩
    cases c with
    | true => exact iteT ⟨B1, p1, rl1, q1⟩
    | false => exact iteF (q1.lift rl1 (.bl false))
  | _ => exact q1.elim
theorem dx_or {rest : List Expr} {r r' : M D} (h : DX X G η a r) (h' : DX X G η (.BoolOp .Or (b :: rest) pos) r') : DX X G η (.BoolOp .Or (a :: b :: rest) pos) (r >>= fun x => M.lift (toB x) >>= fun c => if c then pure (.bl true) else r') := by
  refine PE.pre (pe_or h h') fun σ H Q ⟨B, p, rl, q⟩ => ⟨B, p, rl, q.bind.imp ?_⟩
  rintro v H1 ⟨B1, p1, x, s1, rl1, d1, q1⟩
  cases d1 with
  | bl c =>
    refine ⟨c, rfl, ?_⟩
    cases c with
    | true => exact iteT (q1.lift rl1 (.bl true))
    | false => exact iteF ⟨B1, p1, rl1, q1⟩
  | _ => exact q1.elim
/-- not, as a value, of a truth -/
theorem dx_not {r : M D} (h : DX X G η a r) : DX X G η (.UnaryOp .Not a pos) (r >>= fun x => M.lift (toB x) >>= fun c => pure (.bl (!c))) := by
  refine PE.pre (pe_not h) fun σ H Q ⟨B, p, rl, q⟩ => ⟨B, p, rl, q.bind.imp ?_⟩
  rintro v H1 ⟨B1, p1, x, s1, rl1, d1, q1⟩
  cases d1 with
  | bl c => exact ⟨c, rfl, q1.lift rl1 (.bl (!c))⟩
  | _ => exact q1.elim
theorem dx_if {c : Expr} {rc : M Bool} {ra rb : M D} (hc : DXb X G η c rc) (ha : DX X G η a ra) (hb : DX X G η b rb) : DX X G η (.IfExp c a b pos) (rc >>= fun t => if t then ra else rb) := by
  refine PE.pre (pe_ifExp hc ha hb) fun σ H Q ⟨B, p, rl, q⟩ => ⟨B, p, rl, q.bind.imp ?_⟩
  rintro t H1 ⟨B1, p1, t', s1, rl1, rfl, q1⟩
  cases t with
  | true => exact iteT ⟨B1, p1, rl1, q1⟩
  | false => exact iteF ⟨B1, p1, rl1, q1⟩
end
end L2.Ly

set_option Elab.async false
set_option linter.all false
set_option maxRecDepth 100000
set_option maxHeartbeats 4000000
/-! Ly2: ==, in, <, is, chains, isinstance over plain data. -/
namespace L2.Ly
open PySem PySem.Spec PyProof.Rows

/-! ### data as the library's data -/
mutual
def D.py : D → PyData
  | .non => .none
  | .bl b => .bool b
  | .int i => .int i
  | .str s => .str s
  | .tup xs => .tuple (pyAll xs)
  | .lst xs => .list (pyAll xs)
  | .dct _ => .none
  | .ins _ _ => .none
  | .exn _ _ => .none
def pyAll : List D → List PyData
  | [] => []
  | x :: xs => x.py :: pyAll xs
end
mutual
/-- no dict, no instance lies within -/
def D.plain : D → Bool
  | .tup xs => plainAll xs
  | .lst xs => plainAll xs
  | .dct _ => false
  | .ins _ _ => false
  | .exn _ _ => false
  | .non => true
  | .bl _ => true
  | .int _ => true
  | .str _ => true
def plainAll : List D → Bool
  | [] => true
  | x :: xs => x.plain && plainAll xs
end
mutual
def D.depth : D → Nat
  | .tup xs => depthAll xs + 1
  | .lst xs => depthAll xs + 1
  | .dct _ => 0
  | .ins _ _ => 0
  | .exn _ _ => 0
  | .non => 0
  | .bl _ => 0
  | .int _ => 0
  | .str _ => 0
def depthAll : List D → Nat
  | [] => 0
  | x :: xs => max x.depth (depthAll xs)
end
theorem pyAll_map : ∀ xs : List D, pyAll xs = xs.map D.py
  | [] => rfl
  | x :: xs => by rw [pyAll, pyAll_map xs]; rfl
mutual
theorem plain_py : ∀ d : D, d.plain = true → d.py.plain = true
  | .non, _ => rfl
  | .bl _, _ => rfl
  | .int _, _ => rfl
  | .str _, _ => rfl
  | .tup xs, h => by
    show PyData.plainAll (pyAll xs) = true
    exact plainAll_py xs h
  | .lst xs, h => by
    show PyData.plainAll (pyAll xs) = true
    exact plainAll_py xs h
  | .dct _, h => by cases h
  | .ins _ _, h => by cases h
  | .exn _ _, h => by cases h
theorem plainAll_py : ∀ xs : List D, plainAll xs = true → PyData.plainAll (pyAll xs) = true
  | [], _ => rfl
  | x :: xs, h => by
    have h' : x.plain = true ∧ plainAll xs = true := by simpa [plainAll] using h
    show (x.py.plain && PyData.plainAll (pyAll xs)) = true
    rw [plain_py x h'.1, plainAll_py xs h'.2]
    rfl
end
mutual
theorem depth_py : ∀ d : D, d.py.depth = d.depth
  | .non => rfl
  | .bl _ => rfl
  | .int _ => rfl
  | .str _ => rfl
  | .tup xs => by
    show PyData.depthAll (pyAll xs) + 1 = depthAll xs + 1
    rw [depthAll_py xs]
  | .lst xs => by
    show PyData.depthAll (pyAll xs) + 1 = depthAll xs + 1
    rw [depthAll_py xs]
  | .dct _ => rfl
  | .ins _ _ => rfl
  | .exn _ _ => rfl
theorem depthAll_py : ∀ xs : List D, PyData.depthAll (pyAll xs) = depthAll xs
  | [] => rfl
  | x :: xs => by
    show max x.py.depth (PyData.depthAll (pyAll xs)) = max x.depth (depthAll xs)
    rw [depth_py x, depthAll_py xs]
end
section
variable {K : PySem.W.Frag} {mg : Str → Option Value} {B H : Hp}
mutual
theorem Dt.dp (s : Same B H) : ∀ (d : D) (v : V), d.plain = true → Dt K mg B v d → Dp K H v d.py
  | .non, _, _, h => by cases h; exact .non
  | .bl b, _, _, h => by cases h; exact .bl b
  | .int i, _, _, h => by cases h; exact .int i
  | .str x, _, _, h => by cases h; exact .str x
  | .tup xs, _, hp, h => by
    cases h with
    | tup h1 h2 => exact .tup (Same.sqt s h1) (DtAll.dp s xs _ hp h2)
  | .lst xs, _, hp, h => by
    cases h with
    | lst h1 h2 => exact .lst (SqL.of (s _ _ h1)) (DtAll.dp s xs _ hp h2)
  | .dct _, _, hp, _ => by cases hp
  | .ins _ _, _, hp, _ => by cases hp
  | .exn _ _, _, hp, _ => by cases hp
theorem DtAll.dp (s : Same B H) : ∀ (xs : List D) (vs : List V), plainAll xs = true → DtAll K mg B vs xs → DpAll K H vs (pyAll xs)
  | [], _, _, h => by cases h; exact .nil
  | d :: ds, _, hp, h => by
    have h' : d.plain = true ∧ plainAll ds = true := by simpa [plainAll] using hp
    cases h with
    | cons h1 h2 => exact .cons (Dt.dp s d _ h'.1 h1) (DtAll.dp s ds _ h'.2 h2)
end
end
/-- Python's == of data -/
def D.eqv (a b : D) : Bool := PyData.eqv a.py b.py
def inAll (x : D) (xs : List D) : Bool := xs.any fun y => y.eqv x
def okEq (a b : D) : Bool := a.plain && b.plain && decide (min a.depth b.depth ≤ 100)
def eqD (a b : D) : R D := if okEq a b then .ok (.bl (a.eqv b)) else .bad
def neD (a b : D) : R D := if okEq a b then .ok (.bl (!a.eqv b)) else .bad
def okIn (x : D) (xs : List D) : Bool := x.plain && plainAll xs && decide (min (depthAll xs) x.depth ≤ 100)
/-- one sign in a text -/
def oneSign (s : Str) : Option Nat := match s.cps.toList with
  | [c] => some c
  | _ => none
def isIn (x c : D) : R Bool := match c with
  | .tup xs => if okIn x xs then .ok (inAll x xs) else .bad
  | .lst xs => if okIn x xs then .ok (inAll x xs) else .bad
  | .str z => match x with
    | .str s => match oneSign s with
      | some c => .ok (decide (c ∈ z.cps.toList))
      | none => .bad
    | _ => .bad
  | _ => .bad
def inD (x c : D) : R D := isIn x c >>= fun b => .ok (.bl b)
def notInD (x c : D) : R D := isIn x c >>= fun b => .ok (.bl (!b))
def ltD (a b : D) : R D := match a, b with
  | .int i, .int j => .ok (.bl (decide (i < j)))
  | _, _ => .bad
def leD (a b : D) : R D := match a, b with
  | .int i, .int j => .ok (.bl (decide (i ≤ j)))
  | _, _ => .bad
def gtD (a b : D) : R D := match a, b with
  | .int i, .int j => .ok (.bl (decide (j < i)))
  | _, _ => .bad
def geD (a b : D) : R D := match a, b with
  | .int i, .int j => .ok (.bl (decide (j ≤ i)))
  | _, _ => .bad
def isNon : D → Bool
  | .non => true
  | _ => false
/-- is, is not: of None, of truths -/
def isD (a b : D) : R D := match b with
  | .non => .ok (.bl (isNon a))
  | .bl c => match a with
    | .bl d => .ok (.bl (d == c))
    | _ => .bad
  | _ => .bad
def isNotD (a b : D) : R D := match b with
  | .non => .ok (.bl (!isNon a))
  | .bl c => match a with
    | .bl d => .ok (.bl (d != c))
    | _ => .bad
  | _ => .bad

section
variable {X : Cx}
theorem op_eqP (hu : X.A.units + 200 < cLine) : OpS X (compareOp .Eq) eqD := by
  refine ⟨fun x y H Q => ∃ d e : PyData, Dp X.K H x d ∧ Dp X.K H y e ∧ d.plain = true ∧ e.plain = true ∧ min d.depth e.depth ≤ 100 ∧ Q (.bl (PyData.eqv d e)) H, ?_, ?_⟩
  · intro pins s σ H x y v u Q I rx ry h
    obtain ⟨d, e, hd, he, sd, se, hm, q⟩ := h
    obtain ⟨as, r1⟩ := Dp.reads I d x v hd rx
    obtain ⟨bs, r2⟩ := Dp.reads I e y u he ry
    exact SeqAt.eq_plain r1 r2 sd se (by omega) ⟨.bl _, H, I, rfl, q⟩
  · intro G η σ B H p v w x y Q rl h1 h2 q
    unfold eqD at q
    by_cases hk : okEq x y = true
    · rw [if_pos hk] at q
      obtain ⟨⟨k1, k2⟩, k3⟩ : (x.plain = true ∧ y.plain = true) ∧ min x.depth y.depth ≤ 100 := by simpa [okEq] using hk
      exact ⟨x.py, y.py, Dt.dp rl.sub x v k1 h1, Dt.dp rl.sub y w k2 h2, plain_py x k1, plain_py y k2, by rw [depth_py, depth_py]; exact k3, q.lift rl (.bl _)⟩
    · rw [if_neg hk] at q
      exact q.elim
theorem op_neP (hu : X.A.units + 200 < cLine) : OpS X (compareOp .NotEq) neD := by
  refine ⟨fun x y H Q => ∃ d e : PyData, Dp X.K H x d ∧ Dp X.K H y e ∧ d.plain = true ∧ e.plain = true ∧ min d.depth e.depth ≤ 100 ∧ Q (.bl (!PyData.eqv d e)) H, ?_, ?_⟩
  · intro pins s σ H x y v u Q I rx ry h
    obtain ⟨d, e, hd, he, sd, se, hm, q⟩ := h
    obtain ⟨as, r1⟩ := Dp.reads I d x v hd rx
    obtain ⟨bs, r2⟩ := Dp.reads I e y u he ry
    exact SeqAt.ne_plain r1 r2 sd se (by omega) ⟨.bl _, H, I, rfl, q⟩
  · intro G η σ B H p v w x y Q rl h1 h2 q
    unfold neD at q
    by_cases hk : okEq x y = true
    · rw [if_pos hk] at q
      obtain ⟨⟨k1, k2⟩, k3⟩ : (x.plain = true ∧ y.plain = true) ∧ min x.depth y.depth ≤ 100 := by simpa [okEq] using hk
      exact ⟨x.py, y.py, Dt.dp rl.sub x v k1 h1, Dt.dp rl.sub y w k2 h2, plain_py x k1, plain_py y k2, by rw [depth_py, depth_py]; exact k3, q.lift rl (.bl _)⟩
    · rw [if_neg hk] at q
      exact q.elim
def rInP (K : PySem.W.Frag) (f : Bool → Bool) : R2 := fun x c H Q => (∃ (d : PyData) (ds : List PyData), Dp K H x d ∧ (Dp K H c (.list ds) ∨ Dp K H c (.tuple ds)) ∧ d.plain = true ∧ PyData.plainAll ds = true ∧ min (PyData.depthAll ds) d.depth ≤ 100 ∧ Q (.bl (f (ds.any fun y => PyData.eqv y d))) H)
theorem any_py (x : D) : ∀ xs : List D, ((pyAll xs).any fun y => PyData.eqv y x.py) = inAll x xs
  | [] => rfl
  | y :: ys => by
    show (PyData.eqv y.py x.py || (pyAll ys).any fun y => PyData.eqv y x.py) = (y.eqv x || inAll x ys)
    rw [any_py x ys]
    rfl
theorem op_in_seqP (hu : X.A.units + 200 < cLine) : OpR X (compareOp .In) (rInP X.K id) := by
  intro pins s σ H x y v u Q I rx ry h
  obtain ⟨d, ds, hd, hc, sd, se, hm, q⟩ := h
  obtain ⟨as, r1⟩ := Dp.reads I d x v hd rx
  rcases hc with hc | hc
  · obtain ⟨bs, r2⟩ := Dp.reads I _ y u hc ry
    exact SeqAt.in_list_data r2 r1 se sd (by omega) ⟨.bl _, H, I, rfl, q⟩
  · obtain ⟨bs, r2⟩ := Dp.reads I _ y u hc ry
    exact SeqAt.in_tuple_data r2 r1 se sd (by omega) ⟨.bl _, H, I, rfl, q⟩
theorem op_notIn_seqP (hu : X.A.units + 200 < cLine) : OpR X (compareOp .NotIn) (rInP X.K not) := by
  intro pins s σ H x y v u Q I rx ry h
  obtain ⟨d, ds, hd, hc, sd, se, hm, q⟩ := h
  obtain ⟨as, r1⟩ := Dp.reads I d x v hd rx
  rcases hc with hc | hc
  · obtain ⟨bs, r2⟩ := Dp.reads I _ y u hc ry
    exact SeqAt.notIn_list_data r2 r1 se sd (by omega) ⟨.bl _, H, I, rfl, q⟩
  · obtain ⟨bs, r2⟩ := Dp.reads I _ y u hc ry
    exact SeqAt.notIn_tuple_data r2 r1 se sd (by omega) ⟨.bl _, H, I, rfl, q⟩
theorem oneSign_eq {s : Str} {c : Nat} (h : oneSign s = some c) : s = ⟨#[c]⟩ := by
  obtain ⟨⟨l⟩⟩ := s
  unfold oneSign at h
  match l, h with
  | [d], h => cases h; rfl
theorem okIn_of {x : D} {xs : List D} (h : okIn x xs = true) : (x.plain = true ∧ plainAll xs = true) ∧ min (depthAll xs) x.depth ≤ 100 := by simpa [okIn] using h
theorem inP_of {f : Bool → Bool} {B H : Hp} {v w : V} {x c : D} {Q : VK} (s : Same B H) (h1 : Dt X.K X.mg B v x) (h2 : Dt X.K X.mg B w c) {b : Bool} (e : isIn x c = .ok b) (q : Q (.bl (f b)) H) :
    rInP X.K f v w H Q ∨ (∃ (c : Nat) (z : Str), v = .str ⟨#[c]⟩ ∧ w = .str z ∧ Q (.bl (f (decide (c ∈ z.cps.toList)))) H) := by
  cases h2 with
  | @tup a vs xs k1 k2 =>
    unfold isIn at e
    by_cases hk : okIn x xs = true
    · simp only [hk, if_true] at e
      cases e
      obtain ⟨⟨h3, h4⟩, h5⟩ := okIn_of hk
      refine .inl ⟨x.py, pyAll xs, Dt.dp s x v h3 h1, .inr (.tup (Same.sqt s k1) (DtAll.dp s xs vs h4 k2)), plain_py x h3, plainAll_py xs h4, by rw [depthAll_py, depth_py]; exact h5, ?_⟩
      rw [any_py]
      exact q
    · simp [hk] at e
  | @lst a vs xs k1 k2 =>
    unfold isIn at e
    by_cases hk : okIn x xs = true
    · simp only [hk, if_true] at e
      cases e
      obtain ⟨⟨h3, h4⟩, h5⟩ := okIn_of hk
      refine .inl ⟨x.py, pyAll xs, Dt.dp s x v h3 h1, .inl (.lst (SqL.of (s _ _ k1)) (DtAll.dp s xs vs h4 k2)), plain_py x h3, plainAll_py xs h4, by rw [depthAll_py, depth_py]; exact h5, ?_⟩
      rw [any_py]
      exact q
    · simp [hk] at e
  | str z =>
    cases h1 with
    | str y =>
      unfold isIn at e
      dsimp only at e
      cases e1 : oneSign y with
      | some c =>
        rw [e1] at e
        cases e
        rw [oneSign_eq e1]
        exact .inr ⟨c, z, rfl, rfl, q⟩
      | none =>
        rw [e1] at e
        cases e
    | _ => cases e
  | _ => cases e
theorem isIn_noerr (x c : D) (e : Ex) : isIn x c ≠ .err e := by
  intro h
  unfold isIn at h
  cases c with
  | tup xs => by_cases hk : okIn x xs = true <;> simp [hk] at h
  | lst xs => by_cases hk : okIn x xs = true <;> simp [hk] at h
  | str z =>
    cases x with
    | str s =>
      dsimp only at h
      cases e1 : oneSign s <;> rw [e1] at h <;> cases h
    | _ => cases h
  | _ => cases h
theorem op_inP (hu : X.A.units + 200 < cLine) : OpS X (compareOp .In) inD := by
  refine ⟨_, (op_in_seqP hu).or op_in_sign, fun G η σ B H p v w x c Q rl h1 h2 q => ?_⟩
  unfold inD at q
  cases e : isIn x c with
  | ok b =>
    rw [e] at q
    exact inP_of (f := id) rl.sub h1 h2 e (q.lift rl (.bl b))
  | err z => exact absurd e (isIn_noerr x c z)
  | bad => rw [e] at q; exact q.elim
theorem op_notInP (hu : X.A.units + 200 < cLine) : OpS X (compareOp .NotIn) notInD := by
  refine ⟨_, (op_notIn_seqP hu).or op_notIn_sign, fun G η σ B H p v w x c Q rl h1 h2 q => ?_⟩
  unfold notInD at q
  cases e : isIn x c with
  | ok b =>
    rw [e] at q
    exact inP_of (f := not) rl.sub h1 h2 e (q.lift rl (.bl (!b)))
  | err z => exact absurd e (isIn_noerr x c z)
  | bad => rw [e] at q; exact q.elim
theorem opS_ints {F : Value → Value → Sem Value} {f : D → D → R D} {g : Int → Int → D} {gv : Int → Int → V} (ho : OpR X F (rI0 gv)) (hf : ∀ x y, f x y = match x, y with | .int i, .int j => .ok (g i j) | _, _ => .bad) (hg : ∀ B i j, Dt X.K X.mg B (gv i j) (g i j)) : OpS X F f := by
  refine ⟨_, ho, fun G η σ B H p v w x y Q rl h1 h2 q => ?_⟩
  rw [hf] at q
  cases h1 with
  | int i =>
    cases h2 with
    | int j => exact ⟨i, j, rfl, rfl, q.lift rl (hg B i j)⟩
    | _ => exact q.elim
  | _ => exact q.elim
theorem op_ltP : OpS X (compareOp .Lt) ltD := opS_ints op_lt (fun x y => by cases x <;> cases y <;> rfl) fun _ _ _ => .bl _
theorem op_leP : OpS X (compareOp .LtE) leD := opS_ints op_le (fun x y => by cases x <;> cases y <;> rfl) fun _ _ _ => .bl _
theorem op_gtP : OpS X (compareOp .Gt) gtD := opS_ints op_gt (fun x y => by cases x <;> cases y <;> rfl) fun _ _ _ => .bl _
theorem op_geP : OpS X (compareOp .GtE) geD := opS_ints op_ge (fun x y => by cases x <;> cases y <;> rfl) fun _ _ _ => .bl _
theorem non_dt {B : Hp} {v : V} {x : D} (h : Dt X.K X.mg B v x) : decide (v = .non) = isNon x := by
  cases h <;> simp [isNon]
theorem op_isP : OpS X (compareOp .Is) isD := by
  refine ⟨_, op_isN.or op_isBl, fun G η σ B H p v w x y Q rl h1 h2 q => ?_⟩
  cases h2 with
  | non =>
    refine .inl ⟨rfl, ?_⟩
    rw [non_dt h1]
    exact q.lift rl (.bl _)
  | bl c =>
    cases h1 with
    | bl d =>
      refine .inr ⟨d, c, rfl, rfl, ?_⟩
      have e : decide (d = c) = (d == c) := by cases d <;> cases c <;> rfl
      rw [e]
      exact q.lift rl (.bl _)
    | _ => exact q.elim
  | _ => exact q.elim
theorem op_isNotP : OpS X (compareOp .IsNot) isNotD := by
  refine ⟨_, op_notN.or op_notBl, fun G η σ B H p v w x y Q rl h1 h2 q => ?_⟩
  cases h2 with
  | non =>
    refine .inl ⟨rfl, ?_⟩
    rw [non_dt h1]
    exact q.lift rl (.bl _)
  | bl c =>
    cases h1 with
    | bl d =>
      refine .inr ⟨d, c, rfl, rfl, ?_⟩
      have e : (!decide (d = c)) = (d != c) := by cases d <;> cases c <;> rfl
      rw [e]
      exact q.lift rl (.bl _)
    | _ => exact q.elim
  | _ => exact q.elim

/-! ### chains -/
variable {G : Gam X.K X.mg} {η : List LV} {e a b c : Expr} {pos p1 p2 p3 : Pos}
theorem dx_chain {op op' : CmpOp} {f f' : D → D → R D} {ra rb rc : M D} (ho : OpS X (compareOp op) f) (ho' : OpS X (compareOp op') f') (ha : DX X G η a ra) (hb : DX X G η b rb) (hc : DX X G η c rc)
    (hm : lastMarks [op, op'] [b, c] = false := by rfl) : DX X G η (.Compare a [op, op'] [b, c] pos) (ra >>= fun x => rb >>= fun y => M.lift (f x y >>= toB) >>= fun t => if t then rc >>= fun z => M.lift (f' y z) else pure (.bl false)) := by
  obtain ⟨r, h1, h2⟩ := ho
  obtain ⟨r', h1', h2'⟩ := ho'
  refine PE.pre (pe_chain h1 h1' ha hb hc hm) fun σ H Q ⟨B, p, rl, q⟩ => ⟨B, p, rl, q.bind.imp ?_⟩
  rintro v H1 ⟨B1, p1, x, s1, rl1, d1, q1⟩
  refine ⟨B1, p1, rl1, q1.bind.imp ?_⟩
  rintro w H2 ⟨B2, p2, y, s2, rl2, d2, q2⟩
  refine h2 G η σ B2 H2 p2 v w x y _ rl2 (Dt.mono s2 _ _ d1) d2 ?_
  revert q2
  rw [M.bind_def, M.lift_def]
  cases f x y with
  | ok z =>
    intro q2 u H3 B3 s3 rl3 d3
    cases d3 with
    | bl t =>
      refine ⟨t, rfl, ?_⟩
      have q3 := Post.mono s3 q2
      cases t with
      | true =>
        refine iteT ⟨B3, p2, rl3, (Post.bind q3).imp ?_⟩
        rintro z H4 ⟨B4, p4, z', s4, rl4, d4, q4⟩
        exact h2' G η σ B4 H4 p4 w z y z' Q rl4 (Dt.mono (s3.trans s4) _ _ d2) d4 q4
      | false => exact iteF (Post.lift q3 rl3 (.bl false))
    | _ => exact q2.elim
  | err e => exact fun q2 => q2
  | bad => exact fun q2 => q2
theorem dxb_chain {op op' : CmpOp} {f f' : D → D → R D} {ra rb rc : M D} (ho : OpS X (compareOp op) f) (ho' : OpS X (compareOp op') f') (ha : DX X G η a ra) (hb : DX X G η b rb) (hc : DX X G η c rc)
    (hm : lastMarks [op, op'] [b, c] = false := by rfl) : DXb X G η (.Compare a [op, op'] [b, c] pos) (ra >>= fun x => rb >>= fun y => M.lift (f x y >>= toB) >>= fun t => if t then rc >>= fun z => M.lift (f' y z >>= toB) else pure false) := by
  obtain ⟨r, h1, h2⟩ := ho
  obtain ⟨r', h1', h2'⟩ := ho'
  refine PT.pre (pt_chain h1 h1' ha hb hc hm) fun σ H Q ⟨B, p, rl, q⟩ => ⟨B, p, rl, q.bind.imp ?_⟩
  rintro v H1 ⟨B1, p1, x, s1, rl1, d1, q1⟩
  refine ⟨B1, p1, rl1, q1.bind.imp ?_⟩
  rintro w H2 ⟨B2, p2, y, s2, rl2, d2, q2⟩
  refine h2 G η σ B2 H2 p2 v w x y _ rl2 (Dt.mono s2 _ _ d1) d2 ?_
  revert q2
  rw [M.bind_def, M.lift_def]
  cases f x y with
  | ok z =>
    intro q2 u H3 B3 s3 rl3 d3
    cases d3 with
    | bl t =>
      refine ⟨t, rfl, ?_⟩
      have q3 := Post.mono s3 q2
      cases t with
      | true =>
        refine iteT ⟨B3, p2, rl3, (Post.bind q3).imp ?_⟩
        rintro z H4 ⟨B4, p4, z', s4, rl4, d4, q4⟩
        refine h2' G η σ B4 H4 p4 w z y z' _ rl4 (Dt.mono (s3.trans s4) _ _ d2) d4 ?_
        revert q4
        rw [M.lift_def]
        cases f' y z' with
        | ok z2 =>
          intro q4 u5 H5 B5 s5 rl5 d5
          cases d5 with
          | bl c5 => exact ⟨c5, rfl, q4 c5 H5 B5 s5 rl5 rfl⟩
          | _ => exact q4.elim
        | err e => exact fun q2 => q2
        | bad => exact fun q2 => q2
      | false => exact iteF ⟨false, rfl, Post.lift q3 rl3 rfl⟩
    | _ => exact q2.elim
  | err e => exact fun q2 => q2
  | bad => exact fun q2 => q2

/-! ### isinstance of built-in classes -/
def tyName : D → String
  | .non => "NoneType"
  | .bl _ => "bool"
  | .int _ => "int"
  | .str _ => "str"
  | .tup _ => "tuple"
  | .lst _ => "list"
  | .dct _ => "dict"
  | .ins _ _ => ""
  | .exn _ _ => ""
def isTyN (n t : String) : Bool := n == t || (n == "bool" && t == "int")
def isTy (x : D) (t : String) : Bool := isTyN (tyName x) t
def isa1 (x : D) (t : String) : R D := match x with
  | .ins _ _ => .bad
  | .exn _ _ => .bad
  | x => .ok (.bl (isTy x t))
def isa2 (x : D) (t u : String) : R D := match x with
  | .ins _ _ => .bad
  | .exn _ _ => .bad
  | x => .ok (.bl (isTy x t || isTy x u))
def plainTy (t : String) : Bool := t == "int" || t == "bool" || t == "str" || t == "list" || t == "tuple" || t == "dict"
theorem kit_names : ∀ n ∈ ["NoneType", "bool", "int", "str", "tuple", "list", "dict"], ∀ t ∈ ["int", "bool", "str", "list", "tuple", "dict"], kitB n t = some (isTyN n t) := by decide +kernel
theorem plainTy_mem {t : String} (h : plainTy t = true) : t ∈ ["int", "bool", "str", "list", "tuple", "dict"] := by
  simp [plainTy] at h
  simp
  rcases h with ((((h | h) | h) | h) | h) | h <;> simp [h]
theorem kit_isTy (x : D) (hx : ∀ c fs, x ≠ .ins c fs ∧ x ≠ .exn c fs) {t : String} (h : plainTy t = true) : kitB (tyName x) t = some (isTy x t) := by
  refine kit_names _ ?_ t (plainTy_mem h)
  cases x with
  | ins c fs => exact absurd rfl (hx c fs).1
  | exn c fs => exact absurd rfl (hx c fs).2
  | _ => simp [tyName]
theorem tyX_of {B H : Hp} {v : V} {x : D} (s : Same B H) (h : Dt X.K X.mg B v x) (hx : ∀ c fs, x ≠ .ins c fs ∧ x ≠ .exn c fs) : TyX X.K H v (.type (tyName x)) := by
  cases h with
  | non => exact .base .non
  | bl b => exact .base (.bl b)
  | int i => exact .base (.int i)
  | str z => exact .base (.str z)
  | tup h1 h2 =>
    rcases Same.sqt s h1 with (h | ⟨o, h⟩) | ⟨o, its, n, h, hc, _⟩
    · exact .base (.tup h)
    · exact .fTuple h
    · exact .kTuple h hc
  | lst h1 h2 => exact .base (.lst (s _ _ h1))
  | dct h1 h2 => exact .base (.dK (s _ _ h1))
  | ins h0 h1 h2 => exact absurd rfl (hx _ _).1
  | exn h0 h1 h2 h3 => exact absurd rfl (hx _ _).2
end
end L2.Ly

set_option Elab.async false
set_option linter.all false
set_option maxRecDepth 100000
set_option maxHeartbeats 4000000
/-! Ly3: new lists, len, list, tuple, +, *, subscripts, slices, isinstance. -/
namespace L2.Ly
open PySem PySem.Spec PyProof.Rows

section
variable {K : PySem.W.Frag} {mg : Str → Option Value} {G : Gam K mg} {H B : Hp} {σ : St} {η : List LV} {p : Pen} {l : Addr}
/-- a list that nobody holds yet -/
def rF (G : Gam K mg) (σ : St) (η : List LV) : Hp → Hp → V → List D → Prop := fun B H v xs =>
  ∃ l us, v = .ref l ∧ H l = some (.lst us) ∧ us.length ≤ sizeLine ∧ B l = none ∧ G.H0 l = none ∧ G.pa ≠ some l ∧ (∀ i, ¬ Own σ η i l) ∧ ¬ G.fre l ∧ DtAll K mg B us xs
theorem Rel.pa_none (r : Rel G H B σ η p) (h : H l = none) : G.pa ≠ some l := by
  intro e
  obtain ⟨c, h1, _⟩ := r.pen l e
  rw [h] at h1
  cases h1
theorem Rel.H0_none (r : Rel G H B σ η p) (h : H l = none) : G.H0 l = none := by
  cases q : G.H0 l with
  | none => rfl
  | some o =>
    have z := r.fr l o q (r.pa_none h)
    rw [h] at z
    cases z
theorem Rel.own_none (r : Rel G H B σ η p) (h : H l = none) (i : Nat) : ¬ Own σ η i l := fun ho => by
  obtain ⟨u, q⟩ := r.own_at ho
  rw [h] at q
  cases q
theorem Rel.not_fre (r : Rel G H B σ η p) (h : H l = none) : ¬ G.fre l := fun hf => by
  obtain ⟨_, u, q⟩ := r.nf l hf
  rw [h] at q
  cases q
theorem Rel.rF (r : Rel G H B σ η p) (h : H l = none) {us : List V} {xs : List D} (hz : us.length ≤ sizeLine) (d : DtAll K mg B us xs) : rF G σ η B (upd H l (.lst us)) (.ref l) xs :=
  ⟨l, us, rfl, upd_same, hz, r.none_of h, r.H0_none h, r.pa_none h, r.own_none h, r.not_fre h, d⟩
end

def tXf {K : PySem.W.Frag} {mg : Str → Option Value} (G : Gam K mg) (η : List LV) (r : M (List D)) : TE := fun σ H Q => ∃ B p, Rel G H B σ η p ∧ Post G σ η (rF G σ η) B (r p) Q
/-- the expression makes a new list -/
def DXf (X : Cx) (G : Gam X.K X.mg) (η : List LV) (e : Expr) (r : M (List D)) : Prop := PE X e (tXf G η r)

def seqItems : D → R (List D)
  | .tup xs => .ok xs
  | .lst xs => .ok xs
  | _ => .bad
def lenD : D → R D
  | .tup xs => .ok (.int xs.length)
  | .lst xs => .ok (.int xs.length)
  | .dct xs => .ok (.int xs.length)
  | .str s => if s.length ≤ sizeLine then .ok (.int s.length) else .bad
  | _ => .bad
def tupleD : D → R D
  | .tup xs => .ok (.tup xs)
  | .lst xs => .ok (.tup xs)
  | _ => .bad
def cat {α : Type} (xs ys : List α) : R (List α) := if xs.length + ys.length ≤ sizeLine then .ok (xs ++ ys) else .bad
def addD (a b : D) : R D := match a, b with
  | .int i, .int j => .ok (.int (i + j))
  | .str s, .str t => if s.length + t.length ≤ sizeLine then .ok (.str (s ++ t)) else .bad
  | .lst xs, .lst ys => cat xs ys >>= fun zs => .ok (.lst zs)
  | .tup xs, .tup ys => cat xs ys >>= fun zs => .ok (.tup zs)
  | _, _ => .bad
def subD (a b : D) : R D := match a, b with
  | .int i, .int j => .ok (.int (i - j))
  | _, _ => .bad
def mulD (a b : D) : R D := match a, b with
  | .int i, .int j => if -(2 ^ 64) < i ∧ i < 2 ^ 64 then .ok (.int (i * j)) else .bad
  | .lst xs, .int k => if -(2 ^ 63) ≤ k ∧ k < 2 ^ 63 ∧ xs.length * k.toNat ≤ sizeLine then .ok (.lst (List.replicate k.toNat xs).flatten) else .bad
  | _, _ => .bad
def modD (a b : D) : R D := match a, b with
  | .int i, .int j => if 0 < j then .ok (.int (i % j)) else .bad
  | _, _ => .bad
def fdivD (a b : D) : R D := match a, b with
  | .int i, .int j => if 0 < j ∧ j < 1073741824 then .ok (.int (i / j)) else .bad
  | _, _ => .bad
def ixD (a b : D) : R D := match a, b with
  | .tup xs, .int i => match atI xs i with | some d => .ok d | none => .bad
  | .lst xs, .int i => match atI xs i with | some d => .ok d | none => .bad
  | .str s, .int i => if s.length ≤ sizeLine then match atI s.cps.toList i with | some c => .ok (.str ⟨#[c]⟩) | none => .bad else .bad
  | _, _ => .bad

section
variable {X : Cx} {G : Gam X.K X.mg} {η : List LV} {e a b : Expr} {es : List Expr} {pos p1 p2 p3 : Pos}
theorem dx_f {r : M (List D)} (h : DXf X G η e r) : DX X G η e (r >>= fun xs => pure (.lst xs)) := by
  refine PE.pre h fun σ H Q ⟨B, p, rl, q⟩ => ⟨B, p, rl, q.bind.imp ?_⟩
  rintro v H1 ⟨B1, p1, xs, s1, rl1, ⟨l, us, rfl, h1, hz, h2, h3, h4, h5, h6, d⟩, q1⟩
  exact q1.lift' (same_upd h2) (rl1.hold (o := HO.lst us) hz h1 h2 h4 h5 h6) (.lst upd_same (DtAll.mono (same_upd h2) _ _ d))
theorem dxf_lst {r : M (List D)} (h : DXa X G η es r) (hl : es.length ≤ 1000 := by decide) : DXf X G η (.List es pos) r := by
  refine PE.pre (pe_lst h.1) fun σ H Q ⟨B, p, rl, q⟩ => ⟨B, p, rl, ?_⟩
  have key : ∀ xs p', r p = (R.ok xs, p') → xs.length = es.length := fun xs p' e => h.2 p xs p' e
  revert q
  cases e1 : r p with
  | mk r p1 =>
    cases r with
    | ok xs =>
      intro q vs H1 B1 s1 rl1 d1
      have hz : vs.length ≤ sizeLine := by rw [d1.length, key _ _ e1]; exact sl1000 hl
      refine ⟨hz, fun l hn => ?_⟩
      exact q _ _ _ s1 (rl1.new hn) (rl1.rF hn hz d1)
    | err e => exact fun q => q
    | bad => exact fun q => q

/-! ### calls of built-ins with one argument -/
def CallS1 (X : Cx) (F : Value) (f : D → R D) : Prop := ∃ r : List V → Hp → VK → Prop, CallR X F r ∧ ∀ (G : Gam X.K X.mg) (η : List LV) (σ : St) (B H : Hp) (p : Pen) (v : V) (x : D) (Q : VK),
  Rel G H B σ η p → Dt X.K X.mg B v x → Post G σ η (rD X.K X.mg) B (f x, p) Q → r [v] H Q
/-- .. that make a new list -/
def CallF1 (X : Cx) (F : Value) (f : D → R (List D)) : Prop := ∃ r : List V → Hp → VK → Prop, CallR X F r ∧ ∀ (G : Gam X.K X.mg) (η : List LV) (σ : St) (B H : Hp) (p : Pen) (v : V) (x : D) (Q : VK),
  Rel G H B σ η p → Dt X.K X.mg B v x → Post G σ η (rF G σ η) B (f x, p) Q → r [v] H Q
theorem dxa_one {r : M D} (he : DX X G η e r) (hs : starEach [e] X.env = (false, eval e X.env) :: starEach [] X.env := by rfl) : PA X [e] (tCons (tX G η r) tNil) := pa_cons he pa_nil hs
theorem dx_callB {x : Str} {id : String} {f : D → R D} {ra : M D} (hc : CallS1 X (.builtin id) f) (hg : Gl X x) (hm : X.mg x = none) (hv : bootBuiltins x = some (.builtin id)) (ha : DX X G η a ra)
    (hn : x ≠ "__name__" := by decide) (hdb : (x == ("__debug__" : Str)) = false := by decide) (hs : starEach [a] X.env = (false, eval a X.env) :: starEach [] X.env := by rfl) : DX X G η (.Call (.Name x p1) [a] [] pos) (ra >>= fun x => M.lift (f x)) := by
  obtain ⟨r, h1, h2⟩ := hc
  refine PE.pre (pe_callB h1 hg hm hv (dxa_one ha hs) hn hdb hs (by cases pos; rfl)) fun σ H Q ⟨B, p, rl, q⟩ => ⟨B, p, rl, q.bind.imp ?_⟩
  rintro v H1 ⟨B1, p1, x, s1, rl1, d1, q1⟩
  exact h2 G η σ B1 H1 p1 v x Q rl1 d1 q1
theorem dx_callTy {x : Str} {T : String} {f : D → R D} {ra : M D} (hc : CallS1 X (.type T) f) (hg : Gl X x) (hm : X.mg x = none) (hv : bootBuiltins x = some (.type T)) (ha : DX X G η a ra)
    (hn : x ≠ "__name__" := by decide) (hdb : (x == ("__debug__" : Str)) = false := by decide) (hs : starEach [a] X.env = (false, eval a X.env) :: starEach [] X.env := by rfl) : DX X G η (.Call (.Name x p1) [a] [] pos) (ra >>= fun x => M.lift (f x)) := by
  obtain ⟨r, h1, h2⟩ := hc
  refine PE.pre (pe_callTy h1 hg hm hv (dxa_one ha hs) hn hdb hs (by cases pos; rfl)) fun σ H Q ⟨B, p, rl, q⟩ => ⟨B, p, rl, q.bind.imp ?_⟩
  rintro v H1 ⟨B1, p1, x, s1, rl1, d1, q1⟩
  exact h2 G η σ B1 H1 p1 v x Q rl1 d1 q1
theorem dxf_callB {x : Str} {id : String} {f : D → R (List D)} {ra : M D} (hc : CallF1 X (.builtin id) f) (hg : Gl X x) (hm : X.mg x = none) (hv : bootBuiltins x = some (.builtin id)) (ha : DX X G η a ra)
    (hn : x ≠ "__name__" := by decide) (hdb : (x == ("__debug__" : Str)) = false := by decide) (hs : starEach [a] X.env = (false, eval a X.env) :: starEach [] X.env := by rfl) : DXf X G η (.Call (.Name x p1) [a] [] pos) (ra >>= fun x => M.lift (f x)) := by
  obtain ⟨r, h1, h2⟩ := hc
  refine PE.pre (pe_callB h1 hg hm hv (dxa_one ha hs) hn hdb hs (by cases pos; rfl)) fun σ H Q ⟨B, p, rl, q⟩ => ⟨B, p, rl, q.bind.imp ?_⟩
  rintro v H1 ⟨B1, p1, x, s1, rl1, d1, q1⟩
  exact h2 G η σ B1 H1 p1 v x Q rl1 d1 q1
theorem dxf_callTy {x : Str} {T : String} {f : D → R (List D)} {ra : M D} (hc : CallF1 X (.type T) f) (hg : Gl X x) (hm : X.mg x = none) (hv : bootBuiltins x = some (.type T)) (ha : DX X G η a ra)
    (hn : x ≠ "__name__" := by decide) (hdb : (x == ("__debug__" : Str)) = false := by decide) (hs : starEach [a] X.env = (false, eval a X.env) :: starEach [] X.env := by rfl) : DXf X G η (.Call (.Name x p1) [a] [] pos) (ra >>= fun x => M.lift (f x)) := by
  obtain ⟨r, h1, h2⟩ := hc
  refine PE.pre (pe_callTy h1 hg hm hv (dxa_one ha hs) hn hdb hs (by cases pos; rfl)) fun σ H Q ⟨B, p, rl, q⟩ => ⟨B, p, rl, q.bind.imp ?_⟩
  rintro v H1 ⟨B1, p1, x, s1, rl1, d1, q1⟩
  exact h2 G η σ B1 H1 p1 v x Q rl1 d1 q1
theorem call_lenP : CallS1 X (.builtin "len") lenD := by
  refine ⟨_, call_len.or call_lenD, fun G η σ B H p v x Q rl h q => ?_⟩
  cases h with
  | str z =>
    have q : Post G σ η (rD X.K X.mg) B ((if z.length ≤ sizeLine then R.ok (D.int z.length) else R.bad), p) Q := q
    by_cases hz : z.length ≤ sizeLine
    · rw [if_pos hz] at q
      exact .inl ⟨_, z.length, rfl, ⟨hz, rfl⟩, q.lift rl (.int _)⟩
    · rw [if_neg hz] at q
      exact q.elim
  | tup h1 h2 => exact .inl ⟨_, _, rfl, .inr ⟨_, Same.sqt rl.sub h1, rfl⟩, q.lift rl (by rw [h2.length]; exact .int _)⟩
  | lst h1 h2 => exact .inl ⟨_, _, rfl, .inl ⟨_, SqL.of (rl.sub _ _ h1), rfl⟩, q.lift rl (by rw [h2.length]; exact .int _)⟩
  | dct h1 h2 =>
    refine .inr ⟨_, _, rfl, rl.sub _ _ h1, q.lift rl ?_⟩
    have e : ∀ {kvs : List (Key × V)} {xs : List (Key × D)}, DtKv X.K X.mg B kvs xs → kvs.length = xs.length := by
      intro kvs
      induction kvs with
      | nil => intro xs h; cases h; rfl
      | cons a l ih =>
        intro xs h
        cases h with
        | cons h1 h2 => rw [List.length_cons, List.length_cons, ih h2]
    rw [e h2]
    exact .int _
  | _ => exact q.elim
theorem call_tupleP : CallS1 X (.type "tuple") tupleD := by
  refine ⟨_, call_tuple_of, fun G η σ B H p v x Q rl h q => ?_⟩
  cases h with
  | tup h1 h2 => exact ⟨_, _, rfl, .inr ⟨Same.sqt rl.sub h1, q.lift rl (.tup h1 h2)⟩⟩
  | @lst a vs xs h1 h2 =>
    refine ⟨a, vs, rfl, .inl ⟨SqL.of (rl.sub _ _ h1), fun l hn => ?_⟩⟩
    exact q.lift' (same_upd (rl.none_of hn)) (rl.born (o := HO.tup vs) (rl.lstSz h1) hn) (.tup (SqT.of upd_same) (DtAll.mono (same_upd (rl.none_of hn)) _ _ h2))
  | _ => exact q.elim
theorem call_listP : CallF1 X (.type "list") seqItems := by
  refine ⟨_, call_list_of, fun G η σ B H p v x Q rl h q => ?_⟩
  cases h with
  | @tup a vs xs h1 h2 => exact ⟨a, vs, rfl, .inr (Same.sqt rl.sub h1), fun l hn => q.lift (rl.new hn) (rl.rF hn (rl.tupSz h1) h2)⟩
  | @lst a vs xs h1 h2 => exact ⟨a, vs, rfl, .inl (SqL.of (rl.sub _ _ h1)), fun l hn => q.lift (rl.new hn) (rl.rF hn (rl.lstSz h1) h2)⟩
  | _ => exact q.elim

/-! ### arithmetic, + of sequences -/
theorem op_subP : OpS X (binaryOp .Sub) subD := opS_ints op_sub (fun x y => by cases x <;> cases y <;> rfl) fun _ _ _ => .int _
theorem op_modP : OpS X (binaryOp .Mod) modD := by
  refine ⟨_, op_mod, fun G η σ B H p v w x y Q rl h1 h2 q => ?_⟩
  cases h1 with
  | int i =>
    cases h2 with
    | int j =>
      have q : Post G σ η (rD X.K X.mg) B ((if 0 < j then R.ok (D.int (i % j)) else R.bad), p) Q := q
      by_cases hj : 0 < j
      · rw [if_pos hj] at q
        exact ⟨i, j, rfl, rfl, hj, q.lift rl (.int _)⟩
      · rw [if_neg hj] at q
        exact q.elim
    | _ => exact q.elim
  | _ => exact q.elim
theorem op_fdivP : OpS X (binaryOp .FloorDiv) fdivD := by
  refine ⟨_, op_fdiv, fun G η σ B H p v w x y Q rl h1 h2 q => ?_⟩
  cases h1 with
  | int i =>
    cases h2 with
    | int j =>
      have q : Post G σ η (rD X.K X.mg) B ((if 0 < j ∧ j < 1073741824 then R.ok (D.int (i / j)) else R.bad), p) Q := q
      by_cases hj : 0 < j ∧ j < 1073741824
      · rw [if_pos hj] at q
        exact ⟨i, j, rfl, rfl, hj, q.lift rl (.int _)⟩
      · rw [if_neg hj] at q
        exact q.elim
    | _ => exact q.elim
  | _ => exact q.elim
/-- tuple + tuple, either of them empty too -/
theorem cat_post {α β : Type} {Pp : List α → Prop} {xs ys : List α} {f : List α → R β} {r : R β} (e : r = (cat xs ys >>= f)) : (xs.length + ys.length ≤ sizeLine ∧ r = f (xs ++ ys)) ∨ r = .bad := by
  unfold cat at e
  by_cases h : xs.length + ys.length ≤ sizeLine
  · rw [if_pos h] at e
    exact .inl ⟨h, e⟩
  · rw [if_neg h] at e
    exact .inr e
end
end L2.Ly

set_option Elab.async false
set_option linter.all false
set_option maxRecDepth 100000
set_option maxHeartbeats 4000000
/-! Ly4: +, subscripts, slices, isinstance. -/
namespace L2.Ly
open PySem PySem.Spec PyProof.Rows
section
variable {X : Cx} {G : Gam X.K X.mg} {η : List LV} {e a b : Expr} {es : List Expr} {pos p1 p2 p3 p4 p5 : Pos}

theorem op_addP : OpS X (binaryOp .Add) addD := by
  refine ⟨_, op_add.or (op_add_str.or (op_cat.or op_catA)), fun G η σ B H p v w x y Q rl h1 h2 q => ?_⟩
  cases h1 with
  | int i =>
    cases h2 with
    | int j => exact .inl ⟨i, j, rfl, rfl, q.lift rl (.int _)⟩
    | _ => exact q.elim
  | str s =>
    cases h2 with
    | str t =>
      have q : Post G σ η (rD X.K X.mg) B ((if s.length + t.length ≤ sizeLine then R.ok (D.str (s ++ t)) else R.bad), p) Q := q
      by_cases hz : s.length + t.length ≤ sizeLine
      · rw [if_pos hz] at q
        exact .inr (.inl ⟨s, t, rfl, rfl, hz, q.lift rl (.str _)⟩)
      · rw [if_neg hz] at q
        exact q.elim
    | _ => exact q.elim
  | @lst a vs xs h3 h4 =>
    cases h2 with
    | @lst b us ys k3 k4 =>
      have q : Post G σ η (rD X.K X.mg) B ((cat xs ys >>= fun zs => R.ok (D.lst zs)), p) Q := q
      rcases cat_post (Pp := fun _ => True) (f := fun zs => R.ok (D.lst zs)) (xs := xs) (ys := ys) rfl with ⟨hz, e⟩ | e
      · rw [e] at q
        have hz2 : vs.length + us.length ≤ sizeLine := by rw [h4.length, k4.length]; exact hz
        refine .inr (.inr (.inl ⟨a, b, vs, us, rfl, rfl, rl.sub _ _ h3, rl.sub _ _ k3, hz2, fun l hn => ?_⟩))
        exact q.lift' (same_upd (rl.none_of hn)) (rl.born (o := HO.lst (vs ++ us)) (by show (vs ++ us).length ≤ _; rw [List.length_append]; exact hz2) hn) (.lst upd_same (DtAll.mono (same_upd (rl.none_of hn)) _ _ (h4.append k4)))
      · rw [e] at q
        exact q.elim
    | _ => exact q.elim
  | @tup a vs xs h3 h4 =>
    cases h2 with
    | @tup b us ys k3 k4 =>
      have q : Post G σ η (rD X.K X.mg) B ((cat xs ys >>= fun zs => R.ok (D.tup zs)), p) Q := q
      rcases cat_post (Pp := fun _ => True) (f := fun zs => R.ok (D.tup zs)) (xs := xs) (ys := ys) rfl with ⟨hz, e⟩ | e
      · rw [e] at q
        have hz2 : vs.length + us.length ≤ sizeLine := by rw [h4.length, k4.length]; exact hz
        refine .inr (.inr (.inr ⟨a, b, vs, us, rfl, rfl, Same.sqt rl.sub h3, Same.sqt rl.sub k3, hz2, fun e0 => ?_, fun e1 e2 => ?_, fun _ _ l hn => ?_⟩))
        · subst e0
          cases h4
          exact q.lift rl (.tup k3 k4)
        · subst e2
          cases k4
          rw [List.append_nil] at q
          exact q.lift rl (.tup h3 h4)
        · exact q.lift' (same_upd (rl.none_of hn)) (rl.born (o := HO.tup (vs ++ us)) (by show (vs ++ us).length ≤ _; rw [List.length_append]; exact hz2) hn) (.tup (SqT.of upd_same) (DtAll.mono (same_upd (rl.none_of hn)) _ _ (h4.append k4)))
      · rw [e] at q
        exact q.elim
    | _ => exact q.elim
  | _ => exact q.elim

/-! ### a[i] -/
theorem atI_dt {B : Hp} {vs : List V} {xs : List D} {i : Int} {d : D} (h : DtAll X.K X.mg B vs xs) (e : atI xs i = some d) : ∃ v, atI vs i = some v ∧ Dt X.K X.mg B v d := by
  unfold atI at e ⊢
  rw [h.length]
  cases e1 : ixN xs.length i with
  | none => rw [e1] at e; cases e
  | some j =>
    rw [e1] at e
    exact h.getD (by simpa using e)
theorem dx_ix {ra rb : M D} (ha : DX X G η a ra) (hb : DX X G η b rb) (hs : PlainIx b := by intro _ _; rfl) : DX X G η (.Subscript a b pos) (ra >>= fun x => rb >>= fun y => M.lift (ixD x y)) := by
  refine PE.pre (pe_ix ix_seq ha hb hs) fun σ H Q ⟨B, p, rl, q⟩ => ⟨B, p, rl, q.bind.imp ?_⟩
  rintro v H1 ⟨B1, p1, x, s1, rl1, d1, q1⟩
  refine ⟨B1, p1, rl1, q1.bind.imp ?_⟩
  rintro w H2 ⟨B2, p2, y, s2, rl2, d2, q2⟩
  have d1 := Dt.mono s2 _ _ d1
  cases d2 with
  | int i =>
    cases d1 with
    | @tup a vs xs h1 h2 =>
      have q2 : Post G σ η (rD X.K X.mg) B2 ((match atI xs i with | some d => R.ok d | none => R.bad), p2) Q := q2
      cases e1 : atI xs i with
      | none => rw [e1] at q2; exact q2.elim
      | some d =>
        rw [e1] at q2
        obtain ⟨v, e2, d3⟩ := atI_dt h2 e1
        exact .inr (.inl ⟨a, vs, i, v, rfl, rfl, Same.sqt rl2.sub h1, e2, q2.lift rl2 d3⟩)
    | @lst a vs xs h1 h2 =>
      have q2 : Post G σ η (rD X.K X.mg) B2 ((match atI xs i with | some d => R.ok d | none => R.bad), p2) Q := q2
      cases e1 : atI xs i with
      | none => rw [e1] at q2; exact q2.elim
      | some d =>
        rw [e1] at q2
        obtain ⟨v, e2, d3⟩ := atI_dt h2 e1
        exact .inl ⟨a, vs, i, v, rfl, rfl, SqL.of (rl2.sub _ _ h1), e2, q2.lift rl2 d3⟩
    | str z =>
      have q2 : Post G σ η (rD X.K X.mg) B2 ((if z.length ≤ sizeLine then match atI z.cps.toList i with | some c => R.ok (D.str ⟨#[c]⟩) | none => R.bad else R.bad), p2) Q := q2
      by_cases hz : z.length ≤ sizeLine
      · rw [if_pos hz] at q2
        cases e1 : atI z.cps.toList i with
        | none => rw [e1] at q2; exact q2.elim
        | some c =>
          rw [e1] at q2
          exact .inr (.inr ⟨z, i, c, rfl, rfl, hz, e1, q2.lift rl2 (.str _)⟩)
      · rw [if_neg hz] at q2
        exact q2.elim
    | _ => exact q2.elim
  | _ => cases d1 <;> exact q2.elim

/-! ### a[i:j] -/
def tXo {K : PySem.W.Frag} {mg : Str → Option Value} (G : Gam K mg) (η : List LV) (r : M (Option Int)) : TO := fun σ H Q => ∃ B p, Rel G H B σ η p ∧ Post G σ η (fun _ _ a b => a = b) B (r p) Q
def DXo (X : Cx) (G : Gam X.K X.mg) (η : List LV) (e : Option Expr) (r : M (Option Int)) : Prop := PO X e (tXo G η r)
theorem PO.pre {e : Option Expr} {t t' : TO} (h : PO X e t) (i : ∀ σ H Q, t' σ H Q → t σ H Q) : PO X e t' := ⟨fun pins s σ H Q I w => h.run pins s σ H Q I (i _ _ _ w)⟩
def toI : D → R Int
  | .int i => .ok i
  | _ => .bad
theorem dxo_none : DXo X G η none (pure none) := PO.pre po_none fun σ H Q ⟨B, p, rl, q⟩ => q.lift rl rfl
theorem dxo_some {r : M D} (h : DX X G η e r) : DXo X G η (some e) (r >>= fun x => M.lift (toI x) >>= fun i => pure (some i)) := by
  refine PO.pre (po_some h) fun σ H Q ⟨B, p, rl, q⟩ => ⟨B, p, rl, q.bind.imp ?_⟩
  rintro v H1 ⟨B1, p1, x, s1, rl1, d1, q1⟩
  cases d1 with
  | int i => exact ⟨i, rfl, q1.lift rl1 rfl⟩
  | _ => exact q1.elim
def cutL {α : Type} (xs : List α) (lo hi : Option Int) : List α := (xs.drop (HT.sIx xs.length 0 lo)).take (HT.sIx xs.length xs.length hi - HT.sIx xs.length 0 lo)
theorem DtAll.cut {B : Hp} {vs : List V} {xs : List D} (lo hi : Option Int) (h : DtAll X.K X.mg B vs xs) : DtAll X.K X.mg B (cutV vs lo hi) (cutL xs lo hi) := by
  unfold cutV cutL
  rw [h.length]
  exact (h.drop _).take _
theorem cut_whole {α : Type} {xs : List α} {lo hi : Option Int} (h : HT.sIx xs.length 0 lo = 0 ∧ HT.sIx xs.length xs.length hi = xs.length) : cutL xs lo hi = xs := by
  unfold cutL
  rw [h.1, h.2, List.drop_zero, Nat.sub_zero, List.take_length]
def slD (x : D) (lo hi : Option Int) : R D := match x with
  | .tup xs => .ok (.tup (cutL xs lo hi))
  | .lst xs => .ok (.lst (cutL xs lo hi))
  | .str z => if z.length ≤ sizeLine then .ok (.str (cutS z lo hi)) else .bad
  | _ => .bad
theorem dx_slice {lo hi : Option Expr} {re : M D} {rl rh : M (Option Int)} (he : DX X G η e re) (hl : DXo X G η lo rl) (hh : DXo X G η hi rh) :
    DX X G η (.Subscript e (.Slice lo hi none p2) pos) (re >>= fun x => rl >>= fun l => rh >>= fun h => M.lift (slD x l h)) := by
  refine PE.pre (pe_slice (sl_tupA.or (sl_list.or sl_str)) he hl hh) fun σ H Q ⟨B, p, rl, q⟩ => ⟨B, p, rl, q.bind.imp ?_⟩
  rintro v H1 ⟨B1, p1, x, s1, rl1, d1, q1⟩
  refine ⟨B1, p1, rl1, q1.bind.imp ?_⟩
  rintro l H2 ⟨B2, p2, l', s2, rl2, rfl, q2⟩
  refine ⟨B2, p2, rl2, q2.bind.imp ?_⟩
  rintro h H3 ⟨B3, p3, h', s3, rl3, rfl, q3⟩
  have d3 := Dt.mono (s2.trans s3) _ _ d1
  cases d3 with
  | @tup a vs xs h1 h2 =>
    have q3 : Post G σ η (rD X.K X.mg) B3 (R.ok (D.tup (cutL xs l h)), p3) Q := q3
    refine .inl ⟨a, vs, rfl, Same.sqt rl3.sub h1, fun hw => ?_, fun _ t hn => ?_⟩
    · rw [h2.length] at hw
      rw [cut_whole hw] at q3
      exact q3.lift rl3 (.tup h1 h2)
    · exact q3.lift' (same_upd (rl3.none_of hn)) (rl3.born (o := HO.tup (cutV vs l h)) (Nat.le_trans (cutV_length vs l h) (rl3.tupSz h1)) hn) (.tup (SqT.of upd_same) (DtAll.mono (same_upd (rl3.none_of hn)) _ _ (DtAll.cut l h h2)))
  | @lst a vs xs h1 h2 =>
    have q3 : Post G σ η (rD X.K X.mg) B3 (R.ok (D.lst (cutL xs l h)), p3) Q := q3
    refine .inr (.inl ⟨a, vs, rfl, SqL.of (rl3.sub _ _ h1), fun t hn => ?_⟩)
    exact q3.lift' (same_upd (rl3.none_of hn)) (rl3.born (o := HO.lst (cutV vs l h)) (Nat.le_trans (cutV_length vs l h) (rl3.lstSz h1)) hn) (.lst upd_same (DtAll.mono (same_upd (rl3.none_of hn)) _ _ (DtAll.cut l h h2)))
  | str z =>
    have q3 : Post G σ η (rD X.K X.mg) B3 ((if z.length ≤ sizeLine then R.ok (D.str (cutS z l h)) else R.bad), p3) Q := q3
    by_cases hz : z.length ≤ sizeLine
    · rw [if_pos hz] at q3
      exact .inr (.inr ⟨z, rfl, hz, q3.lift rl3 (.str _)⟩)
    · rw [if_neg hz] at q3
      exact q3.elim
  | _ => exact q3.elim

/-! ### isinstance(e, T), isinstance(e, (T, U)) -/
theorem isa1_ok {x : D} {t : String} {y : D} (h : isa1 x t = .ok y) : (∀ c fs, x ≠ .ins c fs ∧ x ≠ .exn c fs) ∧ y = .bl (isTy x t) := by
  cases x with
  | ins c fs => cases h
  | exn c fs => cases h
  | _ => cases h; exact ⟨fun _ _ => by simp, rfl⟩
theorem dx_isa1 {T : Str} {n : String} {ra : M D} (hg : Gl X "isinstance") (hm : X.mg "isinstance" = none) (ha : DX X G η a ra) (hb : PE X (.Name T p2) (tC (.ty n))) (hp : plainTy n = true := by decide +kernel)
    (hs : starEach [a, .Name T p2] X.env = (false, eval a X.env) :: starEach [.Name T p2] X.env := by rfl) (hs2 : starEach [.Name T p2] X.env = (false, eval (.Name T p2) X.env) :: starEach [] X.env := by rfl)
    (hpl : (backTo pos (starEach [.Name T p2] X.env)).any (·.1) = false := by rfl) : DX X G η (.Call (.Name "isinstance" p1) [a, .Name T p2] [] pos) (ra >>= fun x => M.lift (isa1 x n)) := by
  refine PE.pre (pe_callB call_isi hg hm (by decide +kernel) (pa_cons ha (pa_cons hb pa_nil hs2) hs) (by decide) (by decide) hs hpl) fun σ H Q ⟨B, p, rl, q⟩ => ⟨B, p, rl, q.bind.imp ?_⟩
  rintro v H1 ⟨B1, p1, x, s1, rl1, d1, q1⟩
  rw [M.lift_def] at q1
  cases e : isa1 x n with
  | ok y =>
    obtain ⟨hx, rfl⟩ := isa1_ok e
    rw [e] at q1
    exact ⟨v, .ty n, _, _, _, rfl, .ty n, tyX_of rl1.sub d1 hx, kit_ty (kit_isTy x hx hp), q1.lift rl1 (.bl _)⟩
  | err z => cases x <;> cases e
  | bad => rw [e] at q1; exact q1.elim
theorem isa2_ok {x : D} {t u : String} {y : D} (h : isa2 x t u = .ok y) : (∀ c fs, x ≠ .ins c fs ∧ x ≠ .exn c fs) ∧ y = .bl (isTy x t || isTy x u) := by
  cases x with
  | ins c fs => cases h
  | exn c fs => cases h
  | _ => cases h; exact ⟨fun _ _ => by simp, rfl⟩
theorem kitAny_two {K : PySem.W.Frag} {t c d : Value} {b1 b2 : Bool} (h1 : PySem.W.kitOne K t c = some b1) (h2 : PySem.W.kitOne K t d = some b2) : PySem.W.kitAny K t [c, d] = some (b1 || b2) := by
  cases b1 with
  | true => exact kitAny_cons h1 (fun z => nomatch z) fun _ => rfl
  | false =>
    refine kitAny_cons h1 (fun _ => ?_) fun z => nomatch z
    cases b2 with
    | true => exact kitAny_cons h2 (fun z => nomatch z) fun _ => rfl
    | false => exact kitAny_cons h2 (fun _ => kitAny_nil) fun z => nomatch z
theorem dx_isa2 {T U : Str} {n m : String} {x1 : Nat} {ra : M D} (hg : Gl X "isinstance") (hm : X.mg "isinstance" = none) (ha : DX X G η a ra) (hb : PE X (.Name T p2) (tC (.ty n))) (hc : PE X (.Name U p3) (tC (.ty m)))
    (hp : plainTy n = true := by decide +kernel) (hq : plainTy m = true := by decide +kernel)
    (hs : starEach [a, .Tuple [.Name T p2, .Name U p3] x1 p4] X.env = (false, eval a X.env) :: starEach [.Tuple [.Name T p2, .Name U p3] x1 p4] X.env := by rfl)
    (hs2 : starEach [.Tuple [.Name T p2, .Name U p3] x1 p4] X.env = (false, eval (.Tuple [.Name T p2, .Name U p3] x1 p4) X.env) :: starEach [] X.env := by rfl)
    (hs3 : starEach [.Name T p2, .Name U p3] X.env = (false, eval (.Name T p2) X.env) :: starEach [.Name U p3] X.env := by rfl) (hs4 : starEach [.Name U p3] X.env = (false, eval (.Name U p3) X.env) :: starEach [] X.env := by rfl)
    (hpl : (backTo pos (starEach [.Tuple [.Name T p2, .Name U p3] x1 p4] X.env)).any (·.1) = false := by rfl) :
    DX X G η (.Call (.Name "isinstance" p1) [a, .Tuple [.Name T p2, .Name U p3] x1 p4] [] pos) (ra >>= fun x => M.lift (isa2 x n m)) := by
  refine PE.pre (pe_callB call_isiT hg hm (by decide +kernel) (pa_cons ha (pa_cons (pe_tup (pa_cons hb (pa_cons hc pa_nil hs4) hs3)) pa_nil hs2) hs) (by decide) (by decide) hs hpl) fun σ H Q ⟨B, p, rl, q⟩ => ⟨B, p, rl, q.bind.imp ?_⟩
  rintro v H1 ⟨B1, p1, x, s1, rl1, d1, q1⟩
  rw [M.lift_def] at q1
  cases e : isa2 x n m with
  | ok y =>
    obtain ⟨hx, rfl⟩ := isa2_ok e
    rw [e] at q1
    refine ⟨by show 2 ≤ sizeLine; decide, fun t hn => ?_⟩
    have s2 : Same B1 (upd B1 t (.tup [.ty n, .ty m])) := same_upd (rl1.none_of hn)
    have rb := rl1.born (o := HO.tup [.ty n, .ty m]) (by show 2 ≤ sizeLine; decide) hn
    exact ⟨v, t, [.ty n, .ty m], _, [.type n, .type m], _, rfl, upd_same, .cons (.ty n) (.cons (.ty m) .nil), tyX_of rb.sub (Dt.mono s2 _ _ d1) hx, kitAny_two (kit_ty (kit_isTy x hx hp)) (kit_ty (kit_isTy x hx hq)), q1.lift' s2 rb (.bl _)⟩
  | err z => cases x <;> cases e
  | bad => rw [e] at q1; exact q1.elim
end
end L2.Ly

set_option Elab.async false
set_option linter.all false
set_option maxRecDepth 100000
set_option maxHeartbeats 4000000
/-! Ly5: what is walked, targets, list comprehensions. -/
namespace L2.Ly
open PySem PySem.Spec PyProof.Rows

/-! ### what is walked -/
structure Wk (K : PySem.W.Frag) (mg : Str → Option Value) (J : It) (B : Hp) (xs : List D) : Prop where
  fin : xs.length ≤ sizeLine
  stop : ∀ i B' H, Same B B' → Same B' H → xs.length ≤ i → J.stop i H
  go : ∀ i B' H, Same B B' → Same B' H → i < xs.length → J.go i H
  yld : ∀ i x H H' B', Same B B' → Same B' H → i < xs.length → J.yld i H x H' → ∃ d, xs[i]? = some d ∧ ((H' = H ∧ Dt K mg B' x d) ∨ ∃ t vs ds, H t = none ∧ H' = upd H t (.tup vs) ∧ x = .ref t ∧ d = .tup ds ∧ vs.length ≤ sizeLine ∧ DtAll K mg B' vs ds)
section
variable {K : PySem.W.Frag} {mg : Str → Option Value} {G : Gam K mg} {H H' B B' : Hp} {σ : St} {η : List LV} {p : Pen}
theorem Wk.mono {J : It} {xs : List D} (w : Wk K mg J B xs) (s : Same B B') : Wk K mg J B' xs :=
  ⟨w.fin, fun i B'' H s1 => w.stop i B'' H (s.trans s1), fun i B'' H s1 => w.go i B'' H (s.trans s1), fun i x H H' B'' s1 => w.yld i x H H' B'' (s.trans s1)⟩
theorem Wk.item {J : It} {xs : List D} (w : Wk K mg J B xs) (rl : Rel G H B σ η p) {i : Nat} (hi : i < xs.length) {x : V} (y : J.yld i H x H') :
    ∃ d B', xs[i]? = some d ∧ Same B B' ∧ Rel G H' B' σ η p ∧ Dt K mg B' x d ∧ Same H H' ∧ ∀ b o, H b = some o → B' b = B b := by
  obtain ⟨d, h1, h2⟩ := w.yld i x H H' B (Same.refl _) rl.sub hi y
  rcases h2 with ⟨rfl, h2⟩ | ⟨t, vs, ds, hn, rfl, rfl, rfl, h0, h2⟩
  · exact ⟨d, B, h1, Same.refl _, rl, h2, Same.refl _, fun _ _ _ => rfl⟩
  · have s := same_upd (o := HO.tup vs) (rl.none_of hn)
    exact ⟨_, _, h1, s, rl.born (o := HO.tup vs) h0 hn, .tup (SqT.of upd_same) (DtAll.mono s _ _ h2), same_upd hn, fun b o e => upd_ne (ne_of_none e hn)⟩
theorem wk_list {a : Addr} {vs : List V} {xs : List D} (hz : xs.length ≤ sizeLine) (h : B a = some (.lst vs)) (h2 : DtAll K mg B vs xs) : Wk K mg (Itl K a) B xs := by
  have at_ : ∀ {B' H : Hp}, Same B B' → Same B' H → SqL K H a vs := fun s1 s2 => SqL.of (s2 _ _ (s1 _ _ h))
  refine ⟨hz, fun i B' H s1 s2 hi => ⟨vs, at_ s1 s2, by rw [h2.length]; exact hi⟩, fun i B' H s1 s2 hi => ?_, fun i x H H' B' s1 s2 hi y => ?_⟩
  · obtain ⟨v, e, _⟩ := h2.getD (i := i) (d := xs[i]) (List.getElem?_eq_getElem hi)
    exact ⟨vs, v, at_ s1 s2, e⟩
  · obtain ⟨rfl, y⟩ := y
    obtain ⟨d, e, q⟩ := h2.get (y vs (at_ s1 s2))
    exact ⟨d, e, .inl ⟨rfl, Dt.mono s1 _ _ q⟩⟩
theorem wk_tup {a : Addr} {vs : List V} {xs : List D} (hz : xs.length ≤ sizeLine) (h : SqT K B a vs) (h2 : DtAll K mg B vs xs) : Wk K mg (Itt K a) B xs := by
  have at_ : ∀ {B' H : Hp}, Same B B' → Same B' H → SqT K H a vs := fun s1 s2 => Same.sqt s2 (Same.sqt s1 h)
  refine ⟨hz, fun i B' H s1 s2 hi => ⟨vs, at_ s1 s2, by rw [h2.length]; exact hi⟩, fun i B' H s1 s2 hi => ?_, fun i x H H' B' s1 s2 hi y => ?_⟩
  · obtain ⟨v, e, _⟩ := h2.getD (i := i) (d := xs[i]) (List.getElem?_eq_getElem hi)
    exact ⟨vs, v, at_ s1 s2, e⟩
  · obtain ⟨rfl, y⟩ := y
    obtain ⟨d, e, q⟩ := h2.get (y vs (at_ s1 s2))
    exact ⟨d, e, .inl ⟨rfl, Dt.mono s1 _ _ q⟩⟩
/-- lo, lo + 1, .. -/
def rangeL (lo : Int) (n : Nat) : List D := (List.range n).map fun i => D.int (lo + (i : Nat))
theorem rangeL_length (lo : Int) (n : Nat) : (rangeL lo n).length = n := by simp [rangeL]
theorem wk_range {lo : Int} {n : Nat} (hz : n ≤ sizeLine) : Wk K mg (Itr lo n) B (rangeL lo n) := by
  refine ⟨by rw [rangeL_length]; exact hz, fun i B' H _ _ hi => by rw [rangeL_length] at hi; exact hi, fun i B' H _ _ hi => by rw [rangeL_length] at hi; exact hi, fun i x H H' B' _ _ hi y => ?_⟩
  obtain ⟨rfl, rfl⟩ := y
  rw [rangeL_length] at hi
  exact ⟨.int (lo + (i : Nat)), by simp [rangeL, hi], .inl ⟨rfl, .int _⟩⟩
def zipL (xs ys : List D) : List D := (xs.zip ys).map fun p => D.tup [p.1, p.2]
theorem zipL_get {xs ys : List D} {i : Nat} {x y : D} (h1 : xs[i]? = some x) (h2 : ys[i]? = some y) : (zipL xs ys)[i]? = some (.tup [x, y]) := by
  have e : (xs.zip ys)[i]? = some (x, y) := List.getElem?_zip_eq_some.mpr ⟨h1, h2⟩
  simp [zipL, List.getElem?_map, e]
theorem zipL_length (xs ys : List D) : (zipL xs ys).length = min xs.length ys.length := by simp [zipL]
theorem wk_zipL {a b : Addr} {vs us : List V} {xs ys : List D} (hz : xs.length ≤ sizeLine) (h : B a = some (.lst vs)) (h2 : DtAll K mg B vs xs) (k : B b = some (.lst us)) (k2 : DtAll K mg B us ys) : Wk K mg (Itz K a b) B (zipL xs ys) := by
  have ha : ∀ {B' H : Hp}, Same B B' → Same B' H → SqL K H a vs := fun s1 s2 => SqL.of (s2 _ _ (s1 _ _ h))
  have hb : ∀ {B' H : Hp}, Same B B' → Same B' H → SqL K H b us := fun s1 s2 => SqL.of (s2 _ _ (s1 _ _ k))
  refine ⟨by rw [zipL_length]; omega, fun i B' H s1 s2 hi => ⟨vs, us, ha s1 s2, hb s1 s2, ?_⟩, fun i B' H s1 s2 hi => ?_, fun i x H H' B' s1 s2 hi y => ?_⟩
  · rw [h2.length, k2.length]
    rw [zipL_length] at hi
    omega
  · rw [zipL_length] at hi
    obtain ⟨v, e, _⟩ := h2.getD (i := i) (d := xs[i]'(by omega)) (List.getElem?_eq_getElem _)
    obtain ⟨u, e', _⟩ := k2.getD (i := i) (d := ys[i]'(by omega)) (List.getElem?_eq_getElem _)
    exact ⟨vs, us, v, u, ha s1 s2, hb s1 s2, e, e'⟩
  · obtain ⟨T, v, u, rfl, hn, rfl, q1, q2⟩ := y
    obtain ⟨d, e, t⟩ := h2.get (q1 vs (ha s1 s2))
    obtain ⟨d', e', t'⟩ := k2.get (q2 us (hb s1 s2))
    exact ⟨.tup [d, d'], zipL_get e e', .inr ⟨T, [v, u], [d, d'], hn, rfl, rfl, rfl, by show 2 ≤ sizeLine; decide, .cons (Dt.mono s1 _ _ t) (.cons (Dt.mono s1 _ _ t') .nil)⟩⟩
theorem wk_zipT {a b : Addr} {vs us : List V} {xs ys : List D} (hz : xs.length ≤ sizeLine) (h : SqT K B a vs) (h2 : DtAll K mg B vs xs) (k : SqT K B b us) (k2 : DtAll K mg B us ys) : Wk K mg (RZ.ItzT K a b) B (zipL xs ys) := by
  have ha : ∀ {B' H : Hp}, Same B B' → Same B' H → SqT K H a vs := fun s1 s2 => Same.sqt s2 (Same.sqt s1 h)
  have hb : ∀ {B' H : Hp}, Same B B' → Same B' H → SqT K H b us := fun s1 s2 => Same.sqt s2 (Same.sqt s1 k)
  refine ⟨by rw [zipL_length]; omega, fun i B' H s1 s2 hi => ⟨vs, us, ha s1 s2, hb s1 s2, ?_⟩, fun i B' H s1 s2 hi => ?_, fun i x H H' B' s1 s2 hi y => ?_⟩
  · rw [h2.length, k2.length]
    rw [zipL_length] at hi
    omega
  · rw [zipL_length] at hi
    obtain ⟨v, e, _⟩ := h2.getD (i := i) (d := xs[i]'(by omega)) (List.getElem?_eq_getElem _)
    obtain ⟨u, e', _⟩ := k2.getD (i := i) (d := ys[i]'(by omega)) (List.getElem?_eq_getElem _)
    exact ⟨vs, us, v, u, ha s1 s2, hb s1 s2, e, e'⟩
  · obtain ⟨T, v, u, rfl, hn, rfl, q1, q2⟩ := y
    obtain ⟨d, e, t⟩ := h2.get (q1 vs (ha s1 s2))
    obtain ⟨d', e', t'⟩ := k2.get (q2 us (hb s1 s2))
    exact ⟨.tup [d, d'], zipL_get e e', .inr ⟨T, [v, u], [d, d'], hn, rfl, rfl, rfl, by show 2 ≤ sizeLine; decide, .cons (Dt.mono s1 _ _ t) (.cons (Dt.mono s1 _ _ t') .nil)⟩⟩
/-- the signs of a text -/
def signs (z : Str) : List D := z.cps.toList.map fun c => D.str ⟨#[c]⟩
theorem wk_str {z : Str} (hz : z.length ≤ sizeLine) : Wk K mg (Its z) B (signs z) := by
  have hl : (signs z).length = z.cps.size := by simp [signs]
  refine ⟨by rw [hl]; exact hz, fun i B' H _ _ hi => by rw [hl] at hi; exact hi, fun i B' H _ _ hi => by rw [hl] at hi; exact hi, fun i x H H' B' _ _ hi y => ?_⟩
  obtain ⟨rfl, c, e, rfl⟩ := y
  exact ⟨.str ⟨#[c]⟩, by simp [signs, e], .inl ⟨rfl, .str _⟩⟩
end
def tXi {K : PySem.W.Frag} {mg : Str → Option Value} (G : Gam K mg) (η : List LV) (r : M (List D)) : TI := fun σ H Q => ∃ B p, Rel G H B σ η p ∧ Post G σ η (fun B _ J xs => Wk K mg J B xs) B (r p) Q
/-- e is walked, giving these, one by one -/
def DXi (X : Cx) (G : Gam X.K X.mg) (η : List LV) (tg e : Expr) (r : M (List D)) : Prop := PI X tg e (tXi G η r)

section
variable {K : PySem.W.Frag} {mg : Str → Option Value} {α β γ δ : Type} {G : Gam K mg} {σ : St} {η : List LV} {B B' : Hp} {p : Pen}
theorem Post.bindE {rep : Hp → Hp → β → α → Prop} {rep' : Hp → Hp → δ → γ → Prop} {x : M α} {f : α → M γ} {Q : δ → Hp → Prop} (h : Post G σ η rep' B ((x >>= f) p) Q) :
    Post G σ η rep B (x p) (fun v H' => ∃ B' p' a, x p = (R.ok a, p') ∧ Same B B' ∧ Rel G H' B' σ η p' ∧ rep B' H' v a ∧ Post G σ η rep' B' (f a p') Q) := by
  rw [M.bind_def] at h
  revert h
  cases e : x p with
  | mk r p' =>
    cases r with
    | ok a => exact fun h v H' B' s' r' q => ⟨B', p', a, rfl, s', r', q, h.mono s'⟩
    | err e => exact fun h => h
    | bad => exact fun h => h
/-- it raises, or it can't be -/
theorem Post.any {rep : Hp → Hp → β → α → Prop} {rep' : Hp → Hp → δ → γ → Prop} {x : M α} {f : α → M γ} {Q : δ → Hp → Prop} {Q' : β → Hp → Prop} (h : Post G σ η rep' B ((x >>= f) p) Q) (n : ∀ a p', x p ≠ (R.ok a, p')) : Post G σ η rep B (x p) Q' := by
  rw [M.bind_def] at h
  revert h
  cases e : x p with
  | mk r p' =>
    cases r with
    | ok a => exact absurd e (n a p')
    | err e => exact fun h => h
    | bad => exact fun h => h
end
section
variable {X : Cx} {G : Gam X.K X.mg} {η : List LV} {e a b tg : Expr} {es : List Expr} {pos p1 p2 p3 : Pos}
/-- what a for walks, of any value -/
def iterItems : D → R (List D)
  | .tup xs => .ok xs
  | .lst xs => .ok xs
  | .str z => if z.length ≤ sizeLine then .ok (signs z) else .bad
  | _ => .bad
theorem dxi_any {r : M D} (h : DX X G η e r) : DXi X G η tg e (r >>= fun x => M.lift (iterItems x)) := by
  refine ⟨fun pins s σ H Rr I ⟨B, p, rl, q⟩ => ?_⟩
  have no : (∀ a p', r p ≠ (R.ok a, p')) → wpAny (model X.prog X.w) X.A (eval e X.env) (fun v s1 => wpAny (model X.prog X.w) X.A (pyIter v) (PIE X pins σ tg Rr) X.xe s1) X.xe s := fun n =>
    (pi_list (tg := tg) h).run pins s σ H Rr I ⟨B, p, rl, q.any n⟩
  cases e1 : r p with
  | mk y p1 =>
    cases y with
    | err z => exact no fun a p' e2 => by rw [e1] at e2; cases e2
    | bad => exact no fun a p' e2 => by rw [e1] at e2; cases e2
    | ok y =>
      have key : ∀ {z : D} {p' : Pen}, r p = (R.ok z, p') → y = z ∧ p1 = p' := fun {z p'} e2 => by
        rw [e1] at e2
        cases e2
        exact ⟨rfl, rfl⟩
      have bad : iterItems y = .bad → wpAny (model X.prog X.w) X.A (eval e X.env) (fun v s1 => wpAny (model X.prog X.w) X.A (pyIter v) (PIE X pins σ tg Rr) X.xe s1) X.xe s := fun n => by
        rw [M.bind_def, e1] at q
        have q : Post G σ η (fun B _ J xs => Wk X.K X.mg J B xs) B (iterItems y, p1) Rr := q
        rw [n] at q
        exact q.elim
      cases y with
      | tup xs =>
        refine (pi_tup (tg := tg) h).run pins s σ H Rr I ⟨B, p, rl, q.bindE.imp ?_⟩
        rintro v H1 ⟨B1, p', x, e2, s1, rl1, d1, q1⟩
        obtain ⟨rfl, rfl⟩ := key e2
        cases d1 with
        | @tup a vs xs h1 h2 => exact ⟨a, rfl, ⟨vs, Same.sqt rl1.sub h1⟩, q1.lift rl1 (wk_tup (by rw [← h2.length]; exact rl1.tupSz h1) h1 h2)⟩
      | lst xs =>
        refine (pi_list (tg := tg) h).run pins s σ H Rr I ⟨B, p, rl, q.bindE.imp ?_⟩
        rintro v H1 ⟨B1, p', x, e2, s1, rl1, d1, q1⟩
        obtain ⟨rfl, rfl⟩ := key e2
        cases d1 with
        | @lst a vs xs h1 h2 => exact ⟨a, rfl, ⟨vs, SqL.of (rl1.sub _ _ h1)⟩, q1.lift rl1 (wk_list (by rw [← h2.length]; exact rl1.lstSz h1) h1 h2)⟩
      | str z =>
        by_cases hz : z.length ≤ sizeLine
        · refine (pi_str (tg := tg) h).run pins s σ H Rr I ⟨B, p, rl, q.bindE.imp ?_⟩
          rintro v H1 ⟨B1, p', x, e2, s1, rl1, d1, q1⟩
          obtain ⟨rfl, rfl⟩ := key e2
          cases d1 with
          | str z =>
            have e3 : iterItems (.str z) = R.ok (signs z) := if_pos hz
            rw [M.lift_def, e3] at q1
            exact ⟨z, rfl, q1.lift rl1 (wk_str hz)⟩
        · exact bad (if_neg hz)
      | _ => exact bad rfl
def okRg (i : Int) : Bool := decide (-16777216 ≤ i ∧ i ≤ 16777216)
def rangeD1 (x : D) : R (List D) := match x with
  | .int j => if okRg j then .ok (rangeL 0 j.toNat) else .bad
  | _ => .bad
def rangeD2 (x y : D) : R (List D) := match x, y with
  | .int i, .int j => if okRg i && okRg j && okRg (j - i) then .ok (rangeL i (j - i).toNat) else .bad
  | _, _ => .bad
theorem okRg_of {i : Int} (h : okRg i = true) : -16777216 ≤ i ∧ i ≤ 16777216 := of_decide_eq_true h
theorem okRg_size {i : Int} (h : okRg i = true) : i.toNat ≤ sizeLine := by
  have := okRg_of h
  rw [sizeLine_eq]
  omega
theorem dxi_range1 {r : M D} (hg : Gl X "range") (hm : X.mg "range" = none) (h : DX X G η a r) (hs : starEach [a] X.env = [(false, eval a X.env)] := by rfl) : DXi X G η tg (.Call (.Name "range" p1) [a] [] pos) (r >>= fun x => M.lift (rangeD1 x)) := by
  refine ⟨fun pins s σ H Rr I ⟨B, p, rl, q⟩ => (pi_range1 (tg := tg) hg hm (pa_cons h pa_nil hs) hs).run pins s σ H Rr I ⟨B, p, rl, q.bind.imp ?_⟩⟩
  rintro v H1 ⟨B1, p1, x, s1, rl1, d1, q1⟩
  cases d1 with
  | int j =>
    have q1 : Post G σ η (fun B _ J xs => Wk X.K X.mg J B xs) B1 ((if okRg j then R.ok (rangeL 0 j.toNat) else R.bad), p1) Rr := q1
    by_cases hj : okRg j = true
    · rw [if_pos hj] at q1
      have hj2 := okRg_of hj
      exact ⟨j, rfl, by omega, by omega, q1.lift rl1 (wk_range (okRg_size hj))⟩
    · rw [if_neg hj] at q1
      exact q1.elim
  | _ => exact q1.elim
theorem dxi_range2 {ra rb : M D} (hg : Gl X "range") (hm : X.mg "range" = none) (ha : DX X G η a ra) (hb : DX X G η b rb) (hs : starEach [a, b] X.env = [(false, eval a X.env), (false, eval b X.env)] := by rfl) (hs2 : starEach [b] X.env = [(false, eval b X.env)] := by rfl) :
    DXi X G η tg (.Call (.Name "range" p1) [a, b] [] pos) (ra >>= fun x => rb >>= fun y => M.lift (rangeD2 x y)) := by
  refine ⟨fun pins s σ H Rr I ⟨B, p, rl, q⟩ => (pi_range2 (tg := tg) hg hm (pa_cons ha (pa_cons hb pa_nil hs2) (by rw [hs, hs2])) hs hs2).run pins s σ H Rr I ⟨B, p, rl, q.bind.imp ?_⟩⟩
  rintro v H1 ⟨B1, p1, x, s1, rl1, d1, q1⟩
  refine ⟨B1, p1, rl1, q1.bind.imp ?_⟩
  rintro w H2 ⟨B2, p2, y, s2, rl2, d2, q2⟩
  cases d1 with
  | int i =>
    cases d2 with
    | int j =>
      have q2 : Post G σ η (fun B _ J xs => Wk X.K X.mg J B xs) B2 ((if okRg i && okRg j && okRg (j - i) then R.ok (rangeL i (j - i).toNat) else R.bad), p2) Rr := q2
      by_cases hj : (okRg i && okRg j && okRg (j - i)) = true
      · rw [if_pos hj] at q2
        have h3 : (okRg i = true ∧ okRg j = true) ∧ okRg (j - i) = true := by simpa using hj
        have h4 := okRg_of h3.1.1
        have h5 := okRg_of h3.1.2
        exact ⟨i, j, rfl, by omega, q2.lift rl2 (wk_range (okRg_size h3.2))⟩
      · rw [if_neg hj] at q2
        exact q2.elim
    | _ => exact q2.elim
  | _ => cases d2 <;> exact q2.elim
/-- zip of two lists, of two tuples -/
def zipD (x y : D) : R (List D) := match x, y with
  | .lst xs, .lst ys => .ok (zipL xs ys)
  | .tup xs, .tup ys => .ok (zipL xs ys)
  | _, _ => .bad
theorem dxi_zip {elts : List Expr} {kk : Nat} {tpos : Pos} {ra rb : M D} (hg : Gl X "zip") (hm : X.mg "zip" = none) (ha : DX X G η a ra) (hb : DX X G η b rb) (hs : starEach [a, b] X.env = (false, eval a X.env) :: starEach [b] X.env := by rfl)
    (hs2 : starEach [b] X.env = (false, eval b X.env) :: starEach [] X.env := by rfl) (hpl : (backTo pos (starEach [b] X.env)).any (·.1) = false := by rfl) :
    DXi X G η (.Tuple elts kk tpos) (.Call (.Name "zip" p1) [a, b] [] pos) (ra >>= fun x => rb >>= fun y => M.lift (zipD x y)) := by
  refine ⟨fun pins s σ H Rr I ⟨B, p, rl, q⟩ => (RZ.pi_zipA hg hm (pa_cons ha (pa_cons hb pa_nil hs2) hs) hs hpl).run pins s σ H Rr I ⟨B, p, rl, q.bind.imp ?_⟩⟩
  rintro v H1 ⟨B1, p1, x, s1, rl1, d1, q1⟩
  refine ⟨B1, p1, rl1, q1.bind.imp ?_⟩
  rintro w H2 ⟨B2, p2, y, s2, rl2, d2, q2⟩
  have d1 := Dt.mono s2 _ _ d1
  cases d1 with
  | @lst a vs xs h1 h2 =>
    cases d2 with
    | @lst b us ys k1 k2 => exact ⟨a, b, vs, us, rfl, .inl ⟨SqL.of (rl2.sub _ _ h1), SqL.of (rl2.sub _ _ k1), q2.lift rl2 (wk_zipL (by rw [← h2.length]; exact rl2.lstSz h1) h1 h2 k1 k2)⟩⟩
    | _ => exact q2.elim
  | @tup a vs xs h1 h2 =>
    cases d2 with
    | @tup b us ys k1 k2 => exact ⟨a, b, vs, us, rfl, .inr ⟨Same.sqt rl2.sub h1, Same.sqt rl2.sub k1, q2.lift rl2 (wk_zipT (by rw [← h2.length]; exact rl2.tupSz h1) h1 h2 k1 k2)⟩⟩
    | _ => exact q2.elim
  | _ => cases d2 <;> exact q2.elim
end
end L2.Ly

set_option Elab.async false
set_option linter.all false
set_option maxRecDepth 100000
set_option maxHeartbeats 4000000
/-! Ly6: slots set and forgotten, targets, list comprehensions. -/
namespace L2.Ly
open PySem PySem.Spec PyProof.Rows

section
variable {K : PySem.W.Frag} {mg : Str → Option Value} {G : Gam K mg} {H H' B B' : Hp} {σ σ' : St} {η : List LV} {p p' : Pen}
theorem Own.set_ne {i j : Nat} {a : Addr} {v : Option V} {lv : LV} (hij : j ≠ i) (o : Own (σ.set i v) (η.set i lv) j a) : Own σ η j a := by
  obtain ⟨h1, l, h2, h3⟩ := o
  rw [List.getElem?_set_ne (Ne.symm hij)] at h1 h2
  exact ⟨h1, l, h2, h3⟩
/-- a slot takes another value, plain data or nothing -/
theorem Rel.put (r : Rel G H B σ η p) {i : Nat} {v : Option V} {lv : LV} (ho : lv.own = false) (hs : i < σ.length → SlotR G H B (some v) lv) : Rel G H B (σ.set i v) (η.set i lv) p := by
  have nown : ∀ {a}, ¬ Own (σ.set i v) (η.set i lv) i a := fun {a} ⟨_, l, h2, h3⟩ => by
    by_cases hi : i < η.length
    · rw [List.getElem?_set_self hi] at h2
      cases h2
      rw [ho] at h3
      cases h3
    · rw [List.getElem?_eq_none (by simpa using hi)] at h2
      cases h2
  have back : ∀ {j a}, Own (σ.set i v) (η.set i lv) j a → Own σ η j a := fun {j a} o => by
    by_cases hij : j = i
    · subst hij
      exact (nown o).elim
    · exact o.set_ne hij
  refine ⟨by simp [r.len], r.sub, r.sz, r.fr, r.pen, fun j l e => ?_, fun j k a h1 h2 => r.dj j k a (back h1) (back h2), r.nf, fun j a h1 => r.fresh j a (back h1)⟩
  by_cases hij : j = i
  · subst hij
    by_cases hi : j < η.length
    · rw [List.getElem?_set_self hi] at e
      cases e
      rw [List.getElem?_set_self (by rw [← r.len]; exact hi)]
      exact hs (by rw [← r.len]; exact hi)
    · rw [List.getElem?_eq_none (by simpa using hi)] at e
      cases e
  · rw [List.getElem?_set_ne (Ne.symm hij)] at e ⊢
    exact r.sl j l e
theorem Rel.putD (r : Rel G H B σ η p) {i : Nat} {v : V} {d : D} (h : Dt K mg B v d) : Rel G H B (σ.set i (some v)) (η.set i (.d d)) p := r.put rfl fun _ => ⟨v, rfl, h⟩
theorem Rel.drop (r : Rel G H B σ η p) (i : Nat) : Rel G H B (σ.set i none) (η.set i .no) p := r.put rfl fun _ => trivial
def wipeL (η : List LV) : List Nat → List LV
  | [] => η
  | v :: vs => (wipeL η vs).set v .no
theorem Rel.wipe (r : Rel G H B σ η p) : ∀ vs : List Nat, Rel G H B (wipe σ vs) (wipeL η vs) p
  | [] => r
  | v :: vs => (Rel.wipe r vs).drop v
theorem wipe_out {σ : St} {i : Nat} : ∀ {vs : List Nat}, i ∉ vs → (L2.wipe σ vs)[i]? = σ[i]?
  | [], _ => rfl
  | v :: vs, h => by
    have h' : i ≠ v ∧ i ∉ vs := by simpa using h
    show ((L2.wipe σ vs).set v none)[i]? = _
    rw [List.getElem?_set_ne (Ne.symm h'.1)]
    exact wipe_out h'.2
theorem wipeL_out {i : Nat} : ∀ {vs : List Nat}, i ∉ vs → (wipeL η vs)[i]? = η[i]?
  | [], _ => rfl
  | v :: vs, h => by
    have h' : i ≠ v ∧ i ∉ vs := by simpa using h
    show ((wipeL η vs).set v .no)[i]? = _
    rw [List.getElem?_set_ne (Ne.symm h'.1)]
    exact wipeL_out h'.2
/-- none of these slots is an owner -/
def noOwn (η : List LV) (vs : List Nat) : Prop := ∀ i ∈ vs, ∀ lv, η[i]? = some lv → lv.own = false
theorem Rel.unwipe (r0 : Rel G H B σ η p) {vs : List Nat} (r : Rel G H' B' (L2.wipe σ vs) (wipeL η vs) p') (s : Same B B') (hn : noOwn η vs) : Rel G H' B' σ η p' := by
  have up : ∀ {i a}, Own σ η i a → Own (L2.wipe σ vs) (wipeL η vs) i a := fun {i a} ⟨h1, l, h2, h3⟩ => by
    have hi : i ∉ vs := fun hm => by
      rw [hn i hm l h2] at h3
      cases h3
    exact ⟨by rw [wipe_out hi]; exact h1, l, by rw [wipeL_out hi]; exact h2, h3⟩
  refine ⟨r0.len, r.sub, r.sz, r.fr, r.pen, fun i l e => ?_, fun i j a h1 h2 => r.dj i j a (up h1) (up h2), r.nf, fun i a h1 => r.fresh i a (up h1)⟩
  by_cases hi : i ∈ vs
  · refine (r0.sl i l e).mono s fun a ho _ => ?_
    rw [hn i hi l e] at ho
    cases ho
  · have z := r.sl i l (by rw [wipeL_out hi]; exact e)
    rw [wipe_out hi] at z
    exact z
theorem wipe_set_out {i : Nat} {x : Option V} : ∀ {vs : List Nat} {σ : St}, i ∉ vs → L2.wipe (σ.set i x) vs = (L2.wipe σ vs).set i x
  | [], _, _ => rfl
  | v :: vs, σ, h => by
    have h' : i ≠ v ∧ i ∉ vs := by simpa using h
    show (L2.wipe (σ.set i x) vs).set v none = ((L2.wipe σ vs).set v none).set i x
    rw [wipe_set_out h'.2, List.set_comm _ _ h'.1]
theorem wipe_set {i : Nat} {x : Option V} : ∀ {vs : List Nat} {σ : St}, i ∈ vs → L2.wipe (σ.set i x) vs = L2.wipe σ vs
  | v :: vs, σ, h => by
    show (L2.wipe (σ.set i x) vs).set v none = (L2.wipe σ vs).set v none
    by_cases hm : i ∈ vs
    · rw [wipe_set hm]
    · have e : i = v := by simpa [hm] using h
      subst e
      rw [wipe_set_out hm, List.set_set]
theorem wipe_wipe : ∀ (vs ws : List Nat) (σ : St), (∀ i ∈ vs, i ∈ ws) → L2.wipe (L2.wipe σ vs) ws = L2.wipe σ ws
  | [], _, _, _ => rfl
  | v :: vs, ws, σ, h => by
    show L2.wipe ((L2.wipe σ vs).set v none) ws = _
    rw [wipe_set (h v (by simp)), wipe_wipe vs ws σ fun i hi => h i (by simp [hi])]
end

/-! ### targets -/
section
variable {X : Cx} {G : Gam X.K X.mg} {η : List LV} {pos : Pos}
/-- u takes the value apart, st is what the slots hold then; only the slots vs change -/
def tG {K : PySem.W.Frag} {mg : Str → Option Value} {α : Type} (G : Gam K mg) (η : List LV) (vs : List Nat) (u : D → R α) (st : α → List LV) : TG := fun v σ H Q =>
  ∃ B p d a, Rel G H B σ η p ∧ Dt K mg B v d ∧ u d = .ok a ∧ ∀ σ', Rel G H B σ' (st a) p → wipe σ' vs = wipe σ vs → Q σ' H
def DG (X : Cx) {α : Type} (G : Gam X.K X.mg) (η : List LV) (vs : List Nat) (tg : Expr) (u : D → R α) (st : α → List LV) : Prop := PG X tg (tG G η vs u st)
theorem dg_name {i : Nat} {x : Str} {vs : List Nat} (h : PG X (.Name x pos) (gName i)) (hv : i ∈ vs := by simp) : DG X G η vs (.Name x pos) R.ok (fun d => η.set i (.d d)) :=
  ⟨fun pins s σ H v u Q I r ⟨B, p, d, a, rl, dt, e, k⟩ => by
    cases e
    exact h.run pins s σ H v u Q I r (k _ (rl.putD dt) (wipe_set hv))⟩
def gAll : List Nat → TGs
  | [] => gNil
  | i :: is => gCons (gName i) (gAll is)
def setAll (η : List LV) : List Nat → List D → List LV
  | i :: is, d :: ds => setAll (η.set i (.d d)) is ds
  | _, _ => η
theorem gAll_ok {K : PySem.W.Frag} {mg : Str → Option Value} {G : Gam K mg} {H B : Hp} {p : Pen} {ws : List Nat} {Q : St → Hp → Prop} : ∀ (is : List Nat) (η : List LV) (σ : St) (vs : List V) (ds : List D), ds.length = is.length → DtAll K mg B vs ds → Rel G H B σ η p → (∀ i ∈ is, i ∈ ws) →
    (∀ σ', Rel G H B σ' (setAll η is ds) p → wipe σ' ws = wipe σ ws → Q σ' H) → gAll is vs σ H Q
  | [], η, σ, _, [], _, .nil, rl, _, k => ⟨rfl, k σ rl rfl⟩
  | _ :: _, η, σ, _, [], hl, _, _, _, _ => absurd hl (by simp)
  | i :: is, η, σ, v :: vs, d :: ds, hl, .cons h1 h2, rl, hw, k => by
    refine ⟨v, vs, rfl, ?_⟩
    refine gAll_ok is (η.set i (.d d)) (σ.set i (some v)) vs ds (by simpa using hl) h2 (rl.putD h1) (fun j hj => hw j (by simp [hj])) fun σ' r' e => k σ' r' ?_
    rw [e, wipe_set (hw i (by simp))]
/-- a tuple or a list of n -/
def unpackN (n : Nat) : D → R (List D)
  | .tup xs => if xs.length = n then .ok xs else .bad
  | .lst xs => if xs.length = n then .ok xs else .bad
  | _ => .bad
theorem dg_tup {es : List Expr} {k : Nat} {is vs : List Nat} (hc : X.calm = true) (h : PGs X es (gAll is)) (hv : ∀ i ∈ is, i ∈ vs := by decide)
    (hn : (assignEach es X.env).length = is.length := by rfl) (hst : (assignEach es X.env).findIdx? (·.1) = none := by rfl) : DG X G η vs (.Tuple es k pos) (unpackN is.length) (fun ds => setAll η is ds) :=
  ⟨fun pins s σ H v u Q I r ⟨B, p, d, a, rl, dt, e, kk⟩ => by
    cases dt with
    | @tup b us xs h1 h2 =>
      have e : (if xs.length = is.length then R.ok xs else R.bad) = R.ok a := e
      by_cases hl : xs.length = is.length
      · rw [if_pos hl] at e
        cases e
        exact (pg_tup hc h hn hst).run pins s σ H _ u Q I r ⟨b, us, rfl, Same.sqt rl.sub h1, by rw [h2.length]; exact hl, gAll_ok is η σ us _ hl h2 rl hv kk⟩
      · rw [if_neg hl] at e
        cases e
    | @lst b us xs h1 h2 =>
      have e : (if xs.length = is.length then R.ok xs else R.bad) = R.ok a := e
      by_cases hl : xs.length = is.length
      · rw [if_pos hl] at e
        cases e
        exact (pg_lst hc h hn hst).run pins s σ H _ u Q I r ⟨b, us, rfl, SqL.of (rl.sub _ _ h1), by rw [h2.length]; exact hl, gAll_ok is η σ us _ hl h2 rl hv kk⟩
      · rw [if_neg hl] at e
        cases e
    | _ => cases e⟩
/-- another way to say what is taken apart -/
theorem DG.via {α β : Type} {vs : List Nat} {tg : Expr} {u : D → R α} {st : α → List LV} {u' : D → R β} {st' : β → List LV} (h : DG X G η vs tg u st) (f : ∀ d b, u' d = .ok b → ∃ a, u d = .ok a ∧ st a = st' b) : DG X G η vs tg u' st' :=
  ⟨fun pins s σ H v w Q I r ⟨B, p, d, b, rl, dt, e, k⟩ => by
    obtain ⟨a, e1, e2⟩ := f d b e
    exact h.run pins s σ H v w Q I r ⟨B, p, d, a, rl, dt, e1, by rw [e2]; exact k⟩⟩
def un2 (d : D) : R (D × D) := unpackN 2 d >>= fun xs => match xs with | [a, b] => .ok (a, b) | _ => .bad
def un3 (d : D) : R (D × D × D) := unpackN 3 d >>= fun xs => match xs with | [a, b, c] => .ok (a, b, c) | _ => .bad
def un4 (d : D) : R (D × D × D × D) := unpackN 4 d >>= fun xs => match xs with | [a, b, c, e] => .ok (a, b, c, e) | _ => .bad
theorem dg_un2 {es : List Expr} {k i j : Nat} {vs : List Nat} (hc : X.calm = true) (h : PGs X es (gAll [i, j])) (hv : ∀ n ∈ [i, j], n ∈ vs := by decide)
    (hn : (assignEach es X.env).length = [i, j].length := by rfl) (hst : (assignEach es X.env).findIdx? (·.1) = none := by rfl) : DG X G η vs (.Tuple es k pos) un2 (fun a => (η.set i (.d a.1)).set j (.d a.2)) :=
  (dg_tup (is := [i, j]) hc h hv hn hst).via fun d b e => by
    unfold un2 at e
    cases e1 : unpackN 2 d with
    | ok xs =>
      rw [e1] at e
      match xs, e with
      | [x, y], e =>
        cases e
        exact ⟨_, rfl, rfl⟩
    | err z => rw [e1] at e; cases e
    | bad => rw [e1] at e; cases e
theorem dg_un3 {es : List Expr} {k i j l : Nat} {vs : List Nat} (hc : X.calm = true) (h : PGs X es (gAll [i, j, l])) (hv : ∀ n ∈ [i, j, l], n ∈ vs := by decide)
    (hn : (assignEach es X.env).length = [i, j, l].length := by rfl) (hst : (assignEach es X.env).findIdx? (·.1) = none := by rfl) : DG X G η vs (.Tuple es k pos) un3 (fun a => ((η.set i (.d a.1)).set j (.d a.2.1)).set l (.d a.2.2)) :=
  (dg_tup (is := [i, j, l]) hc h hv hn hst).via fun d b e => by
    unfold un3 at e
    cases e1 : unpackN 3 d with
    | ok xs =>
      rw [e1] at e
      match xs, e with
      | [x, y, z], e =>
        cases e
        exact ⟨_, rfl, rfl⟩
    | err z => rw [e1] at e; cases e
    | bad => rw [e1] at e; cases e
theorem dg_un4 {es : List Expr} {k i j l n : Nat} {vs : List Nat} (hc : X.calm = true) (h : PGs X es (gAll [i, j, l, n])) (hv : ∀ m ∈ [i, j, l, n], m ∈ vs := by decide)
    (hn : (assignEach es X.env).length = [i, j, l, n].length := by rfl) (hst : (assignEach es X.env).findIdx? (·.1) = none := by rfl) : DG X G η vs (.Tuple es k pos) un4 (fun a => (((η.set i (.d a.1)).set j (.d a.2.1)).set l (.d a.2.2.1)).set n (.d a.2.2.2)) :=
  (dg_tup (is := [i, j, l, n]) hc h hv hn hst).via fun d b e => by
    unfold un4 at e
    cases e1 : unpackN 4 d with
    | ok xs =>
      rw [e1] at e
      match xs, e with
      | [x, y, z, w], e =>
        cases e
        exact ⟨_, rfl, rfl⟩
    | err z => rw [e1] at e; cases e
    | bad => rw [e1] at e; cases e
end

theorem PS.pre {X : Cx} {e : Stmt} {t t' : TS} (h : PS X e t) (i : ∀ D σ H, t' D σ H → t D σ H) : PS X e t' := ⟨fun pins s σ H D I w => h.run pins s σ H D I (i _ _ _ w)⟩
theorem PSs.pre {X : Cx} {e : List Stmt} {t t' : TS} (h : PSs X e t) (i : ∀ D σ H, t' D σ H → t D σ H) : PSs X e t' := ⟨fun pins s σ H D I w => h.run pins s σ H D I (i _ _ _ w)⟩
/-! ### within a block nothing is raised -/
def M.q {α : Type} (m : M α) : M α := fun p => match m p with
  | (.err _, p') => (.bad, p')
  | r => r
@[simp] theorem M.q_pure {α : Type} (a : α) : M.q (pure a : M α) = pure a := rfl
theorem M.q_lift {α : Type} (r : R α) : M.q (M.lift r) = M.lift (match r with | .err _ => .bad | r => r) := by
  funext p
  cases r <;> rfl
def lcM {α : Type} (u : D → R α) (t : α → M Bool) (f : α → M D) : List D → M (List D)
  | [] => pure []
  | x :: xs => (M.lift (u x)).q >>= fun a => (t a).q >>= fun b => if b then (f a).q >>= fun y => lcM u t f xs >>= fun ys => pure (y :: ys) else lcM u t f xs
/-- as G, with another heap to keep, and nothing raised -/
def Gam.blk {K : PySem.W.Frag} {mg : Str → Option Value} (G : Gam K mg) (H0 : Hp) (fre : Addr → Prop) : Gam K mg := ⟨H0, G.pa, fun _ _ _ _ => False, fre⟩
open Classical in
/-- what stands, the owned things left out -/
noncomputable def unOwned (σ : St) (η : List LV) (H : Hp) : Hp := fun b => if ∃ i, Own σ η i b then none else H b
section
variable {K : PySem.W.Frag} {mg : Str → Option Value} {G : Gam K mg} {H H' B B' : Hp} {σ σ' : St} {η : List LV} {p p' : Pen}
theorem SlotR.gam {G' : Gam K mg} {v : Option (Option V)} {lv : LV} (h : SlotR G H B v lv) (e : G'.pa = G.pa) : SlotR G' H B v lv := by
  cases lv with
  | pen =>
    obtain ⟨a, h1, h2⟩ := h
    exact ⟨a, h1, e.trans h2⟩
  | _ => exact h
theorem unOwned_some {a : Addr} {o : HO} (h : unOwned σ η H a = some o) : H a = some o ∧ ¬ ∃ i, Own σ η i a := by
  unfold unOwned at h
  by_cases q : ∃ i, Own σ η i a
  · rw [if_pos q] at h
    cases h
  · rw [if_neg q] at h
    exact ⟨h, q⟩
theorem unOwned_of {a : Addr} (h : ¬ ∃ i, Own σ η i a) : unOwned σ η H a = H a := by
  unfold unOwned
  rw [if_neg h]
theorem Rel.inner (r : Rel G H B σ η p) {fre : Addr → Prop} (hf : ∀ a, fre a → B a = none ∧ ∃ o, H a = some o) (hw : ∀ i a, Own σ η i a → ¬ fre a) : Rel (G.blk (unOwned σ η H) fre) H B σ η p :=
  ⟨r.len, r.sub, r.sz, fun a o e _ => (unOwned_some e).1, r.pen, fun i lv e => (r.sl i lv e).gam rfl, r.dj, hf, fun i a o => by
    obtain ⟨h1, h2, h3, _⟩ := r.fresh i a o
    refine ⟨?_, h2, h3, hw i a o⟩
    show unOwned σ η H a = none
    unfold unOwned
    rw [if_pos ⟨i, o⟩]⟩
theorem Rel.outer {η' : List LV} {σ' : St} {fre : Addr → Prop} (r0 : Rel G H B σ η p) (r : Rel (G.blk (unOwned σ η H) fre) H' B' σ' η' p') (ho : ∀ i a, Own σ' η' i a → Own σ η i a) (hf : ∀ a, G.fre a → fre a) : Rel G H' B' σ' η' p' :=
  ⟨r.len, r.sub, r.sz, fun a o e n => r.fr a o (by
    show unOwned σ η H a = some o
    rw [unOwned_of fun ⟨i, q⟩ => by
      rw [(r0.fresh i a q).1] at e
      cases e]
    exact r0.fr a o e n) n, r.pen, fun i lv e => (r.sl i lv e).gam rfl, r.dj, fun a h => r.nf a (hf a h), fun i a o => ⟨(r0.fresh i a (ho i a o)).1, (r.fresh i a o).2.1, (r.fresh i a o).2.2.1, (r0.fresh i a (ho i a o)).2.2.2⟩⟩
/-- an object that is nobody's changes -/
theorem Rel.upd (r : Rel G H B σ η p) {l : Addr} {o : HO} (h1 : B l = none) (h2 : G.H0 l = none) (h3 : G.pa ≠ some l) (h4 : ∀ i, ¬ Own σ η i l) : Rel G (upd H l o) B σ η p := by
  refine ⟨r.len, fun b u e => ?_, r.sz, fun b u e n => ?_, fun b e => ?_, fun i lv e => ?_, r.dj, fun b e => ⟨(r.nf b e).1, ?_⟩, r.fresh⟩
  · rw [upd_ne (by rintro rfl; rw [h1] at e; cases e)]
    exact r.sub b u e
  · rw [upd_ne (by rintro rfl; rw [h2] at e; cases e)]
    exact r.fr b u e n
  · obtain ⟨c, k1, k2, k3⟩ := r.pen b e
    refine ⟨c, ?_, k2, k3⟩
    rw [upd_ne (by rintro rfl; exact h3 e)]
    exact k1
  · refine (r.sl i lv e).mono (Same.refl _) fun b ho hv => ?_
    rw [upd_ne]
    rintro rfl
    exact h4 i ⟨hv, lv, e, ho⟩
  · by_cases hb : b = l
    · exact ⟨o, by rw [hb]; exact upd_same⟩
    · obtain ⟨u, q⟩ := (r.nf b e).2
      exact ⟨u, by rw [upd_ne hb]; exact q⟩
end

section
variable {X : Cx} {G : Gam X.K X.mg} {η : List LV} {pos : Pos}
def tXt {K : PySem.W.Frag} {mg : Str → Option Value} (G : Gam K mg) (η : List LV) (r : M Bool) : TT := tXb G η r
/-- the tests of a clause: none, or one -/
def DXt (X : Cx) (G : Gam X.K X.mg) (η : List LV) (ifs : List Expr) (r : M Bool) : Prop := PTs X ifs (tXb G η r)
theorem PTs.pre {X : Cx} {e : List Expr} {t t' : TT} (h : PTs X e t) (i : ∀ σ H Q, t' σ H Q → t σ H Q) : PTs X e t' := ⟨fun pins s σ H Q I w => h.run pins s σ H Q I (i _ _ _ w)⟩
theorem dxt_nil : DXt X G η [] (pure true) := PTs.pre pts_nil fun σ H Q ⟨B, p, rl, q⟩ => q.lift rl rfl
theorem dxt_one {e : Expr} {r : M Bool} (h : DXb X G η e r) : DXt X G η [e] r := pts_one h

/-- a value of a block: nothing is raised there -/
theorem Post.q {K : PySem.W.Frag} {mg : Str → Option Value} {α β γ δ : Type} {G : Gam K mg} {σ : St} {η : List LV} {B : Hp} {p : Pen} {rep : Hp → Hp → β → α → Prop} {G' : Gam K mg} {σ' : St} {η' : List LV} {rep' : Hp → Hp → δ → γ → Prop} {x : M α} {f : α → M γ} {Q : δ → Hp → Prop} {Q' : β → Hp → Prop}
    (h : Post G σ η rep' B ((x.q >>= f) p) Q) (k : ∀ a p', x p = (R.ok a, p') → Post G σ η rep' B (f a p') Q → ∀ v H' B', Same B B' → Rel G' H' B' σ' η' p' → rep B' H' v a → Q' v H') : Post G' σ' η' rep B (x p) Q' := by
  rw [M.bind_def] at h
  revert h
  unfold M.q
  cases e : x p with
  | mk r p' =>
    cases r with
    | ok a => exact fun h v H' B' => k a p' e h v H' B'
    | err e => exact fun h => h.elim
    | bad => exact fun h => h.elim

/-- the reading of a comprehension, by turns -/
theorem lc_reads {K : PySem.W.Frag} {mg : Str → Option Value} {G : Gam K mg} {η : List LV} {α : Type} {ri : M (List D)} {u : D → R α} {st : α → List LV} {t : α → M Bool} {f : α → M D} {vs : List Nat}
    (hno : noOwn η vs) (hst : ∀ a, wipeL (st a) vs = wipeL η vs) {σ : St} {H : Hp} {Q : VK} (hq : tXf G η (ri >>= fun xs => lcM u t f xs) σ H Q) :
    tLc (tXi G η ri) (fun v σ H Q => ∃ H0 fr, tG (G.blk H0 fr) (wipeL η vs) vs u st v σ H Q) (fun σ H Q => ∃ H0 fr a, tXb (G.blk H0 fr) (st a) (t a) σ H Q) (fun σ H Q => ∃ H0 fr a, tX (G.blk H0 fr) (st a) (f a) σ H Q) vs σ H Q := by
  obtain ⟨B, p, rl, q⟩ := hq
  refine ⟨B, p, rl, q.bind.imp ?_⟩
  rintro J H1 ⟨B1, p1, xs, s1, rl1, wk, q1⟩ D0 hD
  have hw : ∀ {Hx Bx : Hp} {px : Pen}, Rel G Hx Bx σ η px → Rel G Hx Bx (wipe σ vs) (wipeL η vs) px := fun r => r.wipe vs
  have nD1 : B1 D0 = none := rl1.none_of hD
  have nD2 : G.H0 D0 = none := rl1.H0_none hD
  have nD3 : G.pa ≠ some D0 := rl1.pa_none hD
  have nD4 : ∀ i, ¬ Own σ η i D0 := rl1.own_none hD
  have nD5 : ∀ i, ¬ Own (wipe σ vs) (wipeL η vs) i D0 := (hw rl1).own_none hD
  refine ⟨fun i m H' => m = xs.length - i ∧ i ≤ xs.length ∧ ∃ B' p' us acc, Same B1 B' ∧ Rel G H' B' (wipe σ vs) (wipeL η vs) p' ∧ B' D0 = none ∧ H' D0 = some (.lst us) ∧ us.length ≤ i ∧ DtAll K mg B' us acc ∧
    Post G σ η (rF G σ η) B' ((lcM u t f (xs.drop i) >>= fun ys => pure (acc ++ ys)) p') Q, ⟨xs.length, by simp, Nat.zero_le _, B1, p1, [], [], Same.refl _, (hw rl1).new hD, nD1, upd_same, Nat.le_refl _, .nil, ?_⟩, ?_⟩
  · have e : (lcM u t f (xs.drop 0) >>= fun ys => pure ([] ++ ys)) = lcM u t f xs := by
      rw [List.drop_zero]
      exact M.bind_pure _
    rw [e]
    exact q1
  · rintro i m H2 ⟨rfl, hi, B2, p2, us, acc, s2, rl2, n2, hus, hlen, da, q2⟩
    by_cases hlt : i < xs.length
    · refine .inr ⟨wk.go i B2 H2 s2 rl2.sub hlt, fun H' => (i + 1 ≤ xs.length ∧ ∃ B' p' us acc, Same B1 B' ∧ Rel G H' B' (wipe σ vs) (wipeL η vs) p' ∧ B' D0 = none ∧ H' D0 = some (.lst us) ∧ us.length ≤ i + 1 ∧ DtAll K mg B' us acc ∧
        Post G σ η (rF G σ η) B' ((lcM u t f (xs.drop (i + 1)) >>= fun ys => pure (acc ++ ys)) p') Q), fun H' h => ⟨xs.length - (i + 1), by omega, rfl, h.1, h.2⟩, fun x H3 y => ?_⟩
      obtain ⟨d, B3, hd, s3, rl3, dt, sH, gB⟩ := (wk.mono s2).item rl2 hlt y
      have ed : xs.drop i = d :: xs.drop (i + 1) := by
        rw [List.drop_eq_getElem_cons hlt]
        rw [List.getElem?_eq_getElem hlt] at hd
        cases hd
        rfl
      have n3 : B3 D0 = none := (gB D0 _ hus).trans n2
      have h3 : H3 D0 = some (.lst us) := sH _ _ hus
      -- the turn's own ground
      have fre3 : ∀ a, (G.fre a ∨ a = D0) → B3 a = none ∧ ∃ o, H3 a = some o := fun a h => by
        rcases h with h | rfl
        · exact rl3.nf a h
        · exact ⟨n3, _, h3⟩
      have in3 := rl3.inner (fre := fun a => G.fre a ∨ a = D0) fre3 fun i a o h => by
        rcases h with h | rfl
        · exact (rl3.fresh i a o).2.2.2 h
        · exact nD5 i o
      rw [ed] at q2
      have q2' : Post G σ η (rF G σ η) B2 (((M.lift (u d)).q >>= fun a => (t a).q >>= fun b => (if b then (f a).q >>= fun y => lcM u t f (xs.drop (i + 1)) >>= fun ys => pure (y :: ys) else lcM u t f (xs.drop (i + 1))) >>= fun ys => pure (acc ++ ys)) p2) Q := by
        have e : (lcM u t f (d :: xs.drop (i + 1)) >>= fun ys => pure (acc ++ ys)) = ((M.lift (u d)).q >>= fun a => (t a).q >>= fun b => (if b then (f a).q >>= fun y => lcM u t f (xs.drop (i + 1)) >>= fun ys => pure (y :: ys) else lcM u t f (xs.drop (i + 1))) >>= fun ys => pure (acc ++ ys)) := by
          show (((M.lift (u d)).q >>= fun a => (t a).q >>= fun b => if b then _ else _) >>= fun ys => _) = _
          rw [M.bind_assoc]
          congr 1
          funext a
          rw [M.bind_assoc]
        rw [← e]
        exact q2
      revert q2'
      rw [M.bind_def]
      unfold M.q
      rw [M.lift_def]
      cases eu : u d with
      | err z => exact fun h => h.elim
      | bad => exact fun h => h.elim
      | ok a =>
        intro q3
        have un0 : unOwned (wipe σ vs) (wipeL η vs) H3 D0 = some (.lst us) := by
          rw [unOwned_of fun ⟨i, q⟩ => nD5 i q]
          exact h3
        refine ⟨_, _, B3, p2, d, a, in3, dt, eu, fun σ2 r2 ew => ⟨by rw [ew, wipe_wipe vs vs σ fun _ h => h], ?_⟩⟩
        refine ⟨_, _, a, B3, p2, r2, Post.q (Post.mono s3 q3) fun b p5 et q4 c H5 B5 s5 r5 ec => ?_⟩
        have ec : c = b := ec
        subst ec
        -- behind the turn
        have back : ∀ {H6 B6 : Hp} {p6 : Pen}, Rel (G.blk (unOwned (wipe σ vs) (wipeL η vs) H3) fun a => G.fre a ∨ a = D0) H6 B6 σ2 (st a) p6 → Rel G H6 B6 (wipe σ vs) (wipeL η vs) p6 ∧ B6 D0 = none ∧ H6 D0 = some (.lst us) := fun {H6 B6 p6} r6 => by
          have w6 := r6.wipe vs
          rw [ew, wipe_wipe vs vs σ fun _ h => h, hst a] at w6
          exact ⟨rl3.outer w6 (fun _ _ h => h) fun _ h => .inl h, (r6.nf D0 (.inr rfl)).1, r6.fr D0 _ un0 nD3⟩
        cases c with
        | true =>
          have e : ((if true = true then (f a).q >>= fun y => lcM u t f (xs.drop (i + 1)) >>= fun ys => pure (y :: ys) else lcM u t f (xs.drop (i + 1))) >>= fun ys => (pure (acc ++ ys) : M (List D))) = ((f a).q >>= fun y => lcM u t f (xs.drop (i + 1)) >>= fun ys => pure ((acc ++ [y]) ++ ys)) := by
            rw [if_pos rfl, M.bind_assoc]
            congr 1
            funext y
            rw [M.bind_assoc]
            congr 1
            funext ys
            show (pure (acc ++ (y :: ys)) : M (List D)) = _
            rw [List.append_assoc]
            rfl
          have q5 : Post G σ η (rF G σ η) B5 (((f a).q >>= fun y => lcM u t f (xs.drop (i + 1)) >>= fun ys => pure ((acc ++ [y]) ++ ys)) p5) Q := by
            rw [← e]
            exact Post.mono s5 q4
          refine iteT ⟨_, _, a, B5, p5, r5, Post.q q5 fun y p6 ey q6 v H6 B6 s6 r6 d6 => ?_⟩
          obtain ⟨r7, n7, h7⟩ := back r6
          refine ⟨us, h7, by have := wk.fin; omega, hlt, B6, p6, us ++ [v], acc ++ [y], s2.trans (s3.trans (s5.trans s6)), r7.upd n7 nD2 nD3 nD5, n7, upd_same, by rw [List.length_append, List.length_singleton]; omega, ?_, Post.mono s6 q6⟩
          exact (DtAll.mono (s3.trans (s5.trans s6)) _ _ da).append (.cons d6 .nil)
        | false =>
          obtain ⟨r7, n7, h7⟩ := back r5
          refine iteF ⟨hlt, B5, p5, us, acc, s2.trans (s3.trans s5), r7, n7, h7, by omega, DtAll.mono (s3.trans s5) _ _ da, Post.mono s5 ?_⟩
          have e : ((if false = true then (f a).q >>= fun y => lcM u t f (xs.drop (i + 1)) >>= fun ys => pure (y :: ys) else lcM u t f (xs.drop (i + 1))) >>= fun ys => (pure (acc ++ ys) : M (List D))) = (lcM u t f (xs.drop (i + 1)) >>= fun ys => pure (acc ++ ys)) := by
            rw [if_neg Bool.false_ne_true]
          rw [← e]
          exact q4
    · have e : i = xs.length := by omega
      subst e
      refine .inl ⟨wk.stop _ B2 H2 s2 rl2.sub (Nat.le_refl _), ?_⟩
      have e : (lcM u t f (xs.drop xs.length) >>= fun ys => pure (acc ++ ys)) p2 = (R.ok acc, p2) := by
        rw [List.drop_length]
        show (R.ok (acc ++ []), p2) = _
        rw [List.append_nil]
      rw [e] at q2
      exact q2.lift (rl1.unwipe rl2 s2 hno) ⟨D0, us, rfl, hus, by have := wk.fin; omega, n2, nD2, nD3, nD4, rl1.not_fre hD, da⟩
theorem dxf_lc {α : Type} {elt tg iter : Expr} {ifs : List Expr} {scope : Scope} {own : List (Str × Nat)} {ri : M (List D)} {u : D → R α} {st : α → List LV} {t : α → M Bool} {f : α → M D}
    (hc : X.calm = true) (hN : X.N.Nodup) (hi : DXi X G η tg iter ri) (ok : BlkOk X.N X.env.scope scope own) (hno : noOwn η (own.map (·.2))) (hst : ∀ a, wipeL (st a) (own.map (·.2)) = wipeL η (own.map (·.2)))
    (hg : ∀ (H0 : Hp) (fr : Addr → Prop) (s : Shared) (H : Hp) (C : Addr) (cl : List (Str × Addr)) (fp : List Addr), DG (X.blk s H scope (compEnvC scope cl C X.env) fp) (G.blk H0 fr) (wipeL η (own.map (·.2))) (own.map (·.2)) tg u st)
    (ht : ∀ (a : α) (H0 : Hp) (fr : Addr → Prop) (s : Shared) (H : Hp) (C : Addr) (cl : List (Str × Addr)) (fp : List Addr), DXt (X.blk s H scope (compEnvC scope cl C X.env) fp) (G.blk H0 fr) (st a) ifs (t a))
    (he : ∀ (a : α) (H0 : Hp) (fr : Addr → Prop) (s : Shared) (H : Hp) (C : Addr) (cl : List (Str × Addr)) (fp : List Addr), DX (X.blk s H scope (compEnvC scope cl C X.env) fp) (G.blk H0 fr) (st a) elt (f a))
    (hs : ∀ x, foldedSetIterable iter X.env x = pure x := by intro _; rfl) :
    DXf X G η (.ListComp elt [⟨tg, iter, ifs, 0⟩] scope pos) (ri >>= fun xs => lcM u t f xs) := by
  generalize hvs : own.map (·.2) = vs at hg hno hst
  -- readings that speak of all heaps to keep at once
  have hg' : ∀ (s : Shared) (H : Hp) (C : Addr) (cl : List (Str × Addr)) (fp : List Addr), PG (X.blk s H scope (compEnvC scope cl C X.env) fp) tg (fun v σ H Q => ∃ H0 fr, tG (G.blk H0 fr) (wipeL η vs) vs u st v σ H Q) := fun s H C cl fp =>
    ⟨fun pins s1 σ H1 v w Q I r ⟨H0, fr, h⟩ => (hg H0 fr s H C cl fp).run pins s1 σ H1 v w Q I r h⟩
  have ht' : ∀ (s : Shared) (H : Hp) (C : Addr) (cl : List (Str × Addr)) (fp : List Addr), PTs (X.blk s H scope (compEnvC scope cl C X.env) fp) ifs (fun σ H Q => ∃ H0 fr a, tXb (G.blk H0 fr) (st a) (t a) σ H Q) := fun s H C cl fp =>
    ⟨fun pins s1 σ H1 Q I ⟨H0, fr, a, h⟩ => (ht a H0 fr s H C cl fp).run pins s1 σ H1 Q I h⟩
  have he' : ∀ (s : Shared) (H : Hp) (C : Addr) (cl : List (Str × Addr)) (fp : List Addr), PE (X.blk s H scope (compEnvC scope cl C X.env) fp) elt (fun σ H Q => ∃ H0 fr a, tX (G.blk H0 fr) (st a) (f a) σ H Q) := fun s H C cl fp =>
    ⟨fun pins s1 σ H1 Q I ⟨H0, fr, a, h⟩ => PE.run (he a H0 fr s H C cl fp) pins s1 σ H1 Q I h⟩
  refine PE.pre (pe_lc hc hN hi ok hg' ht' he' hs) fun σ H Q h => ?_
  rw [hvs]
  exact lc_reads hno hst h
theorem ps_lcOf {α : Type} {i : Nat} {y : Str} {py spos : Pos} {elt tg iter : Expr} {ifs : List Expr} {scope : Scope} {own : List (Str × Nat)} {ri : M (List D)} {u : D → R α} {st : α → List LV} {t : α → M Bool} {f : α → M D}
    (hc : X.calm = true) (hN : X.N.Nodup) (hy : X.N[i]? = some y) (hyl : X.env.scope.names.lookup y = some .local) (hi : DXi X G η tg iter ri) (ok : BlkOk X.N X.env.scope scope own) (hno : noOwn η (own.map (·.2))) (hst : ∀ a, wipeL (st a) (own.map (·.2)) = wipeL η (own.map (·.2)))
    (hg : ∀ (H0 : Hp) (fr : Addr → Prop) (s : Shared) (H : Hp) (C : Addr) (cl : List (Str × Addr)) (fp : List Addr), DG (X.blk s H scope (compEnvC scope cl C X.env) fp) (G.blk H0 fr) (wipeL η (own.map (·.2))) (own.map (·.2)) tg u st)
    (ht : ∀ (a : α) (H0 : Hp) (fr : Addr → Prop) (s : Shared) (H : Hp) (C : Addr) (cl : List (Str × Addr)) (fp : List Addr), DXt (X.blk s H scope (compEnvC scope cl C X.env) fp) (G.blk H0 fr) (st a) ifs (t a))
    (he : ∀ (a : α) (H0 : Hp) (fr : Addr → Prop) (s : Shared) (H : Hp) (C : Addr) (cl : List (Str × Addr)) (fp : List Addr), DX (X.blk s H scope (compEnvC scope cl C X.env) fp) (G.blk H0 fr) (st a) elt (f a))
    (hsw : swapsWith (.ListComp elt [⟨tg, iter, ifs, 0⟩] scope pos) (some (.Name y py)) spos.line X.env = pure true) (hs : ∀ x, foldedSetIterable iter X.env x = pure x := by intro _; rfl) :
    PS X (.Assign [.Name y py] (.ListComp elt [⟨tg, iter, ifs, 0⟩] scope pos) spos) (tAsg (tXf G η (ri >>= fun xs => lcM u t f xs)) (gName i)) := by
  generalize hvs : own.map (·.2) = vs at hg hno hst
  have hg' : ∀ (s : Shared) (H : Hp) (C : Addr) (cl : List (Str × Addr)) (fp : List Addr), PG (X.blk s H scope (compEnvC scope cl C X.env) fp) tg (fun v σ H Q => ∃ H0 fr, tG (G.blk H0 fr) (wipeL η vs) vs u st v σ H Q) := fun s H C cl fp =>
    ⟨fun pins s1 σ H1 v w Q I r ⟨H0, fr, h⟩ => (hg H0 fr s H C cl fp).run pins s1 σ H1 v w Q I r h⟩
  have ht' : ∀ (s : Shared) (H : Hp) (C : Addr) (cl : List (Str × Addr)) (fp : List Addr), PTs (X.blk s H scope (compEnvC scope cl C X.env) fp) ifs (fun σ H Q => ∃ H0 fr a, tXb (G.blk H0 fr) (st a) (t a) σ H Q) := fun s H C cl fp =>
    ⟨fun pins s1 σ H1 Q I ⟨H0, fr, a, h⟩ => (ht a H0 fr s H C cl fp).run pins s1 σ H1 Q I h⟩
  have he' : ∀ (s : Shared) (H : Hp) (C : Addr) (cl : List (Str × Addr)) (fp : List Addr), PE (X.blk s H scope (compEnvC scope cl C X.env) fp) elt (fun σ H Q => ∃ H0 fr a, tX (G.blk H0 fr) (st a) (f a) σ H Q) := fun s H C cl fp =>
    ⟨fun pins s1 σ H1 Q I ⟨H0, fr, a, h⟩ => PE.run (he a H0 fr s H C cl fp) pins s1 σ H1 Q I h⟩
  refine PS.pre (ps_setLc (i := i) hc hN hy hyl hsw hi ok hg' ht' he' hs) fun Dn σ H h => ?_
  rw [hvs]
  exact lc_reads hno hst h
end
end L2.Ly

set_option Elab.async false
set_option linter.all false
set_option maxRecDepth 100000
set_option maxHeartbeats 4000000
/-! Ly7: statements, loops, a def's promise, calls of defs. -/
namespace L2.Ly
open PySem PySem.Spec PyProof.Rows

/-- how a block ends -/
inductive Fl where
  | nx (η : List LV) | rt (d : D) | bk (η : List LV) | ct (η : List LV)
def PostB {K : PySem.W.Frag} {mg : Str → Option Value} {β : Type} (G : Gam K mg) (B : Hp) (res : R β × Pen) (I : β → Fl) (E : Ends) : Prop := match res.1 with
  | .ok b => match I b with
    | .nx η => ∀ σ H B', Same B B' → Rel G H B' σ η res.2 → E.nx σ H
    | .rt d => ∀ v σ η H B', Same B B' → Rel G H B' σ η res.2 → Dt K mg B' v d → E.rt v H
    | .bk η => ∀ σ H B', Same B B' → Rel G H B' σ η res.2 → E.bk σ H
    | .ct η => ∀ σ H B', Same B B' → Rel G H B' σ η res.2 → E.ct σ H
  | .err e => ∀ cls x σ η H B', Same B B' → Rel G H B' σ η res.2 → ExR G H B' e cls x → G.W cls x σ H
  | .bad => False
def tB {K : PySem.W.Frag} {mg : Str → Option Value} {β : Type} (G : Gam K mg) (η : List LV) (r : M β) (I : β → Fl) : TS := fun E σ H => ∃ B p, Rel G H B σ η p ∧ PostB G B (r p) I E
/-- the block, from η on, gives r; I says how it ends -/
def DB (X : Cx) {β : Type} (G : Gam X.K X.mg) (η : List LV) (sts : List Stmt) (r : M β) (I : β → Fl) : Prop := PSs X sts (tB G η r I)

section
variable {K : PySem.W.Frag} {mg : Str → Option Value} {α β γ δ : Type} {G : Gam K mg} {σ : St} {η : List LV} {B B' : Hp} {p : Pen} {E : Ends} {I : γ → Fl}
theorem PostB.mono {res : R γ × Pen} (s : Same B B') (h : PostB G B res I E) : PostB G B' res I E := by
  obtain ⟨r, p'⟩ := res
  cases r with
  | ok b =>
    unfold PostB at h ⊢
    dsimp only at h ⊢
    cases e : I b with
    | nx η => rw [e] at h; exact fun σ H B2 s2 => h σ H B2 (s.trans s2)
    | rt d => rw [e] at h; exact fun v σ η H B2 s2 => h v σ η H B2 (s.trans s2)
    | bk η => rw [e] at h; exact fun σ H B2 s2 => h σ H B2 (s.trans s2)
    | ct η => rw [e] at h; exact fun σ H B2 s2 => h σ H B2 (s.trans s2)
  | err e => exact fun cls x σ η H B2 s2 => h cls x σ η H B2 (s.trans s2)
  | bad => exact h
/-- a block behind an expression -/
theorem PostB.bind {rep : Hp → Hp → β → α → Prop} {x : M α} {f : α → M γ} (h : PostB G B ((x >>= f) p) I E) :
    Post G σ η rep B (x p) (fun v H' => ∃ B' p' a, Same B B' ∧ Rel G H' B' σ η p' ∧ rep B' H' v a ∧ PostB G B' (f a p') I E) := by
  rw [M.bind_def] at h
  revert h
  cases x p with
  | mk r p' =>
    cases r with
    | ok a => exact fun h v H' B' s' r' q => ⟨B', p', a, s', r', q, h.mono s'⟩
    | err e => exact fun h cls x H' B' s' r' ex => h cls x σ η H' B' s' r' ex
    | bad => exact fun h => h
/-- a block behind a block -/
theorem PostB.seq {J : α → Fl} {x : M α} {f : α → M γ} (h : PostB G B ((x >>= f) p) I E) (nx : St → Hp → Prop)
    (k : ∀ a p' σ' H' B', J a = J a → PostB G B' (f a p') I E → Same B B' → match J a with
      | .nx η' => Rel G H' B' σ' η' p' → nx σ' H'
      | .rt d => ∀ v η', Rel G H' B' σ' η' p' → Dt K mg B' v d → E.rt v H'
      | .bk η' => Rel G H' B' σ' η' p' → E.bk σ' H'
      | .ct η' => Rel G H' B' σ' η' p' → E.ct σ' H') : PostB G B (x p) J { E with nx := nx } := by
  rw [M.bind_def] at h
  revert h
  cases x p with
  | mk r p' =>
    cases r with
    | ok a =>
      intro h
      unfold PostB
      dsimp only
      have kk := fun σ' H' B' (s : Same B B') => k a p' σ' H' B' rfl (h.mono s) s
      cases e : J a with
      | nx η => exact fun σ' H' B' s' r' => by have z := kk σ' H' B' s'; rw [e] at z; exact z r'
      | rt d => exact fun v σ' η' H' B' s' r' dt => by have z := kk σ' H' B' s'; rw [e] at z; exact z v η' r' dt
      | bk η => exact fun σ' H' B' s' r' => by have z := kk σ' H' B' s'; rw [e] at z; exact z r'
      | ct η => exact fun σ' H' B' s' r' => by have z := kk σ' H' B' s'; rw [e] at z; exact z r'
    | err e => exact fun h => h
    | bad => exact fun h => h
end

section
variable {X : Cx} {G : Gam X.K X.mg} {η : List LV} {β : Type} {I : β → Fl} {e : Expr} {rest : List Stmt} {pos p1 p2 p3 : Pos}
theorem db_of {st : Stmt} {t : TS} {u : TS} {r : M β} (h : PS X st t) (h2 : PSs X rest u) (k : ∀ σ H B p E, Rel G H B σ η p → PostB G B (r p) I E → t { E with nx := u E } σ H) : DB X G η (st :: rest) r I :=
  PSs.pre (pss_cons h h2) fun E σ H ⟨B, p, rl, q⟩ => k σ H B p E rl q
theorem db_nil {b : β} (h : I b = .nx η) : DB X G η [] (pure b) I :=
  PSs.pre pss_nil fun E σ H ⟨B, p, rl, q⟩ => by
    unfold PostB at q
    dsimp only [M.pure_def] at q
    rw [h] at q
    exact q σ H B (Same.refl _) rl
/-- the end of a def's body: None -/
theorem db_end {η : List LV} (E' : True := trivial) : PSs X [] (fun E σ H => ∃ B p, Rel G H B σ η p ∧ PostB G B (R.ok (), p) (fun _ => Fl.nx η) E) :=
  PSs.pre pss_nil fun E σ H ⟨B, p, rl, q⟩ => q σ H B (Same.refl _) rl
theorem db_ret {r : M D} {j : D → β} (h : DX X G η e r) (hj : ∀ d, I (j d) = .rt d) : DB X G η (.Return (some e) pos :: rest) (r >>= fun d => pure (j d)) I :=
  db_of (ps_ret h) pss_never fun σ H B p E rl q => ⟨B, p, rl, q.bind.imp fun v H1 ⟨B1, p1, d, s1, rl1, d1, q1⟩ => by
    unfold PostB at q1
    dsimp only [M.pure_def] at q1
    rw [hj] at q1
    exact q1 v σ η H1 B1 (Same.refl _) rl1 d1⟩
theorem db_retD {r : M D} (h : DX X G η e r) : DB X G η (.Return (some e) pos :: rest) r Fl.rt := by
  have z := db_ret (rest := rest) (pos := pos) (I := Fl.rt) (j := id) h fun _ => rfl
  rw [show (r >>= fun d => pure (id d)) = r from M.bind_pure r] at z
  exact z
theorem db_retN {b : β} (hj : I b = .rt .non) : DB X G η (.Return none pos :: rest) (pure b) I :=
  db_of ps_retN pss_never fun σ H B p E rl q => by
    unfold PostB at q
    dsimp only [M.pure_def] at q
    rw [hj] at q
    exact q .non σ η H B (Same.refl _) rl .non
theorem db_pass {r : M β} (h : DB X G η rest r I) : DB X G η (.Pass pos :: rest) r I :=
  db_of ps_pass h fun σ H B p E rl q => ⟨B, p, rl, q⟩
theorem db_doc {x : Str} {j : Nat} {r : M β} (h : DB X G η rest r I) : DB X G η (.Expr (.Constant (.str x) j p1) pos :: rest) r I :=
  db_of ps_doc h fun σ H B p E rl q => ⟨B, p, rl, q⟩
/-- an expression whose value is dropped -/
theorem db_expr {re : M D} {r : M β} (he : DX X G η e re) (h : DB X G η rest r I) (hs : swapsWith e none pos.line X.env = pure false := by rfl) : DB X G η (.Expr e pos :: rest) (re >>= fun _ => r) I :=
  db_of (ps_expr he hs) h fun σ H B p E rl q => ⟨B, p, rl, q.bind.imp fun v H1 ⟨B1, p1, d, s1, rl1, d1, q1⟩ => ⟨B1, p1, rl1, q1⟩⟩
/-- name = e -/
theorem db_set {i : Nat} {x : Str} {re : M D} {rr : D → M β} (hN : X.N.Nodup) (hi : X.N[i]? = some x) (hx : Loc X.env.scope x) (he : DX X G η e re) (h : ∀ d, DB X G (η.set i (.d d)) rest (rr d) I)
    (hs : swapsWith e (some (.Name x p1)) pos.line X.env = pure false := by rfl) (hf : X.fn x = true ∨ X.env.scope.names.lookup x = some .local := by first | exact .inl rfl | exact .inr rfl | assumption) :
    DB X G η (.Assign [.Name x p1] e pos :: rest) (re >>= rr) I := by
  -- the rest for every value at once
  have h' : PSs X rest (fun E σ H => ∃ d, tB G (η.set i (.d d)) (rr d) I E σ H) := ⟨fun pins s σ H E Iv ⟨d, w⟩ => (h d).run pins s σ H E Iv w⟩
  refine db_of (ps_set hN hi hx he hs hf) h' fun σ H B p E rl q => ⟨B, p, rl, q.bind.imp fun v H1 ⟨B1, p1, d, s1, rl1, d1, q1⟩ => ?_⟩
  exact ⟨d, B1, p1, rl1.putD d1, q1⟩
/-- a, b = e -/
theorem db_asg {α : Type} {tg : Expr} {vs : List Nat} {u : D → R α} {st : α → List LV} {re : M D} {rr : α → M β} (he : DX X G η e re) (hg : DG X G η vs tg u st) (h : ∀ a, DB X G (st a) rest (rr a) I)
    (hs : swapsWithSole [tg] e pos.line X.env = pure false := by rfl) (hw : swappedStores [tg] e X.env = pure none := by rfl) (h1 : (assignEach [tg] X.env).map (·.2) = [assign tg X.env] := by rfl) :
    DB X G η (.Assign [tg] e pos :: rest) (re >>= fun d => (M.lift (u d)).q >>= rr) I := by
  have h' : PSs X rest (fun E σ H => ∃ a, tB G (st a) (rr a) I E σ H) := ⟨fun pins s σ H E Iv ⟨a, w⟩ => (h a).run pins s σ H E Iv w⟩
  refine db_of (ps_asg he hg hs hw h1) h' fun σ H B p E rl q => ⟨B, p, rl, q.bind.imp fun v H1 ⟨B1, p1, d, s1, rl1, d1, q1⟩ => ?_⟩
  rw [M.bind_def] at q1
  unfold M.q at q1
  rw [M.lift_def] at q1
  cases eu : u d with
  | err z => rw [eu] at q1; exact q1.elim
  | bad => rw [eu] at q1; exact q1.elim
  | ok a =>
    rw [eu] at q1
    exact ⟨B1, p1, d, a, rl1, d1, eu, fun σ' r' _ => ⟨a, B1, p1, r', q1⟩⟩
/-- name = [comprehension], kept as plain data -/
theorem db_setT {i : Nat} {x : Str} {re : M (List D)} {rr : D → M β} (hp : PS X (.Assign [.Name x p1] e pos) (tAsg (tXf G η re) (gName i))) (h : ∀ d, DB X G (η.set i (.d d)) rest (rr d) I) :
    DB X G η (.Assign [.Name x p1] e pos :: rest) (re >>= fun xs => rr (.lst xs)) I := by
  have h' : PSs X rest (fun E σ H => ∃ d, tB G (η.set i (.d d)) (rr d) I E σ H) := ⟨fun pins s σ H E Iv ⟨d, w⟩ => (h d).run pins s σ H E Iv w⟩
  refine db_of hp h' fun σ H B p E rl q => ⟨B, p, rl, q.bind.imp ?_⟩
  rintro v H1 ⟨B1, p1, xs, s1, rl1, ⟨l, us, rfl, h1, hz, h2, h3, h4, h5, h6, d⟩, q1⟩
  have s2 := same_upd (o := HO.lst us) h2
  exact ⟨.lst xs, _, p1, (rl1.hold (o := HO.lst us) hz h1 h2 h4 h5 h6).putD (.lst upd_same (DtAll.mono s2 _ _ d)), q1.mono s2⟩
/-- a slot comes to own a new list -/
theorem Rel.putF {K : PySem.W.Frag} {mg : Str → Option Value} {G : Gam K mg} {H B : Hp} {σ : St} {η : List LV} {p : Pen} {l : Addr} {us : List V} {xs : List D} (r : Rel G H B σ η p) (i : Nat)
    (h1 : H l = some (.lst us)) (hz : us.length ≤ sizeLine) (h2 : B l = none) (h3 : G.H0 l = none) (h4 : G.pa ≠ some l) (h5 : ∀ i, ¬ Own σ η i l) (h6 : ¬ G.fre l) (d : DtAll K mg B us xs) : Rel G H B (σ.set i (some (.ref l))) (η.set i (.ml xs)) p := by
  have back : ∀ {j a}, Own (σ.set i (some (.ref l))) (η.set i (.ml xs)) j a → (j = i ∧ a = l) ∨ (j ≠ i ∧ Own σ η j a) := fun {j a} o => by
    by_cases hij : j = i
    · subst hij
      obtain ⟨h1, _⟩ := o
      by_cases hj : j < σ.length
      · rw [List.getElem?_set_self hj] at h1
        cases h1
        exact .inl ⟨rfl, rfl⟩
      · rw [List.getElem?_eq_none (by simpa using hj)] at h1
        cases h1
    · exact .inr ⟨hij, o.set_ne hij⟩
  refine ⟨by simp [r.len], r.sub, r.sz, r.fr, r.pen, fun j lv e => ?_, fun j k a o1 o2 => ?_, r.nf, fun j a o => ?_⟩
  · by_cases hij : j = i
    · subst hij
      by_cases hj : j < η.length
      · rw [List.getElem?_set_self hj] at e
        cases e
        rw [List.getElem?_set_self (by rw [← r.len]; exact hj)]
        exact ⟨l, us, rfl, h1, hz, d⟩
      · rw [List.getElem?_eq_none (by simpa using hj)] at e
        cases e
    · rw [List.getElem?_set_ne (Ne.symm hij)] at e ⊢
      exact r.sl j lv e
  · rcases back o1 with ⟨z1, z2⟩ | ⟨n1, q1⟩
    · rcases back o2 with ⟨z3, _⟩ | ⟨n2, q2⟩
      · exact z1.trans z3.symm
      · exact absurd q2 (z2 ▸ h5 k)
    · rcases back o2 with ⟨z1, z2⟩ | ⟨n2, q2⟩
      · exact absurd q1 (z2 ▸ h5 j)
      · exact r.dj j k a q1 q2
  · rcases back o with ⟨rfl, rfl⟩ | ⟨_, o⟩
    · exact ⟨h3, h2, h4, h6⟩
    · exact r.fresh j a o
/-- name = a new list that will be changed -/
theorem db_own {i : Nat} {x : Str} {re : M (List D)} {rr : List D → M β} (hp : PS X (.Assign [.Name x p1] e pos) (tAsg (tXf G η re) (gName i))) (h : ∀ xs, DB X G (η.set i (.ml xs)) rest (rr xs) I) :
    DB X G η (.Assign [.Name x p1] e pos :: rest) (re >>= rr) I := by
  have h' : PSs X rest (fun E σ H => ∃ d, tB G (η.set i (.ml d)) (rr d) I E σ H) := ⟨fun pins s σ H E Iv ⟨d, w⟩ => (h d).run pins s σ H E Iv w⟩
  refine db_of hp h' fun σ H B p E rl q => ⟨B, p, rl, q.bind.imp ?_⟩
  rintro v H1 ⟨B1, p1, xs, s1, rl1, ⟨l, us, rfl, h1, hz, h2, h3, h4, h5, h6, d⟩, q1⟩
  exact ⟨xs, B1, p1, rl1.putF i h1 hz h2 h3 h4 h5 h6 d, q1⟩
theorem ps_new {i : Nat} {x : Str} {re : M (List D)} (hN : X.N.Nodup) (hi : X.N[i]? = some x) (hx : Loc X.env.scope x) (he : DXf X G η e re)
    (hs : swapsWith e (some (.Name x p1)) pos.line X.env = pure false := by rfl) (hf : X.fn x = true ∨ X.env.scope.names.lookup x = some .local := by first | exact .inl rfl | exact .inr rfl | assumption) :
    PS X (.Assign [.Name x p1] e pos) (tAsg (tXf G η re) (gName i)) := ps_set hN hi hx he hs hf
/-- a list is no longer changed: it is plain data from here on -/
theorem db_hold {i : Nat} {xs : List D} {sts : List Stmt} {r : M β} (hi : η[i]? = some (.ml xs)) (h : DB X G (η.set i (.d (.lst xs))) sts r I) : DB X G η sts r I :=
  PSs.pre h fun E σ H ⟨B, p, rl, q⟩ => by
    obtain ⟨l, us, e1, h1, hz, d⟩ := rl.sl i _ hi
    have ho : Own σ η i l := ⟨e1, _, hi, rfl⟩
    obtain ⟨f1, f2, f3, nf⟩ := rl.fresh i l ho
    have r1 := rl.drop i
    have no : ∀ j, ¬ Own (σ.set i none) (η.set i .no) j l := fun j o => by
      by_cases hij : j = i
      · subst hij
        obtain ⟨h1, _⟩ := o
        by_cases hj : j < σ.length
        · rw [List.getElem?_set_self hj] at h1
          cases h1
        · rw [List.getElem?_eq_none (by simpa using hj)] at h1
          cases h1
      · exact hij (rl.dj j i l (o.set_ne hij) ho)
    have s2 := same_upd (o := HO.lst us) f2
    have r2 := ((r1.hold (o := HO.lst us) hz h1 f2 f3 no nf).putD (i := i) (v := .ref l) (d := .lst xs) (.lst upd_same (DtAll.mono s2 _ _ d)))
    rw [List.set_set, List.set_set] at r2
    have es : σ.set i (some (.ref l)) = σ := by
      apply List.ext_getElem?
      intro j
      by_cases hij : j = i
      · subst hij
        rw [e1, List.getElem?_set_self (by
          obtain ⟨h, _⟩ := List.getElem?_eq_some_iff.mp e1
          exact h)]
      · rw [List.getElem?_set_ne (Ne.symm hij)]
    rw [es] at r2
    exact ⟨_, p, r2, q.mono s2⟩
end
end L2.Ly

set_option Elab.async false
set_option linter.all false
set_option maxRecDepth 100000
set_option maxHeartbeats 4000000
/-! Ly8: if, for, while, list methods, a def's promise, calls of defs. -/
namespace L2.Ly
open PySem PySem.Spec PyProof.Rows

/-! ### less is known -/
inductive LeL : List LV → List LV → Prop
  | nil : LeL [] []
  | eq {lv : LV} {a b : List LV} : LeL a b → LeL (lv :: a) (lv :: b)
  | no {lv : LV} {a b : List LV} : LeL a b → LeL (lv :: a) (.no :: b)
theorem LeL.length : ∀ {a b : List LV}, LeL a b → a.length = b.length
  | _, _, .nil => rfl
  | _, _, .eq h => by rw [List.length_cons, List.length_cons, LeL.length h]
  | _, _, .no h => by rw [List.length_cons, List.length_cons, LeL.length h]
theorem LeL.get : ∀ {a b : List LV} {i : Nat} {lv : LV}, LeL a b → b[i]? = some lv → lv = .no ∨ a[i]? = some lv
  | _, _, _, _, .nil, e => by simp at e
  | _, _, 0, _, .eq h, e => .inr (by simpa using e)
  | _, _, i + 1, _, .eq h, e => by simpa using LeL.get (i := i) h (by simpa using e)
  | _, _, 0, _, .no h, e => .inl (by simpa using e.symm)
  | _, _, i + 1, _, .no h, e => by simpa using LeL.get (i := i) h (by simpa using e)
theorem LeL.refl : ∀ a : List LV, LeL a a
  | [] => .nil
  | _ :: a => .eq (LeL.refl a)
theorem Rel.less {K : PySem.W.Frag} {mg : Str → Option Value} {G : Gam K mg} {H B : Hp} {σ : St} {η η' : List LV} {p : Pen} (r : Rel G H B σ η p) (l : LeL η η') : Rel G H B σ η' p := by
  have back : ∀ {i a}, Own σ η' i a → Own σ η i a := fun {i a} ⟨h1, lv, h2, h3⟩ => by
    rcases l.get h2 with rfl | h
    · cases h3
    · exact ⟨h1, lv, h, h3⟩
  refine ⟨l.length ▸ r.len, r.sub, r.sz, r.fr, r.pen, fun i lv e => ?_, fun i j a h1 h2 => r.dj i j a (back h1) (back h2), r.nf, fun i a h => r.fresh i a (back h)⟩
  rcases l.get e with rfl | h
  · trivial
  · exact r.sl i lv h

/-- how a loop's turn, or a branch, ends: it goes on with a; it returns; it breaks off -/
inductive Out (α : Type) where
  | nx (a : α) | rt (d : D) | bk (a : α)
def outF {α : Type} (s : α → List LV) : Out α → Fl
  | .nx a => .nx (s a)
  | .rt d => .rt d
  | .bk a => .bk (s a)
section
variable {X : Cx} {G : Gam X.K X.mg} {η : List LV} {β : Type} {I : β → Fl} {e : Expr} {rest : List Stmt} {pos p1 p2 p3 p4 : Pos}
theorem db_nilW {b : β} {η' : List LV} (h : I b = .nx η') (l : LeL η η') : DB X G η [] (pure b) I :=
  PSs.pre pss_nil fun E σ H ⟨B, p, rl, q⟩ => by
    unfold PostB at q
    dsimp only [M.pure_def] at q
    rw [h] at q
    exact q σ H B (Same.refl _) (rl.less l)
/-- a def's body that runs to its end -/
theorem db_endN (nx : True := trivial) : PSs X [] (fun E σ H => ∃ B p, Rel G H B σ η p ∧ (∀ σ H B', Same B B' → Rel G H B' σ η p → E.nx σ H)) :=
  PSs.pre pss_nil fun E σ H ⟨B, p, rl, q⟩ => q σ H B (Same.refl _) rl
/-- if c: A; the rest is what the other way does. A ends (returns) on all its ways -/
theorem db_if {c : Expr} {sA sB : List Stmt} {rc : M Bool} {rA rB : M β} (hc : DXb X G η c rc) (hA : DB X G η sA rA I) (hB : DB X G η sB rB I) (hr : sA = sA := rfl) : DB X G η [.If c sA sB pos] (rc >>= fun b => if b then rA else rB) I := by
  refine PSs.pre (pss_one (ps_if hc hA hB)) fun E σ H ⟨B, p, rl, q⟩ => ⟨B, p, rl, q.bind.imp ?_⟩
  rintro b H1 ⟨B1, p1, b', s1, rl1, rfl, q1⟩
  cases b with
  | true => exact iteT ⟨B1, p1, rl1, q1⟩
  | false => exact iteF ⟨B1, p1, rl1, q1⟩
/-- no way goes on behind -/
def NoNx {β : Type} (I : β → Fl) : Prop := ∀ b η, I b ≠ .nx η
theorem noNx_rt : NoNx Fl.rt := fun b η h => by cases h
theorem PostB.noNx {K : PySem.W.Frag} {mg : Str → Option Value} {G : Gam K mg} {B : Hp} {res : R β × Pen} {E : Ends} {nx : St → Hp → Prop} (n : NoNx I) (h : PostB G B res I E) : PostB G B res I { E with nx := nx } := by
  obtain ⟨r, p'⟩ := res
  cases r with
  | ok b =>
    unfold PostB at h ⊢
    dsimp only at h ⊢
    cases e : I b with
    | nx η => exact absurd e (n b η)
    | rt d => rw [e] at h; exact h
    | bk η => rw [e] at h; exact h
    | ct η => rw [e] at h; exact h
  | err e => exact h
  | bad => exact h
/-- if c: A (which never goes on); rest -/
theorem db_ifR {c : Expr} {sA : List Stmt} {rc : M Bool} {γ : Type} {J : γ → Fl} {j : γ → β} {rA : M γ} {rr : M β} (hc : DXb X G η c rc) (hA : DB X G η sA rA J) (n : NoNx J) (hj : ∀ g, I (j g) = J g) (h : DB X G η rest rr I) :
    DB X G η (.If c sA [] pos :: rest) (rc >>= fun b => if b then rA >>= fun g => pure (j g) else rr) I := by
  refine db_of (ps_if hc hA pss_nil) h fun σ H B p E rl q => ⟨B, p, rl, q.bind.imp ?_⟩
  rintro b H1 ⟨B1, p1, b', s1, rl1, rfl, q1⟩
  cases b with
  | true =>
    refine iteT ⟨B1, p1, rl1, PostB.noNx n ?_⟩
    have q1 : PostB G B1 ((rA >>= fun g => pure (j g)) p1) I E := q1
    rw [M.bind_def] at q1
    revert q1
    cases rA p1 with
    | mk r p' =>
      cases r with
      | ok g =>
        intro q1
        unfold PostB at q1 ⊢
        dsimp only [M.pure_def] at q1 ⊢
        rw [hj] at q1
        exact q1
      | err e => exact fun q1 => q1
      | bad => exact fun q1 => q1
  | false => exact iteF ⟨B1, p1, rl1, q1⟩
/-- .. in a def's own body -/
theorem db_ifD {c : Expr} {sA : List Stmt} {rc : M Bool} {rA rr : M D} (hc : DXb X G η c rc) (hA : DB X G η sA rA Fl.rt) (h : DB X G η rest rr Fl.rt) :
    DB X G η (.If c sA [] pos :: rest) (rc >>= fun b => if b then rA else rr) Fl.rt := by
  have z := db_ifR (pos := pos) (j := id) hc hA noNx_rt (fun _ => rfl) h
  have e : (rA >>= fun g => pure (id g)) = rA := M.bind_pure rA
  rw [e] at z
  exact z
/-- if c: A else: B; rest: both go on with what J tells (or return) -/
theorem db_ifJ {c : Expr} {sA sB : List Stmt} {rc : M Bool} {α : Type} {s : α → List LV} {rA rB : M (Out α)} {k : α → M β} {j : D → β} (hc : DXb X G η c rc) (hA : DB X G η sA rA (outF s)) (hB : DB X G η sB rB (outF s)) (h : ∀ a, DB X G (s a) rest (k a) I) (hj : ∀ d, I (j d) = .rt d) :
    DB X G η (.If c sA sB pos :: rest) (rc >>= fun b => (if b then rA else rB) >>= fun o => match o with | .nx a => k a | .rt d => pure (j d) | .bk _ => fun p => (.bad, p)) I := by
  have h' : PSs X rest (fun E σ H => ∃ a, tB G (s a) (k a) I E σ H) := ⟨fun pins s1 σ H E Iv ⟨a, w⟩ => (h a).run pins s1 σ H E Iv w⟩
  refine db_of (ps_if hc hA hB) h' fun σ H B p E rl q => ⟨B, p, rl, q.bind.imp ?_⟩
  rintro b H1 ⟨B1, p1, b', s1, rl1, rfl, q1⟩
  have go : ∀ {r : M (Out α)}, PostB G B1 ((r >>= fun o => match o with | .nx a => k a | .rt d => pure (j d) | .bk _ => fun p => (R.bad, p)) p1) I E → PostB G B1 (r p1) (outF s) { E with nx := fun σ H => ∃ a, tB G (s a) (k a) I E σ H } := fun {r} q2 => by
    rw [M.bind_def] at q2
    revert q2
    cases r p1 with
    | mk x p' =>
      cases x with
      | ok o =>
        cases o with
        | nx a => exact fun q2 σ' H' B' s' r' => ⟨a, B', p', r', q2.mono s'⟩
        | rt d =>
          intro q2 v σ' η' H' B' s' r' dt
          unfold PostB at q2
          dsimp only [M.pure_def] at q2
          rw [hj] at q2
          exact q2 v σ' η' H' B' s' r' dt
        | bk a => exact fun q2 => q2.elim
      | err e => exact fun q2 => q2
      | bad => exact fun q2 => q2
  cases b with
  | true =>
    rw [if_pos rfl] at q1
    exact iteT ⟨B1, p1, rl1, go q1⟩
  | false =>
    rw [if_neg Bool.false_ne_true] at q1
    exact iteF ⟨B1, p1, rl1, go q1⟩

/-! ### for -/
def forM {α γ : Type} (u : D → R γ) (f : α → γ → M (Out α)) : List D → α → M (Out α)
  | [], a => pure (.nx a)
  | x :: xs, a => (M.lift (u x)).q >>= fun y => f a y >>= fun o => match o with
    | .nx a' => forM u f xs a'
    | .rt d => pure (.rt d)
    | .bk a' => pure (.nx a')
theorem db_for {α γ : Type} {tg iter : Expr} {body : List Stmt} {ri : M (List D)} {vs : List Nat} {u : D → R γ} {st : α → γ → List LV} {s : α → List LV} {a0 : α} {f : α → γ → M (Out α)} {k : α → M β} {j : D → β}
    (hp : PassesOwn (model X.prog X.w) X.A X.env X.xe) (hc : X.calm = true) (hi : DXi X G η tg iter ri) (h0 : s a0 = η) (hg : ∀ a, DG X G (s a) vs tg u (st a)) (hb : ∀ a y, DB X G (st a y) body (f a y) (outF s)) (h : ∀ a, DB X G (s a) rest (k a) I) (hj : ∀ d, I (j d) = .rt d)
    (hs : ∀ x, foldedSetIterable iter X.env x = pure x := by intro _; rfl) :
    DB X G η (.For tg iter body [] pos :: rest) (ri >>= fun xs => forM u f xs a0 >>= fun o => match o with | .nx a => k a | .rt d => pure (j d) | .bk _ => fun p => (.bad, p)) I := by
  have h' : PSs X rest (fun E σ H => ∃ a, tB G (s a) (k a) I E σ H) := ⟨fun pins s1 σ H E Iv ⟨a, w⟩ => (h a).run pins s1 σ H E Iv w⟩
  have hb' : PSs X body (fun E σ H => ∃ a y, tB G (st a y) (f a y) (outF s) E σ H) := ⟨fun pins s1 σ H E Iv ⟨a, y, w⟩ => (hb a y).run pins s1 σ H E Iv w⟩
  have hg' : PG X tg (fun v σ H Q => ∃ a, tG G (s a) vs u (st a) v σ H Q) := ⟨fun pins s1 σ H v w Q Iv r ⟨a, h⟩ => (hg a).run pins s1 σ H v w Q Iv r h⟩
  refine db_of (ps_for hp hc hi hg' hb' hs) h' fun σ H B p E rl q => ⟨B, p, rl, q.bind.imp ?_⟩
  rintro J H1 ⟨B1, p1, xs, s1, rl1, wk, q1⟩
  refine ⟨fun i m σ' H' => m = xs.length - i ∧ i ≤ xs.length ∧ ∃ B' p' a, Same B1 B' ∧ Rel G H' B' σ' (s a) p' ∧
    PostB G B' ((forM u f (xs.drop i) a >>= fun o => match o with | .nx a => k a | .rt d => pure (j d) | .bk _ => fun p => (R.bad, p)) p') I E, ⟨xs.length, by simp, Nat.zero_le _, B1, p1, a0, Same.refl _, by rw [h0]; exact rl1, by rw [List.drop_zero]; exact q1⟩, ?_⟩
  rintro i m σ2 H2 ⟨rfl, hi, B2, p2, a, s2, rl2, q2⟩
  by_cases hlt : i < xs.length
  · refine .inr ⟨wk.go i B2 H2 s2 rl2.sub hlt, fun σ' H' => (i + 1 ≤ xs.length ∧ ∃ B' p' a, Same B1 B' ∧ Rel G H' B' σ' (s a) p' ∧
      PostB G B' ((forM u f (xs.drop (i + 1)) a >>= fun o => match o with | .nx a => k a | .rt d => pure (j d) | .bk _ => fun p => (R.bad, p)) p') I E), fun σ' H' h => ⟨xs.length - (i + 1), by omega, rfl, h.1, h.2⟩, fun x H3 y => ?_⟩
    obtain ⟨d, B3, hd, s3, rl3, dt, sH, gB⟩ := (wk.mono s2).item rl2 hlt y
    have ed : xs.drop i = d :: xs.drop (i + 1) := by
      rw [List.drop_eq_getElem_cons hlt]
      rw [List.getElem?_eq_getElem hlt] at hd
      cases hd
      rfl
    rw [ed] at q2
    have q3 : PostB G B2 (((M.lift (u d)).q >>= fun y => f a y >>= fun o => (match o with
        | .nx a' => forM u f (xs.drop (i + 1)) a'
        | .rt d => pure (.rt d)
        | .bk a' => pure (.nx a')) >>= fun o => match o with | .nx a => k a | .rt d => pure (j d) | .bk _ => fun p => (R.bad, p)) p2) I E := by
      have e : (forM u f (d :: xs.drop (i + 1)) a >>= fun o => match o with | .nx a => k a | .rt d => pure (j d) | .bk _ => fun p => (R.bad, p)) = ((M.lift (u d)).q >>= fun y => f a y >>= fun o => (match o with
        | .nx a' => forM u f (xs.drop (i + 1)) a'
        | .rt d => pure (.rt d)
        | .bk a' => pure (.nx a')) >>= fun o => match o with | .nx a => k a | .rt d => pure (j d) | .bk _ => fun p => (R.bad, p)) := by
        show (((M.lift (u d)).q >>= fun y => f a y >>= fun o => _) >>= _) = _
        rw [M.bind_assoc]
        congr 1
        funext y
        rw [M.bind_assoc]
      rw [← e]
      exact q2
    rw [M.bind_def] at q3
    unfold M.q at q3
    rw [M.lift_def] at q3
    cases eu : u d with
    | err z => rw [eu] at q3; exact q3.elim
    | bad => rw [eu] at q3; exact q3.elim
    | ok y =>
      rw [eu] at q3
      have q3 : PostB G B2 ((f a y >>= fun o => (match o with
        | .nx a' => forM u f (xs.drop (i + 1)) a'
        | .rt d => pure (.rt d)
        | .bk a' => pure (.nx a')) >>= fun o => match o with | .nx a => k a | .rt d => pure (j d) | .bk _ => fun p => (R.bad, p)) p2) I E := q3
      refine ⟨a, B3, p2, d, y, rl3, dt, eu, fun σ4 r4 _ => ⟨a, y, B3, p2, r4, ?_⟩⟩
      rw [M.bind_def] at q3
      revert q3
      cases f a y p2 with
      | mk x p' =>
        cases x with
        | ok o =>
          cases o with
          | nx a' => exact fun q3 σ' H' B' s' r' => ⟨hlt, B', p', a', s2.trans (s3.trans s'), r', q3.mono (s3.trans s')⟩
          | rt dd =>
            intro q3 v σ' η' H' B' s' r' dt'
            have q3 : PostB G B2 (R.ok (j dd), p') I E := q3
            unfold PostB at q3
            dsimp only at q3
            rw [hj] at q3
            exact q3 v σ' η' H' B' (s3.trans s') r' dt'
          | bk a' => exact fun q3 σ' H' B' s' r' => ⟨a', B', p', r', PostB.mono (s3.trans s') q3⟩
        | err e => exact fun q3 => PostB.mono s3 q3
        | bad => exact fun q3 => q3
  · have e : i = xs.length := by omega
    subst e
    refine .inl ⟨wk.stop _ B2 H2 s2 rl2.sub (Nat.le_refl _), a, B2, p2, rl2, ?_⟩
    rw [List.drop_length] at q2
    exact q2
end
end L2.Ly

set_option Elab.async false
set_option linter.all false
set_option maxRecDepth 100000
set_option maxHeartbeats 4000000
/-! Ly9: a def's promise, calls of defs (the rows by kinds of arguments are printed by genly9.py). -/
namespace L2.Ly
open PySem PySem.Spec PyProof.Rows

inductive AV where
  | d (x : D) | pen
def AV.lv : AV → LV
  | .d x => .d x
  | .pen => .pen
inductive AvAll (K : PySem.W.Frag) (mg : Str → Option Value) (B : Hp) (pa : Option Addr) : List V → List AV → Prop
  | nil : AvAll K mg B pa [] []
  | d {v : V} {x : D} {vs : List V} {as : List AV} : Dt K mg B v x → AvAll K mg B pa vs as → AvAll K mg B pa (v :: vs) (.d x :: as)
  | pen {a : Addr} {vs : List V} {as : List AV} : pa = some a → AvAll K mg B pa vs as → AvAll K mg B pa (.ref a :: vs) (.pen :: as)
/-- what has come of a call: only new things, and the pen -/
structure Grow (K : PySem.W.Frag) (pa : Option Addr) (H B H' B' : Hp) (p' : Pen) : Prop where
  bb : Same B B'
  sub : Same B' H'
  sz : ∀ a o, B' a = some o → okSz o
  fr : ∀ a o, H a = some o → pa ≠ some a → H' a = some o
  nb : ∀ a o, H a = some o → B' a = B a
  pen : ∀ a, pa = some a → PenAt K H' B' a p'
def ExR0 (K : PySem.W.Frag) (mg : Str → Option Value) (H B : Hp) (e : Ex) (cls : Value) (x : Option Addr) : Prop :=
  ∃ C dx fs, cls = .ref C ∧ mg e.cls = some (.ref C) ∧ x = some dx ∧ H dx = some (.xd fs) ∧ DtFs K mg B fs e.fs
/-- the promise: called with such data it gives m's answer -/
def spD (K : PySem.W.Frag) (mg : Str → Option Value) (m : List AV → M D) : Sp := fun vs H Q E => ∃ B p pa as, Same B H ∧ (∀ a o, B a = some o → okSz o) ∧ (∀ a, pa = some a → PenAt K H B a p) ∧ AvAll K mg B pa vs as ∧
  match (m as p).1 with
  | .ok d => ∀ v H' B', Grow K pa H B H' B' (m as p).2 → Dt K mg B' v d → Q v H'
  | .err e => ∀ cls x H' B', Grow K pa H B H' B' (m as p).2 → ExR0 K mg H' B' e cls x → E cls x H'
  | .bad => False
theorem AvAll.length {K : PySem.W.Frag} {mg : Str → Option Value} {B : Hp} {pa : Option Addr} : ∀ {vs : List V} {as : List AV}, AvAll K mg B pa vs as → vs.length = as.length
  | _, _, .nil => rfl
  | _, _, .d _ t => by rw [List.length_cons, List.length_cons, AvAll.length t]
  | _, _, .pen _ t => by rw [List.length_cons, List.length_cons, AvAll.length t]

section
variable {K : PySem.W.Frag} {mg : Str → Option Value} {G : Gam K mg} {H H' B B' : Hp} {σ : St} {η : List LV} {p p' : Pen}
theorem PenAt.mono {a : Addr} (h : PenAt K H B a p) (h1 : H' a = H a) (h2 : B' a = B a) (s : Same B B') : PenAt K H' B' a p := by
  obtain ⟨c, k1, k2, k3⟩ := h
  exact ⟨c, by rw [h1]; exact k1, by rw [h2]; exact k2, s _ _ k3⟩
/-- behind a call that had our pen -/
theorem Rel.calledP (r : Rel G H B σ η p) (g : Grow K G.pa H B H' B' p') : Rel G H' B' σ η p' := by
  refine ⟨r.len, g.sub, g.sz, fun a o e n => g.fr a o (r.fr a o e n) n, g.pen, fun i lv e => (r.sl i lv e).mono g.bb fun a ho hv => ?_, r.dj, fun a h => ?_, fun i a o => ?_⟩
  · have ow : Own σ η i a := ⟨hv, lv, e, ho⟩
    obtain ⟨u, q⟩ := r.own_at ow
    rw [q, g.fr a u q (r.fresh i a ow).2.2.1]
  · obtain ⟨n, u, q⟩ := r.nf a h
    refine ⟨by rw [g.nb a u q]; exact n, ?_⟩
    by_cases hp : G.pa = some a
    · obtain ⟨c, h1, _⟩ := g.pen a hp
      exact ⟨_, h1⟩
    · exact ⟨u, g.fr a u q hp⟩
  · obtain ⟨h1, h2, h3, h4⟩ := r.fresh i a o
    obtain ⟨u, q⟩ := r.own_at o
    exact ⟨h1, by rw [g.nb a u q]; exact h2, h3, h4⟩
/-- behind a call without a pen -/
theorem Rel.called (r : Rel G H B σ η p) (g : Grow K none H B H' B' p') : Rel G H' B' σ η p := by
  have fr : ∀ {a u}, H a = some u → H' a = some u := fun {a u} q => g.fr a u q (by intro e; cases e)
  refine ⟨r.len, g.sub, g.sz, fun a o e n => fr (r.fr a o e n), fun a e => ?_, fun i lv e => (r.sl i lv e).mono g.bb fun a ho hv => ?_, r.dj, fun a h => ?_, fun i a o => ?_⟩
  · have z := r.pen a e
    obtain ⟨c, h1, h2, h3⟩ := id z
    exact z.mono (by rw [h1, fr h1]) (g.nb a _ h1) g.bb
  · have ow : Own σ η i a := ⟨hv, lv, e, ho⟩
    obtain ⟨u, q⟩ := r.own_at ow
    rw [q, fr q]
  · obtain ⟨n, u, q⟩ := r.nf a h
    exact ⟨by rw [g.nb a u q]; exact n, u, fr q⟩
  · obtain ⟨h1, h2, h3, h4⟩ := r.fresh i a o
    obtain ⟨u, q⟩ := r.own_at o
    exact ⟨h1, by rw [g.nb a u q]; exact h2, h3, h4⟩
/-- at the entry of a def -/
def Gam.at (K : PySem.W.Frag) (mg : Str → Option Value) (H B : Hp) (pa : Option Addr) (E : XK) : Gam K mg := ⟨H, pa, fun cls x _ H' => E cls x H', fun a => (∃ o, H a = some o) ∧ B a = none⟩
theorem AvAll.slots {pa : Option Addr} {H0 : Hp} {E : XK} : ∀ {vs : List V} {as : List AV} {i : Nat} {lv : LV}, AvAll K mg B pa vs as → (as.map AV.lv)[i]? = some lv → SlotR (Gam.at K mg H0 B pa E) H B (vs.map some)[i]? lv
  | _, _, _, _, .nil, e => by simp at e
  | _, _, 0, lv, .d (v := v) h _, e => by
    have e : some (LV.d _) = some lv := e
    cases e
    exact ⟨v, rfl, h⟩
  | _, _, 0, lv, .pen (a := a) h _, e => by
    have e : some LV.pen = some lv := e
    cases e
    exact ⟨a, rfl, h⟩
  | _, _, i + 1, lv, .d _ t, e => by simpa using AvAll.slots (i := i) t (by simpa using e)
  | _, _, i + 1, lv, .pen _ t, e => by simpa using AvAll.slots (i := i) t (by simpa using e)
theorem Rel.entry {vs : List V} {as : List AV} {N : List Str} {pa : Option Addr} {E : XK} (s : Same B H) (z : ∀ a o, B a = some o → okSz o) (hp : ∀ a, pa = some a → PenAt K H B a p) (h : AvAll K mg B pa vs as) (hl : as.length ≤ N.length) :
    Rel (Gam.at K mg H B pa E) H B (start N vs) (as.map AV.lv ++ List.replicate (N.length - as.length) .no) p := by
  have nown : ∀ i a, ¬ Own (start N vs) (as.map AV.lv ++ List.replicate (N.length - as.length) .no) i a := by
    rintro i a ⟨_, lv, h2, h3⟩
    by_cases hi : i < as.length
    · rw [List.getElem?_append_left (by simpa using hi), List.getElem?_map] at h2
      cases e : as[i]? with
      | none => rw [e] at h2; cases h2
      | some x =>
        rw [e] at h2
        cases h2
        cases x <;> cases h3
    · rw [List.getElem?_append_right (by simpa using hi), List.getElem?_replicate] at h2
      split at h2
      · cases h2
        cases h3
      · cases h2
  refine ⟨by unfold start; simp [h.length], s, z, fun a o e _ => e, hp, fun i lv e => ?_, fun i j a o _ => (nown i a o).elim, fun a h => ⟨h.2, h.1⟩, fun i a o => (nown i a o).elim⟩
  by_cases hi : i < as.length
  · rw [List.getElem?_append_left (by simpa using hi)] at e
    have q := h.slots (H := H) (H0 := H) (E := E) e
    unfold start
    rw [List.getElem?_append_left (by simpa [h.length] using hi)]
    exact q
  · rw [List.getElem?_append_right (by simpa using hi), List.getElem?_replicate] at e
    split at e
    · cases e
      trivial
    · cases e
theorem Rel.leaves {pa : Option Addr} {E : XK} {H0 B0 : Hp} (r : Rel (Gam.at K mg H0 B0 pa E) H' B' σ η p') (s : Same B0 B') (s0 : Same B0 H0) : Grow K pa H0 B0 H' B' p' :=
  ⟨s, r.sub, r.sz, r.fr, fun a o e => by
    cases q : B0 a with
    | none => exact (r.nf a ⟨⟨o, e⟩, q⟩).1
    | some u => exact s a u q, r.pen⟩
end

section
variable {P : Program} {w : World} {K : PySem.W.Frag} {mg : Str → Option Value} {base : Heap}
theorem takes_at {qual : Str} {scope : Scope} {f : Addr} {cd : Value} {A : Around} {outer : List Env} {s : Shared} {H : Hp} {E : XK} {N : List Str} : Takes (cxOf (L2.CX P w) P w K mg base N qual scope f cd A outer s H E) (fun cls d _ H => E cls d H) :=
  takes_of rfl rfl rfl rfl
/-- a def keeps its promise -/
theorem fn_ok {x qual : Str} {st : Stmt} {f : Addr} {fd : FuncData} {N ps : List Str} {k : Nat} {m : List AV → M D} (F : Fun K x qual st f fd) (S : FnScope N ps (defScope st)) (hN : ps.length ≤ N.length) (hm : ∀ as p, as.length ≠ ps.length → (m as p).1 = .bad)
    (hbody : ∀ (cdv : Value) (A : Around) (outer : List Env) (s : Shared) (H : Hp) (E : XK), Room k (A.deeper (envOfC qual (defScope st) s.heap.objs.size f cdv)) → ∀ (G : Gam K mg), Takes (cxOf (L2.CX P w) P w K mg base N qual (defScope st) f cdv A outer s H E) G.W →
      ∀ as : List AV, as.length = ps.length → DB (cxOf (L2.CX P w) P w K mg base N qual (defScope st) f cdv A outer s H E) G (as.map AV.lv ++ List.replicate (N.length - as.length) .no) (defBody st) (m as) Fl.rt) :
    FnOk P w K mg base (L2.CX P w) (k + 1) f fd ps (spD K mg m) := by
  refine F.okX S (fun vs H Q E h => ?_) (fun cdv A outer s H vs Q E hr h => ?_)
  · obtain ⟨B, p, pa, as, _, _, _, ha, h⟩ := h
    rw [ha.length]
    by_cases hl : as.length = ps.length
    · exact hl
    · rw [hm as p hl] at h
      exact h.elim
  · obtain ⟨B, p, pa, as, s0, z, hp, ha, h⟩ := h
    have hl : as.length = ps.length := by
      by_cases hl : as.length = ps.length
      · exact hl
      · rw [hm as p hl] at h
        exact h.elim
    refine ⟨_, hbody cdv A outer s H E hr (Gam.at K mg H B pa E) takes_at as hl, B, p, Rel.entry s0 z hp ha (by rw [hl]; exact hN), ?_⟩
    revert h
    unfold PostB
    cases (m as p).1 with
    | ok d => exact fun h v σ η H' B' s' r' dt => h v H' B' (r'.leaves s' s0) dt
    | err e => exact fun h cls x σ η H' B' s' r' ex => h cls x H' B' (r'.leaves s' s0) ex
    | bad => exact fun h => h
/-- .. a def whose body may run to its end -/
def endM {α : Type} (r : M (Out α)) : M D := r >>= fun o => match o with
  | .nx _ => pure .non
  | .rt d => pure d
  | .bk _ => fun p => (.bad, p)
theorem fn_okN {α : Type} {η' : α → List LV} {x qual : Str} {st : Stmt} {f : Addr} {fd : FuncData} {N ps : List Str} {k : Nat} {m : List AV → M (Out α)} (F : Fun K x qual st f fd) (S : FnScope N ps (defScope st)) (hN : ps.length ≤ N.length) (hm : ∀ as p, as.length ≠ ps.length → (m as p).1 = .bad)
    (hbody : ∀ (cdv : Value) (A : Around) (outer : List Env) (s : Shared) (H : Hp) (E : XK), Room k (A.deeper (envOfC qual (defScope st) s.heap.objs.size f cdv)) → ∀ (G : Gam K mg), Takes (cxOf (L2.CX P w) P w K mg base N qual (defScope st) f cdv A outer s H E) G.W →
      ∀ as : List AV, as.length = ps.length → DB (cxOf (L2.CX P w) P w K mg base N qual (defScope st) f cdv A outer s H E) G (as.map AV.lv ++ List.replicate (N.length - as.length) .no) (defBody st) (m as) (outF η')) :
    FnOk P w K mg base (L2.CX P w) (k + 1) f fd ps (spD K mg fun as => endM (m as)) := by
  have bad : ∀ as p, as.length ≠ ps.length → ((endM (m as)) p).1 = .bad := fun as p h => by
    have z := hm as p h
    unfold endM
    rw [M.bind_def]
    revert z
    cases m as p with
    | mk r p' =>
      intro z
      cases z
      rfl
  refine F.okX S (fun vs H Q E h => ?_) (fun cdv A outer s H vs Q E hr h => ?_)
  · obtain ⟨B, p, pa, as, _, _, _, ha, h⟩ := h
    rw [ha.length]
    by_cases hl : as.length = ps.length
    · exact hl
    · rw [bad as p hl] at h
      exact h.elim
  · obtain ⟨B, p, pa, as, s0, z, hp, ha, h⟩ := h
    have hl : as.length = ps.length := by
      by_cases hl : as.length = ps.length
      · exact hl
      · rw [bad as p hl] at h
        exact h.elim
    refine ⟨_, hbody cdv A outer s H E hr (Gam.at K mg H B pa E) takes_at as hl, B, p, Rel.entry s0 z hp ha (by rw [hl]; exact hN), ?_⟩
    revert h
    show (match ((endM (m as)) p).1 with
      | .ok d => ∀ v H' B', Grow K pa H B H' B' ((endM (m as)) p).2 → Dt K mg B' v d → Q v H'
      | .err e => ∀ cls x H' B', Grow K pa H B H' B' ((endM (m as)) p).2 → ExR0 K mg H' B' e cls x → E cls x H'
      | .bad => False) → _
    unfold PostB endM
    rw [M.bind_def]
    cases m as p with
    | mk r p' =>
      cases r with
      | ok o =>
        cases o with
        | nx a => exact fun h σ H' B' s' r' => h .non H' B' (r'.leaves s' s0) .non
        | rt d => exact fun h v σ η H' B' s' r' dt => h v H' B' (r'.leaves s' s0) dt
        | bk a => exact fun h => h.elim
      | err e => exact fun h cls x σ η H' B' s' r' ex => h cls x H' B' (r'.leaves s' s0) ex
      | bad => exact fun h => h
end

/-! ### calls -/
/-- a call without a pen: ours stays as it is -/
def M.c {α : Type} (m : M α) : M α := fun p => ((m p).1, p)
@[simp] theorem M.c_pure {α : Type} (a : α) : M.c (pure a : M α) = pure a := rfl
@[simp] theorem M.c_lift {α : Type} (r : R α) : M.c (M.lift r) = M.lift r := rfl
section
variable {X : Cx} {G : Gam X.K X.mg} {η : List LV} {e a : Expr} {es : List Expr} {pos p1 p2 p3 : Pos}
def tXv {K : PySem.W.Frag} {mg : Str → Option Value} (G : Gam K mg) (η : List LV) (r : M (List AV)) : TA := fun σ H Q => ∃ B p, Rel G H B σ η p ∧ Post G σ η (fun B _ vs as => AvAll K mg B G.pa vs as) B (r p) Q
/-- arguments, the pen among them -/
def DXv (X : Cx) (G : Gam X.K X.mg) (η : List LV) (es : List Expr) (r : M (List AV)) : Prop := PA X es (tXv G η r)
theorem AvAll.mono {K : PySem.W.Frag} {mg : Str → Option Value} {B B' : Hp} {pa : Option Addr} (s : Same B B') : ∀ {vs : List V} {as : List AV}, AvAll K mg B pa vs as → AvAll K mg B' pa vs as
  | _, _, .nil => .nil
  | _, _, .d h t => .d (Dt.mono s _ _ h) (AvAll.mono s t)
  | _, _, .pen h t => .pen h (AvAll.mono s t)
theorem dxv_nil : DXv X G η [] (pure []) := PA.pre pa_nil fun σ H Q ⟨B, p, rl, q⟩ => q.lift rl .nil
theorem dxv_d {r : M D} {rs : M (List AV)} (he : DX X G η e r) (hr : DXv X G η es rs) (hs : starEach (e :: es) X.env = (false, eval e X.env) :: starEach es X.env := by rfl) : DXv X G η (e :: es) (r >>= fun x => rs >>= fun as => pure (.d x :: as)) := by
  refine PA.pre (pa_cons he hr hs) fun σ H Q ⟨B, p, rl, q⟩ => ⟨B, p, rl, q.bind.imp ?_⟩
  rintro v H1 ⟨B1, p1, x, s1, rl1, d1, q1⟩
  refine ⟨B1, p1, rl1, q1.bind.imp ?_⟩
  rintro vs H2 ⟨B2, p2, xs, s2, rl2, d2, q2⟩
  exact q2.lift rl2 (.d (Dt.mono s2 _ _ d1) d2)
theorem dxv_pen {i : Nat} {x : Str} {rs : M (List AV)} (h : PE X (.Name x p1) (tVar i)) (hr : DXv X G η es rs) (hi : η[i]? = some .pen := by rfl) (hs : starEach (.Name x p1 :: es) X.env = (false, eval (.Name x p1) X.env) :: starEach es X.env := by rfl) :
    DXv X G η (.Name x p1 :: es) (rs >>= fun as => pure (.pen :: as)) := by
  refine PA.pre (pa_cons h hr hs) fun σ H Q ⟨B, p, rl, q⟩ => ?_
  obtain ⟨b, e, e2⟩ := rl.sl i _ hi
  refine ⟨.ref b, e, B, p, rl, q.bind.imp ?_⟩
  rintro vs H2 ⟨B2, p2, xs, s2, rl2, d2, q2⟩
  exact q2.lift rl2 (.pen e2 d2)
variable {k : Nat} {f : Addr} {fd : FuncData} {ps : List Str} {x : Str} {m : List AV → M D}
/-- without a pen -/
theorem dx_callC {rs : M (List AV)} (tk : Takes X G.W) (Fk : FnOk X.prog X.w X.K X.mg X.base (L2.CX X.prog X.w) k f fd ps (spD X.K X.mg m)) (hr : Room k X.A) (hg : Gl X x) (hm : X.mg x = some (.ref f)) (hk : PySem.W.keepIn X.K (.ref f) = true) (hb : Binds X.K fd ps [])
    (ha : DXv X G η (e :: es) rs) (np : ∀ p as p', rs p = (R.ok as, p') → .pen ∉ as) (hdb : (x == ("__debug__" : Str)) = false := by decide) (he : starEach (e :: es) X.env = (false, eval e X.env) :: starEach es X.env := by rfl) (hpl : (backTo pos (starEach es X.env)).any (·.1) = false := by rfl) :
    DX X G η (.Call (.Name x p1) (e :: es) [] pos) (rs >>= fun as => M.c (m as)) := by
  refine PE.pre (pe_callS Fk hr hg hm hk hb (passAt tk) ha hdb he hpl) fun σ H Q ⟨B, p, rl, q⟩ => ⟨B, p, rl, ?_⟩
  have np' : ∀ as p', rs p = (R.ok as, p') → .pen ∉ as := np p
  revert q
  rw [M.bind_def]
  cases e1 : rs p with
  | mk r p1 =>
    cases r with
    | ok as =>
      intro q vs H1 B1 s1 rl1 d1
      have noP : .pen ∉ as := np' as p1 e1
      have av : AvAll X.K X.mg B1 none vs as := by
        have go : ∀ {vs : List V} {as : List AV}, AvAll X.K X.mg B1 G.pa vs as → .pen ∉ as → AvAll X.K X.mg B1 none vs as := by
          intro vs as h
          induction h with
          | nil => exact fun _ => .nil
          | d h _ ih => exact fun n => .d h (ih fun z => n (by simp [z]))
          | pen h _ ih => exact fun n => absurd (by simp) n
        exact go d1 noP
      refine ⟨B1, p1, none, as, rl1.sub, rl1.sz, fun a h => (nomatch h), av, ?_⟩
      have q : Post G σ η (rD X.K X.mg) B ((m as p1).1, p1) Q := q
      revert q
      cases (m as p1).1 with
      | ok d => exact fun q v H' B' g dt => q v H' B' (s1.trans g.bb) (rl1.called g) dt
      | err e => exact fun q cls y H' B' g ex => q cls y H' B' (s1.trans g.bb) (rl1.called g) ex
      | bad => exact fun q => q
    | err e => exact fun q => q
    | bad => exact fun q => q
/-- with our pen -/
theorem dx_callP {rs : M (List AV)} (tk : Takes X G.W) (Fk : FnOk X.prog X.w X.K X.mg X.base (L2.CX X.prog X.w) k f fd ps (spD X.K X.mg m)) (hr : Room k X.A) (hg : Gl X x) (hm : X.mg x = some (.ref f)) (hk : PySem.W.keepIn X.K (.ref f) = true) (hb : Binds X.K fd ps [])
    (ha : DXv X G η (e :: es) rs) (hdb : (x == ("__debug__" : Str)) = false := by decide) (he : starEach (e :: es) X.env = (false, eval e X.env) :: starEach es X.env := by rfl) (hpl : (backTo pos (starEach es X.env)).any (·.1) = false := by rfl) :
    DX X G η (.Call (.Name x p1) (e :: es) [] pos) (rs >>= m) := by
  refine PE.pre (pe_callS Fk hr hg hm hk hb (passAt tk) ha hdb he hpl) fun σ H Q ⟨B, p, rl, q⟩ => ⟨B, p, rl, q.bind.imp ?_⟩
  rintro vs H1 ⟨B1, p1, as, s1, rl1, d1, q1⟩
  refine ⟨B1, p1, G.pa, as, rl1.sub, rl1.sz, rl1.pen, d1, ?_⟩
  revert q1
  unfold Post
  cases (m as p1).1 with
  | ok d => exact fun q v H' B' g dt => q v H' B' g.bb (rl1.calledP g) dt
  | err e => exact fun q cls y H' B' g ex => q cls y H' B' g.bb (rl1.calledP g) ex
  | bad => exact fun q => q
end

theorem M.ok_of {α β : Type} {x : M α} {f : α → M β} {p p' : Pen} {b : β} (h : (x >>= f) p = (R.ok b, p')) : ∃ a q, f a q = (R.ok b, p') := by
  rw [M.bind_def] at h
  revert h
  cases x p with
  | mk r q =>
    cases r with
    | ok a => exact fun h => ⟨a, q, h⟩
    | err e => exact fun h => by cases h
    | bad => exact fun h => by cases h

/-! ### by kinds of arguments -/
def w_d (m : D → M D) : List AV → M D
  | [.d x1] => m x1
  | _ => fun p => (.bad, p)
theorem fn_d {x qual : Str} {st : Stmt} {f : Addr} {fd : FuncData} {N ps : List Str} {k : Nat} {m : D → M D} {P : Program} {w : World} {K : PySem.W.Frag} {mg : Str → Option Value} {base : Heap} (F : Fun K x qual st f fd) (S : FnScope N ps (defScope st)) (hp : ps.length = 1 := by rfl) (hN : ps.length ≤ N.length := by decide)
    (hbody : ∀ (cdv : Value) (A : Around) (outer : List Env) (s : Shared) (H : Hp) (E : XK), Room k (A.deeper (envOfC qual (defScope st) s.heap.objs.size f cdv)) → ∀ (G : Gam K mg), Takes (cxOf (L2.CX P w) P w K mg base N qual (defScope st) f cdv A outer s H E) G.W →
      ∀ x1 : D, DB (cxOf (L2.CX P w) P w K mg base N qual (defScope st) f cdv A outer s H E) G ([LV.d x1] ++ List.replicate (N.length - 1) .no) (defBody st) (m x1) Fl.rt) : FnOk P w K mg base (L2.CX P w) (k + 1) f fd ps (spD K mg (w_d m)) := by
  refine fn_ok F S hN (fun as p h => ?_) fun cdv A outer s H E hr G tk as hl => ?_
  · rw [hp] at h
    match as with
    | [] => first | rfl | ( rfl)
    | [a0] => exact absurd rfl h
    | a0 :: a1 :: r => first | rfl | (cases a0 <;> cases a1 <;> rfl)
  · rw [hp] at hl
    match as, hl with
    | [a0], _ =>
      cases a0 <;> first
        | exact hbody cdv A outer s H E hr G tk _
        | exact PSs.pre pss_never fun E σ H ⟨B, p, rl, q⟩ => q

def wN_d {α : Type} (m : D → M (Out α)) : List AV → M (Out α)
  | [.d x1] => m x1
  | _ => fun p => (.bad, p)
theorem fnN_d {α : Type} {η' : α → List LV} {x qual : Str} {st : Stmt} {f : Addr} {fd : FuncData} {N ps : List Str} {k : Nat} {m : D → M (Out α)} {P : Program} {w : World} {K : PySem.W.Frag} {mg : Str → Option Value} {base : Heap} (F : Fun K x qual st f fd) (S : FnScope N ps (defScope st)) (hp : ps.length = 1 := by rfl) (hN : ps.length ≤ N.length := by decide)
    (hbody : ∀ (cdv : Value) (A : Around) (outer : List Env) (s : Shared) (H : Hp) (E : XK), Room k (A.deeper (envOfC qual (defScope st) s.heap.objs.size f cdv)) → ∀ (G : Gam K mg), Takes (cxOf (L2.CX P w) P w K mg base N qual (defScope st) f cdv A outer s H E) G.W →
      ∀ x1 : D, DB (cxOf (L2.CX P w) P w K mg base N qual (defScope st) f cdv A outer s H E) G ([LV.d x1] ++ List.replicate (N.length - 1) .no) (defBody st) (m x1) (outF η')) : FnOk P w K mg base (L2.CX P w) (k + 1) f fd ps (spD K mg (fun as => endM (wN_d m as))) := by
  refine fn_okN (η' := η') F S hN (fun as p h => ?_) fun cdv A outer s H E hr G tk as hl => ?_
  · rw [hp] at h
    match as with
    | [] => first | rfl | ( rfl)
    | [a0] => exact absurd rfl h
    | a0 :: a1 :: r => first | rfl | (cases a0 <;> cases a1 <;> rfl)
  · rw [hp] at hl
    match as, hl with
    | [a0], _ =>
      cases a0 <;> first
        | exact hbody cdv A outer s H E hr G tk _
        | exact PSs.pre pss_never fun E σ H ⟨B, p, rl, q⟩ => q

theorem np_d {r1 : M D} {p p' : Pen} {as : List AV} (h : (r1 >>= fun x1 => pure [AV.d x1] : M (List AV)) p = (R.ok as, p')) : .pen ∉ as := by
  obtain ⟨x1, q1, h⟩ := M.ok_of h
  cases h
  simp

theorem dx_call_d {X : Cx} {G : Gam X.K X.mg} {η : List LV} {pos p1 : Pos} {k : Nat} {f : Addr} {fd : FuncData} {ps : List Str} {x : Str} {m : D → M D} {e1 : Expr} {r1 : M D} (tk : Takes X G.W) (Fk : FnOk X.prog X.w X.K X.mg X.base (L2.CX X.prog X.w) k f fd ps (spD X.K X.mg (w_d m))) (hr : Room k X.A) (hg : Gl X x) (hm : X.mg x = some (.ref f)) (hk : PySem.W.keepIn X.K (.ref f) = true) (hb : Binds X.K fd ps []) (h1 : DX X G η e1 r1) (s0 : starEach [e1] X.env = (false, eval e1 X.env) :: starEach [] X.env := by rfl) (hdb : (x == ("__debug__" : Str)) = false := by decide) (hpl : (backTo pos (starEach [] X.env)).any (·.1) = false := by rfl) :
    DX X G η (.Call (.Name x p1) [e1] [] pos) (r1 >>= fun x1 => M.c (m x1)) := by
  have z := dx_callC (pos := pos) (p1 := p1) tk Fk hr hg hm hk hb (dxv_d h1 dxv_nil s0) (fun p as p' h => ?np) hdb s0 hpl
  case np =>
    revert h
    simp only [M.bind_assoc, M.pure_bind]
    intro h hmem
    exact np_d h hmem
  simp only [M.bind_assoc, M.pure_bind] at z
  exact z

theorem dx_callN_d {α : Type} {X : Cx} {G : Gam X.K X.mg} {η : List LV} {pos p1 : Pos} {k : Nat} {f : Addr} {fd : FuncData} {ps : List Str} {x : Str} {m : D → M (Out α)} {e1 : Expr} {r1 : M D} (tk : Takes X G.W) (Fk : FnOk X.prog X.w X.K X.mg X.base (L2.CX X.prog X.w) k f fd ps (spD X.K X.mg (fun as => endM (wN_d m as)))) (hr : Room k X.A) (hg : Gl X x) (hm : X.mg x = some (.ref f)) (hk : PySem.W.keepIn X.K (.ref f) = true) (hb : Binds X.K fd ps []) (h1 : DX X G η e1 r1) (s0 : starEach [e1] X.env = (false, eval e1 X.env) :: starEach [] X.env := by rfl) (hdb : (x == ("__debug__" : Str)) = false := by decide) (hpl : (backTo pos (starEach [] X.env)).any (·.1) = false := by rfl) :
    DX X G η (.Call (.Name x p1) [e1] [] pos) (r1 >>= fun x1 => M.c (endM (m x1))) := by
  have z := dx_callC (pos := pos) (p1 := p1) tk Fk hr hg hm hk hb (dxv_d h1 dxv_nil s0) (fun p as p' h => ?np) hdb s0 hpl
  case np =>
    revert h
    simp only [M.bind_assoc, M.pure_bind]
    intro h hmem
    exact np_d h hmem
  simp only [M.bind_assoc, M.pure_bind] at z
  exact z

def w_dd (m : D → D → M D) : List AV → M D
  | [.d x1, .d x2] => m x1 x2
  | _ => fun p => (.bad, p)
theorem fn_dd {x qual : Str} {st : Stmt} {f : Addr} {fd : FuncData} {N ps : List Str} {k : Nat} {m : D → D → M D} {P : Program} {w : World} {K : PySem.W.Frag} {mg : Str → Option Value} {base : Heap} (F : Fun K x qual st f fd) (S : FnScope N ps (defScope st)) (hp : ps.length = 2 := by rfl) (hN : ps.length ≤ N.length := by decide)
    (hbody : ∀ (cdv : Value) (A : Around) (outer : List Env) (s : Shared) (H : Hp) (E : XK), Room k (A.deeper (envOfC qual (defScope st) s.heap.objs.size f cdv)) → ∀ (G : Gam K mg), Takes (cxOf (L2.CX P w) P w K mg base N qual (defScope st) f cdv A outer s H E) G.W →
      ∀ x1 x2 : D, DB (cxOf (L2.CX P w) P w K mg base N qual (defScope st) f cdv A outer s H E) G ([LV.d x1, LV.d x2] ++ List.replicate (N.length - 2) .no) (defBody st) (m x1 x2) Fl.rt) : FnOk P w K mg base (L2.CX P w) (k + 1) f fd ps (spD K mg (w_dd m)) := by
  refine fn_ok F S hN (fun as p h => ?_) fun cdv A outer s H E hr G tk as hl => ?_
  · rw [hp] at h
    match as with
    | [] => first | rfl | ( rfl)
    | [a0] => first | rfl | (cases a0 <;> rfl)
    | [a0, a1] => exact absurd rfl h
    | a0 :: a1 :: a2 :: r => first | rfl | (cases a0 <;> cases a1 <;> cases a2 <;> rfl)
  · rw [hp] at hl
    match as, hl with
    | [a0, a1], _ =>
      cases a0 <;> cases a1 <;> first
        | exact hbody cdv A outer s H E hr G tk _ _
        | exact PSs.pre pss_never fun E σ H ⟨B, p, rl, q⟩ => q

def wN_dd {α : Type} (m : D → D → M (Out α)) : List AV → M (Out α)
  | [.d x1, .d x2] => m x1 x2
  | _ => fun p => (.bad, p)
theorem fnN_dd {α : Type} {η' : α → List LV} {x qual : Str} {st : Stmt} {f : Addr} {fd : FuncData} {N ps : List Str} {k : Nat} {m : D → D → M (Out α)} {P : Program} {w : World} {K : PySem.W.Frag} {mg : Str → Option Value} {base : Heap} (F : Fun K x qual st f fd) (S : FnScope N ps (defScope st)) (hp : ps.length = 2 := by rfl) (hN : ps.length ≤ N.length := by decide)
    (hbody : ∀ (cdv : Value) (A : Around) (outer : List Env) (s : Shared) (H : Hp) (E : XK), Room k (A.deeper (envOfC qual (defScope st) s.heap.objs.size f cdv)) → ∀ (G : Gam K mg), Takes (cxOf (L2.CX P w) P w K mg base N qual (defScope st) f cdv A outer s H E) G.W →
      ∀ x1 x2 : D, DB (cxOf (L2.CX P w) P w K mg base N qual (defScope st) f cdv A outer s H E) G ([LV.d x1, LV.d x2] ++ List.replicate (N.length - 2) .no) (defBody st) (m x1 x2) (outF η')) : FnOk P w K mg base (L2.CX P w) (k + 1) f fd ps (spD K mg (fun as => endM (wN_dd m as))) := by
  refine fn_okN (η' := η') F S hN (fun as p h => ?_) fun cdv A outer s H E hr G tk as hl => ?_
  · rw [hp] at h
    match as with
    | [] => first | rfl | ( rfl)
    | [a0] => first | rfl | (cases a0 <;> rfl)
    | [a0, a1] => exact absurd rfl h
    | a0 :: a1 :: a2 :: r => first | rfl | (cases a0 <;> cases a1 <;> cases a2 <;> rfl)
  · rw [hp] at hl
    match as, hl with
    | [a0, a1], _ =>
      cases a0 <;> cases a1 <;> first
        | exact hbody cdv A outer s H E hr G tk _ _
        | exact PSs.pre pss_never fun E σ H ⟨B, p, rl, q⟩ => q

theorem np_dd {r1 : M D} {r2 : M D} {p p' : Pen} {as : List AV} (h : (r1 >>= fun x1 => r2 >>= fun x2 => pure [AV.d x1, AV.d x2] : M (List AV)) p = (R.ok as, p')) : .pen ∉ as := by
  obtain ⟨x1, q1, h⟩ := M.ok_of h
  obtain ⟨x2, q2, h⟩ := M.ok_of h
  cases h
  simp

theorem dx_call_dd {X : Cx} {G : Gam X.K X.mg} {η : List LV} {pos p1 : Pos} {k : Nat} {f : Addr} {fd : FuncData} {ps : List Str} {x : Str} {m : D → D → M D} {e1 : Expr} {e2 : Expr} {r1 : M D} {r2 : M D} (tk : Takes X G.W) (Fk : FnOk X.prog X.w X.K X.mg X.base (L2.CX X.prog X.w) k f fd ps (spD X.K X.mg (w_dd m))) (hr : Room k X.A) (hg : Gl X x) (hm : X.mg x = some (.ref f)) (hk : PySem.W.keepIn X.K (.ref f) = true) (hb : Binds X.K fd ps []) (h1 : DX X G η e1 r1) (h2 : DX X G η e2 r2) (s0 : starEach [e1, e2] X.env = (false, eval e1 X.env) :: starEach [e2] X.env := by rfl) (s1 : starEach [e2] X.env = (false, eval e2 X.env) :: starEach [] X.env := by rfl) (hdb : (x == ("__debug__" : Str)) = false := by decide) (hpl : (backTo pos (starEach [e2] X.env)).any (·.1) = false := by rfl) :
    DX X G η (.Call (.Name x p1) [e1, e2] [] pos) (r1 >>= fun x1 => r2 >>= fun x2 => M.c (m x1 x2)) := by
  have z := dx_callC (pos := pos) (p1 := p1) tk Fk hr hg hm hk hb (dxv_d h1 (dxv_d h2 dxv_nil s1) s0) (fun p as p' h => ?np) hdb s0 hpl
  case np =>
    revert h
    simp only [M.bind_assoc, M.pure_bind]
    intro h hmem
    exact np_dd h hmem
  simp only [M.bind_assoc, M.pure_bind] at z
  exact z

theorem dx_callN_dd {α : Type} {X : Cx} {G : Gam X.K X.mg} {η : List LV} {pos p1 : Pos} {k : Nat} {f : Addr} {fd : FuncData} {ps : List Str} {x : Str} {m : D → D → M (Out α)} {e1 : Expr} {e2 : Expr} {r1 : M D} {r2 : M D} (tk : Takes X G.W) (Fk : FnOk X.prog X.w X.K X.mg X.base (L2.CX X.prog X.w) k f fd ps (spD X.K X.mg (fun as => endM (wN_dd m as)))) (hr : Room k X.A) (hg : Gl X x) (hm : X.mg x = some (.ref f)) (hk : PySem.W.keepIn X.K (.ref f) = true) (hb : Binds X.K fd ps []) (h1 : DX X G η e1 r1) (h2 : DX X G η e2 r2) (s0 : starEach [e1, e2] X.env = (false, eval e1 X.env) :: starEach [e2] X.env := by rfl) (s1 : starEach [e2] X.env = (false, eval e2 X.env) :: starEach [] X.env := by rfl) (hdb : (x == ("__debug__" : Str)) = false := by decide) (hpl : (backTo pos (starEach [e2] X.env)).any (·.1) = false := by rfl) :
    DX X G η (.Call (.Name x p1) [e1, e2] [] pos) (r1 >>= fun x1 => r2 >>= fun x2 => M.c (endM (m x1 x2))) := by
  have z := dx_callC (pos := pos) (p1 := p1) tk Fk hr hg hm hk hb (dxv_d h1 (dxv_d h2 dxv_nil s1) s0) (fun p as p' h => ?np) hdb s0 hpl
  case np =>
    revert h
    simp only [M.bind_assoc, M.pure_bind]
    intro h hmem
    exact np_dd h hmem
  simp only [M.bind_assoc, M.pure_bind] at z
  exact z

def w_ddd (m : D → D → D → M D) : List AV → M D
  | [.d x1, .d x2, .d x3] => m x1 x2 x3
  | _ => fun p => (.bad, p)
theorem fn_ddd {x qual : Str} {st : Stmt} {f : Addr} {fd : FuncData} {N ps : List Str} {k : Nat} {m : D → D → D → M D} {P : Program} {w : World} {K : PySem.W.Frag} {mg : Str → Option Value} {base : Heap} (F : Fun K x qual st f fd) (S : FnScope N ps (defScope st)) (hp : ps.length = 3 := by rfl) (hN : ps.length ≤ N.length := by decide)
    (hbody : ∀ (cdv : Value) (A : Around) (outer : List Env) (s : Shared) (H : Hp) (E : XK), Room k (A.deeper (envOfC qual (defScope st) s.heap.objs.size f cdv)) → ∀ (G : Gam K mg), Takes (cxOf (L2.CX P w) P w K mg base N qual (defScope st) f cdv A outer s H E) G.W →
      ∀ x1 x2 x3 : D, DB (cxOf (L2.CX P w) P w K mg base N qual (defScope st) f cdv A outer s H E) G ([LV.d x1, LV.d x2, LV.d x3] ++ List.replicate (N.length - 3) .no) (defBody st) (m x1 x2 x3) Fl.rt) : FnOk P w K mg base (L2.CX P w) (k + 1) f fd ps (spD K mg (w_ddd m)) := by
  refine fn_ok F S hN (fun as p h => ?_) fun cdv A outer s H E hr G tk as hl => ?_
  · rw [hp] at h
    match as with
    | [] => first | rfl | ( rfl)
    | [a0] => first | rfl | (cases a0 <;> rfl)
    | [a0, a1] => first | rfl | (cases a0 <;> cases a1 <;> rfl)
    | [a0, a1, a2] => exact absurd rfl h
    | a0 :: a1 :: a2 :: a3 :: r => first | rfl | (cases a0 <;> cases a1 <;> cases a2 <;> cases a3 <;> rfl)
  · rw [hp] at hl
    match as, hl with
    | [a0, a1, a2], _ =>
      cases a0 <;> cases a1 <;> cases a2 <;> first
        | exact hbody cdv A outer s H E hr G tk _ _ _
        | exact PSs.pre pss_never fun E σ H ⟨B, p, rl, q⟩ => q

def wN_ddd {α : Type} (m : D → D → D → M (Out α)) : List AV → M (Out α)
  | [.d x1, .d x2, .d x3] => m x1 x2 x3
  | _ => fun p => (.bad, p)
theorem fnN_ddd {α : Type} {η' : α → List LV} {x qual : Str} {st : Stmt} {f : Addr} {fd : FuncData} {N ps : List Str} {k : Nat} {m : D → D → D → M (Out α)} {P : Program} {w : World} {K : PySem.W.Frag} {mg : Str → Option Value} {base : Heap} (F : Fun K x qual st f fd) (S : FnScope N ps (defScope st)) (hp : ps.length = 3 := by rfl) (hN : ps.length ≤ N.length := by decide)
    (hbody : ∀ (cdv : Value) (A : Around) (outer : List Env) (s : Shared) (H : Hp) (E : XK), Room k (A.deeper (envOfC qual (defScope st) s.heap.objs.size f cdv)) → ∀ (G : Gam K mg), Takes (cxOf (L2.CX P w) P w K mg base N qual (defScope st) f cdv A outer s H E) G.W →
      ∀ x1 x2 x3 : D, DB (cxOf (L2.CX P w) P w K mg base N qual (defScope st) f cdv A outer s H E) G ([LV.d x1, LV.d x2, LV.d x3] ++ List.replicate (N.length - 3) .no) (defBody st) (m x1 x2 x3) (outF η')) : FnOk P w K mg base (L2.CX P w) (k + 1) f fd ps (spD K mg (fun as => endM (wN_ddd m as))) := by
  refine fn_okN (η' := η') F S hN (fun as p h => ?_) fun cdv A outer s H E hr G tk as hl => ?_
  · rw [hp] at h
    match as with
    | [] => first | rfl | ( rfl)
    | [a0] => first | rfl | (cases a0 <;> rfl)
    | [a0, a1] => first | rfl | (cases a0 <;> cases a1 <;> rfl)
    | [a0, a1, a2] => exact absurd rfl h
    | a0 :: a1 :: a2 :: a3 :: r => first | rfl | (cases a0 <;> cases a1 <;> cases a2 <;> cases a3 <;> rfl)
  · rw [hp] at hl
    match as, hl with
    | [a0, a1, a2], _ =>
      cases a0 <;> cases a1 <;> cases a2 <;> first
        | exact hbody cdv A outer s H E hr G tk _ _ _
        | exact PSs.pre pss_never fun E σ H ⟨B, p, rl, q⟩ => q

theorem np_ddd {r1 : M D} {r2 : M D} {r3 : M D} {p p' : Pen} {as : List AV} (h : (r1 >>= fun x1 => r2 >>= fun x2 => r3 >>= fun x3 => pure [AV.d x1, AV.d x2, AV.d x3] : M (List AV)) p = (R.ok as, p')) : .pen ∉ as := by
  obtain ⟨x1, q1, h⟩ := M.ok_of h
  obtain ⟨x2, q2, h⟩ := M.ok_of h
  obtain ⟨x3, q3, h⟩ := M.ok_of h
  cases h
  simp

theorem dx_call_ddd {X : Cx} {G : Gam X.K X.mg} {η : List LV} {pos p1 : Pos} {k : Nat} {f : Addr} {fd : FuncData} {ps : List Str} {x : Str} {m : D → D → D → M D} {e1 : Expr} {e2 : Expr} {e3 : Expr} {r1 : M D} {r2 : M D} {r3 : M D} (tk : Takes X G.W) (Fk : FnOk X.prog X.w X.K X.mg X.base (L2.CX X.prog X.w) k f fd ps (spD X.K X.mg (w_ddd m))) (hr : Room k X.A) (hg : Gl X x) (hm : X.mg x = some (.ref f)) (hk : PySem.W.keepIn X.K (.ref f) = true) (hb : Binds X.K fd ps []) (h1 : DX X G η e1 r1) (h2 : DX X G η e2 r2) (h3 : DX X G η e3 r3) (s0 : starEach [e1, e2, e3] X.env = (false, eval e1 X.env) :: starEach [e2, e3] X.env := by rfl) (s1 : starEach [e2, e3] X.env = (false, eval e2 X.env) :: starEach [e3] X.env := by rfl) (s2 : starEach [e3] X.env = (false, eval e3 X.env) :: starEach [] X.env := by rfl) (hdb : (x == ("__debug__" : Str)) = false := by decide) (hpl : (backTo pos (starEach [e2, e3] X.env)).any (·.1) = false := by rfl) :
    DX X G η (.Call (.Name x p1) [e1, e2, e3] [] pos) (r1 >>= fun x1 => r2 >>= fun x2 => r3 >>= fun x3 => M.c (m x1 x2 x3)) := by
  have z := dx_callC (pos := pos) (p1 := p1) tk Fk hr hg hm hk hb (dxv_d h1 (dxv_d h2 (dxv_d h3 dxv_nil s2) s1) s0) (fun p as p' h => ?np) hdb s0 hpl
  case np =>
    revert h
    simp only [M.bind_assoc, M.pure_bind]
    intro h hmem
    exact np_ddd h hmem
  simp only [M.bind_assoc, M.pure_bind] at z
  exact z

theorem dx_callN_ddd {α : Type} {X : Cx} {G : Gam X.K X.mg} {η : List LV} {pos p1 : Pos} {k : Nat} {f : Addr} {fd : FuncData} {ps : List Str} {x : Str} {m : D → D → D → M (Out α)} {e1 : Expr} {e2 : Expr} {e3 : Expr} {r1 : M D} {r2 : M D} {r3 : M D} (tk : Takes X G.W) (Fk : FnOk X.prog X.w X.K X.mg X.base (L2.CX X.prog X.w) k f fd ps (spD X.K X.mg (fun as => endM (wN_ddd m as)))) (hr : Room k X.A) (hg : Gl X x) (hm : X.mg x = some (.ref f)) (hk : PySem.W.keepIn X.K (.ref f) = true) (hb : Binds X.K fd ps []) (h1 : DX X G η e1 r1) (h2 : DX X G η e2 r2) (h3 : DX X G η e3 r3) (s0 : starEach [e1, e2, e3] X.env = (false, eval e1 X.env) :: starEach [e2, e3] X.env := by rfl) (s1 : starEach [e2, e3] X.env = (false, eval e2 X.env) :: starEach [e3] X.env := by rfl) (s2 : starEach [e3] X.env = (false, eval e3 X.env) :: starEach [] X.env := by rfl) (hdb : (x == ("__debug__" : Str)) = false := by decide) (hpl : (backTo pos (starEach [e2, e3] X.env)).any (·.1) = false := by rfl) :
    DX X G η (.Call (.Name x p1) [e1, e2, e3] [] pos) (r1 >>= fun x1 => r2 >>= fun x2 => r3 >>= fun x3 => M.c (endM (m x1 x2 x3))) := by
  have z := dx_callC (pos := pos) (p1 := p1) tk Fk hr hg hm hk hb (dxv_d h1 (dxv_d h2 (dxv_d h3 dxv_nil s2) s1) s0) (fun p as p' h => ?np) hdb s0 hpl
  case np =>
    revert h
    simp only [M.bind_assoc, M.pure_bind]
    intro h hmem
    exact np_ddd h hmem
  simp only [M.bind_assoc, M.pure_bind] at z
  exact z

def w_dddd (m : D → D → D → D → M D) : List AV → M D
  | [.d x1, .d x2, .d x3, .d x4] => m x1 x2 x3 x4
  | _ => fun p => (.bad, p)
theorem fn_dddd {x qual : Str} {st : Stmt} {f : Addr} {fd : FuncData} {N ps : List Str} {k : Nat} {m : D → D → D → D → M D} {P : Program} {w : World} {K : PySem.W.Frag} {mg : Str → Option Value} {base : Heap} (F : Fun K x qual st f fd) (S : FnScope N ps (defScope st)) (hp : ps.length = 4 := by rfl) (hN : ps.length ≤ N.length := by decide)
    (hbody : ∀ (cdv : Value) (A : Around) (outer : List Env) (s : Shared) (H : Hp) (E : XK), Room k (A.deeper (envOfC qual (defScope st) s.heap.objs.size f cdv)) → ∀ (G : Gam K mg), Takes (cxOf (L2.CX P w) P w K mg base N qual (defScope st) f cdv A outer s H E) G.W →
      ∀ x1 x2 x3 x4 : D, DB (cxOf (L2.CX P w) P w K mg base N qual (defScope st) f cdv A outer s H E) G ([LV.d x1, LV.d x2, LV.d x3, LV.d x4] ++ List.replicate (N.length - 4) .no) (defBody st) (m x1 x2 x3 x4) Fl.rt) : FnOk P w K mg base (L2.CX P w) (k + 1) f fd ps (spD K mg (w_dddd m)) := by
  refine fn_ok F S hN (fun as p h => ?_) fun cdv A outer s H E hr G tk as hl => ?_
  · rw [hp] at h
    match as with
    | [] => first | rfl | ( rfl)
    | [a0] => first | rfl | (cases a0 <;> rfl)
    | [a0, a1] => first | rfl | (cases a0 <;> cases a1 <;> rfl)
    | [a0, a1, a2] => first | rfl | (cases a0 <;> cases a1 <;> cases a2 <;> rfl)
    | [a0, a1, a2, a3] => exact absurd rfl h
    | a0 :: a1 :: a2 :: a3 :: a4 :: r => first | rfl | (cases a0 <;> cases a1 <;> cases a2 <;> cases a3 <;> cases a4 <;> rfl)
  · rw [hp] at hl
    match as, hl with
    | [a0, a1, a2, a3], _ =>
      cases a0 <;> cases a1 <;> cases a2 <;> cases a3 <;> first
        | exact hbody cdv A outer s H E hr G tk _ _ _ _
        | exact PSs.pre pss_never fun E σ H ⟨B, p, rl, q⟩ => q

def wN_dddd {α : Type} (m : D → D → D → D → M (Out α)) : List AV → M (Out α)
  | [.d x1, .d x2, .d x3, .d x4] => m x1 x2 x3 x4
  | _ => fun p => (.bad, p)
theorem fnN_dddd {α : Type} {η' : α → List LV} {x qual : Str} {st : Stmt} {f : Addr} {fd : FuncData} {N ps : List Str} {k : Nat} {m : D → D → D → D → M (Out α)} {P : Program} {w : World} {K : PySem.W.Frag} {mg : Str → Option Value} {base : Heap} (F : Fun K x qual st f fd) (S : FnScope N ps (defScope st)) (hp : ps.length = 4 := by rfl) (hN : ps.length ≤ N.length := by decide)
    (hbody : ∀ (cdv : Value) (A : Around) (outer : List Env) (s : Shared) (H : Hp) (E : XK), Room k (A.deeper (envOfC qual (defScope st) s.heap.objs.size f cdv)) → ∀ (G : Gam K mg), Takes (cxOf (L2.CX P w) P w K mg base N qual (defScope st) f cdv A outer s H E) G.W →
      ∀ x1 x2 x3 x4 : D, DB (cxOf (L2.CX P w) P w K mg base N qual (defScope st) f cdv A outer s H E) G ([LV.d x1, LV.d x2, LV.d x3, LV.d x4] ++ List.replicate (N.length - 4) .no) (defBody st) (m x1 x2 x3 x4) (outF η')) : FnOk P w K mg base (L2.CX P w) (k + 1) f fd ps (spD K mg (fun as => endM (wN_dddd m as))) := by
  refine fn_okN (η' := η') F S hN (fun as p h => ?_) fun cdv A outer s H E hr G tk as hl => ?_
  · rw [hp] at h
    match as with
    | [] => first | rfl | ( rfl)
    | [a0] => first | rfl | (cases a0 <;> rfl)
    | [a0, a1] => first | rfl | (cases a0 <;> cases a1 <;> rfl)
    | [a0, a1, a2] => first | rfl | (cases a0 <;> cases a1 <;> cases a2 <;> rfl)
    | [a0, a1, a2, a3] => exact absurd rfl h
    | a0 :: a1 :: a2 :: a3 :: a4 :: r => first | rfl | (cases a0 <;> cases a1 <;> cases a2 <;> cases a3 <;> cases a4 <;> rfl)
  · rw [hp] at hl
    match as, hl with
    | [a0, a1, a2, a3], _ =>
      cases a0 <;> cases a1 <;> cases a2 <;> cases a3 <;> first
        | exact hbody cdv A outer s H E hr G tk _ _ _ _
        | exact PSs.pre pss_never fun E σ H ⟨B, p, rl, q⟩ => q

theorem np_dddd {r1 : M D} {r2 : M D} {r3 : M D} {r4 : M D} {p p' : Pen} {as : List AV} (h : (r1 >>= fun x1 => r2 >>= fun x2 => r3 >>= fun x3 => r4 >>= fun x4 => pure [AV.d x1, AV.d x2, AV.d x3, AV.d x4] : M (List AV)) p = (R.ok as, p')) : .pen ∉ as := by
  obtain ⟨x1, q1, h⟩ := M.ok_of h
  obtain ⟨x2, q2, h⟩ := M.ok_of h
  obtain ⟨x3, q3, h⟩ := M.ok_of h
  obtain ⟨x4, q4, h⟩ := M.ok_of h
  cases h
  simp

theorem dx_call_dddd {X : Cx} {G : Gam X.K X.mg} {η : List LV} {pos p1 : Pos} {k : Nat} {f : Addr} {fd : FuncData} {ps : List Str} {x : Str} {m : D → D → D → D → M D} {e1 : Expr} {e2 : Expr} {e3 : Expr} {e4 : Expr} {r1 : M D} {r2 : M D} {r3 : M D} {r4 : M D} (tk : Takes X G.W) (Fk : FnOk X.prog X.w X.K X.mg X.base (L2.CX X.prog X.w) k f fd ps (spD X.K X.mg (w_dddd m))) (hr : Room k X.A) (hg : Gl X x) (hm : X.mg x = some (.ref f)) (hk : PySem.W.keepIn X.K (.ref f) = true) (hb : Binds X.K fd ps []) (h1 : DX X G η e1 r1) (h2 : DX X G η e2 r2) (h3 : DX X G η e3 r3) (h4 : DX X G η e4 r4) (s0 : starEach [e1, e2, e3, e4] X.env = (false, eval e1 X.env) :: starEach [e2, e3, e4] X.env := by rfl) (s1 : starEach [e2, e3, e4] X.env = (false, eval e2 X.env) :: starEach [e3, e4] X.env := by rfl) (s2 : starEach [e3, e4] X.env = (false, eval e3 X.env) :: starEach [e4] X.env := by rfl) (s3 : starEach [e4] X.env = (false, eval e4 X.env) :: starEach [] X.env := by rfl) (hdb : (x == ("__debug__" : Str)) = false := by decide) (hpl : (backTo pos (starEach [e2, e3, e4] X.env)).any (·.1) = false := by rfl) :
    DX X G η (.Call (.Name x p1) [e1, e2, e3, e4] [] pos) (r1 >>= fun x1 => r2 >>= fun x2 => r3 >>= fun x3 => r4 >>= fun x4 => M.c (m x1 x2 x3 x4)) := by
  have z := dx_callC (pos := pos) (p1 := p1) tk Fk hr hg hm hk hb (dxv_d h1 (dxv_d h2 (dxv_d h3 (dxv_d h4 dxv_nil s3) s2) s1) s0) (fun p as p' h => ?np) hdb s0 hpl
  case np =>
    revert h
    simp only [M.bind_assoc, M.pure_bind]
    intro h hmem
    exact np_dddd h hmem
  simp only [M.bind_assoc, M.pure_bind] at z
  exact z

theorem dx_callN_dddd {α : Type} {X : Cx} {G : Gam X.K X.mg} {η : List LV} {pos p1 : Pos} {k : Nat} {f : Addr} {fd : FuncData} {ps : List Str} {x : Str} {m : D → D → D → D → M (Out α)} {e1 : Expr} {e2 : Expr} {e3 : Expr} {e4 : Expr} {r1 : M D} {r2 : M D} {r3 : M D} {r4 : M D} (tk : Takes X G.W) (Fk : FnOk X.prog X.w X.K X.mg X.base (L2.CX X.prog X.w) k f fd ps (spD X.K X.mg (fun as => endM (wN_dddd m as)))) (hr : Room k X.A) (hg : Gl X x) (hm : X.mg x = some (.ref f)) (hk : PySem.W.keepIn X.K (.ref f) = true) (hb : Binds X.K fd ps []) (h1 : DX X G η e1 r1) (h2 : DX X G η e2 r2) (h3 : DX X G η e3 r3) (h4 : DX X G η e4 r4) (s0 : starEach [e1, e2, e3, e4] X.env = (false, eval e1 X.env) :: starEach [e2, e3, e4] X.env := by rfl) (s1 : starEach [e2, e3, e4] X.env = (false, eval e2 X.env) :: starEach [e3, e4] X.env := by rfl) (s2 : starEach [e3, e4] X.env = (false, eval e3 X.env) :: starEach [e4] X.env := by rfl) (s3 : starEach [e4] X.env = (false, eval e4 X.env) :: starEach [] X.env := by rfl) (hdb : (x == ("__debug__" : Str)) = false := by decide) (hpl : (backTo pos (starEach [e2, e3, e4] X.env)).any (·.1) = false := by rfl) :
    DX X G η (.Call (.Name x p1) [e1, e2, e3, e4] [] pos) (r1 >>= fun x1 => r2 >>= fun x2 => r3 >>= fun x3 => r4 >>= fun x4 => M.c (endM (m x1 x2 x3 x4))) := by
  have z := dx_callC (pos := pos) (p1 := p1) tk Fk hr hg hm hk hb (dxv_d h1 (dxv_d h2 (dxv_d h3 (dxv_d h4 dxv_nil s3) s2) s1) s0) (fun p as p' h => ?np) hdb s0 hpl
  case np =>
    revert h
    simp only [M.bind_assoc, M.pure_bind]
    intro h hmem
    exact np_dddd h hmem
  simp only [M.bind_assoc, M.pure_bind] at z
  exact z

def w_ddddd (m : D → D → D → D → D → M D) : List AV → M D
  | [.d x1, .d x2, .d x3, .d x4, .d x5] => m x1 x2 x3 x4 x5
  | _ => fun p => (.bad, p)
theorem fn_ddddd {x qual : Str} {st : Stmt} {f : Addr} {fd : FuncData} {N ps : List Str} {k : Nat} {m : D → D → D → D → D → M D} {P : Program} {w : World} {K : PySem.W.Frag} {mg : Str → Option Value} {base : Heap} (F : Fun K x qual st f fd) (S : FnScope N ps (defScope st)) (hp : ps.length = 5 := by rfl) (hN : ps.length ≤ N.length := by decide)
    (hbody : ∀ (cdv : Value) (A : Around) (outer : List Env) (s : Shared) (H : Hp) (E : XK), Room k (A.deeper (envOfC qual (defScope st) s.heap.objs.size f cdv)) → ∀ (G : Gam K mg), Takes (cxOf (L2.CX P w) P w K mg base N qual (defScope st) f cdv A outer s H E) G.W →
      ∀ x1 x2 x3 x4 x5 : D, DB (cxOf (L2.CX P w) P w K mg base N qual (defScope st) f cdv A outer s H E) G ([LV.d x1, LV.d x2, LV.d x3, LV.d x4, LV.d x5] ++ List.replicate (N.length - 5) .no) (defBody st) (m x1 x2 x3 x4 x5) Fl.rt) : FnOk P w K mg base (L2.CX P w) (k + 1) f fd ps (spD K mg (w_ddddd m)) := by
  refine fn_ok F S hN (fun as p h => ?_) fun cdv A outer s H E hr G tk as hl => ?_
  · rw [hp] at h
    match as with
    | [] => first | rfl | ( rfl)
    | [a0] => first | rfl | (cases a0 <;> rfl)
    | [a0, a1] => first | rfl | (cases a0 <;> cases a1 <;> rfl)
    | [a0, a1, a2] => first | rfl | (cases a0 <;> cases a1 <;> cases a2 <;> rfl)
    | [a0, a1, a2, a3] => first | rfl | (cases a0 <;> cases a1 <;> cases a2 <;> cases a3 <;> rfl)
    | [a0, a1, a2, a3, a4] => exact absurd rfl h
    | a0 :: a1 :: a2 :: a3 :: a4 :: a5 :: r => first | rfl | (cases a0 <;> cases a1 <;> cases a2 <;> cases a3 <;> cases a4 <;> cases a5 <;> rfl)
  · rw [hp] at hl
    match as, hl with
    | [a0, a1, a2, a3, a4], _ =>
      cases a0 <;> cases a1 <;> cases a2 <;> cases a3 <;> cases a4 <;> first
        | exact hbody cdv A outer s H E hr G tk _ _ _ _ _
        | exact PSs.pre pss_never fun E σ H ⟨B, p, rl, q⟩ => q

def wN_ddddd {α : Type} (m : D → D → D → D → D → M (Out α)) : List AV → M (Out α)
  | [.d x1, .d x2, .d x3, .d x4, .d x5] => m x1 x2 x3 x4 x5
  | _ => fun p => (.bad, p)
theorem fnN_ddddd {α : Type} {η' : α → List LV} {x qual : Str} {st : Stmt} {f : Addr} {fd : FuncData} {N ps : List Str} {k : Nat} {m : D → D → D → D → D → M (Out α)} {P : Program} {w : World} {K : PySem.W.Frag} {mg : Str → Option Value} {base : Heap} (F : Fun K x qual st f fd) (S : FnScope N ps (defScope st)) (hp : ps.length = 5 := by rfl) (hN : ps.length ≤ N.length := by decide)
    (hbody : ∀ (cdv : Value) (A : Around) (outer : List Env) (s : Shared) (H : Hp) (E : XK), Room k (A.deeper (envOfC qual (defScope st) s.heap.objs.size f cdv)) → ∀ (G : Gam K mg), Takes (cxOf (L2.CX P w) P w K mg base N qual (defScope st) f cdv A outer s H E) G.W →
      ∀ x1 x2 x3 x4 x5 : D, DB (cxOf (L2.CX P w) P w K mg base N qual (defScope st) f cdv A outer s H E) G ([LV.d x1, LV.d x2, LV.d x3, LV.d x4, LV.d x5] ++ List.replicate (N.length - 5) .no) (defBody st) (m x1 x2 x3 x4 x5) (outF η')) : FnOk P w K mg base (L2.CX P w) (k + 1) f fd ps (spD K mg (fun as => endM (wN_ddddd m as))) := by
  refine fn_okN (η' := η') F S hN (fun as p h => ?_) fun cdv A outer s H E hr G tk as hl => ?_
  · rw [hp] at h
    match as with
    | [] => first | rfl | ( rfl)
    | [a0] => first | rfl | (cases a0 <;> rfl)
    | [a0, a1] => first | rfl | (cases a0 <;> cases a1 <;> rfl)
    | [a0, a1, a2] => first | rfl | (cases a0 <;> cases a1 <;> cases a2 <;> rfl)
    | [a0, a1, a2, a3] => first | rfl | (cases a0 <;> cases a1 <;> cases a2 <;> cases a3 <;> rfl)
    | [a0, a1, a2, a3, a4] => exact absurd rfl h
    | a0 :: a1 :: a2 :: a3 :: a4 :: a5 :: r => first | rfl | (cases a0 <;> cases a1 <;> cases a2 <;> cases a3 <;> cases a4 <;> cases a5 <;> rfl)
  · rw [hp] at hl
    match as, hl with
    | [a0, a1, a2, a3, a4], _ =>
      cases a0 <;> cases a1 <;> cases a2 <;> cases a3 <;> cases a4 <;> first
        | exact hbody cdv A outer s H E hr G tk _ _ _ _ _
        | exact PSs.pre pss_never fun E σ H ⟨B, p, rl, q⟩ => q

theorem np_ddddd {r1 : M D} {r2 : M D} {r3 : M D} {r4 : M D} {r5 : M D} {p p' : Pen} {as : List AV} (h : (r1 >>= fun x1 => r2 >>= fun x2 => r3 >>= fun x3 => r4 >>= fun x4 => r5 >>= fun x5 => pure [AV.d x1, AV.d x2, AV.d x3, AV.d x4, AV.d x5] : M (List AV)) p = (R.ok as, p')) : .pen ∉ as := by
  obtain ⟨x1, q1, h⟩ := M.ok_of h
  obtain ⟨x2, q2, h⟩ := M.ok_of h
  obtain ⟨x3, q3, h⟩ := M.ok_of h
  obtain ⟨x4, q4, h⟩ := M.ok_of h
  obtain ⟨x5, q5, h⟩ := M.ok_of h
  cases h
  simp

theorem dx_call_ddddd {X : Cx} {G : Gam X.K X.mg} {η : List LV} {pos p1 : Pos} {k : Nat} {f : Addr} {fd : FuncData} {ps : List Str} {x : Str} {m : D → D → D → D → D → M D} {e1 : Expr} {e2 : Expr} {e3 : Expr} {e4 : Expr} {e5 : Expr} {r1 : M D} {r2 : M D} {r3 : M D} {r4 : M D} {r5 : M D} (tk : Takes X G.W) (Fk : FnOk X.prog X.w X.K X.mg X.base (L2.CX X.prog X.w) k f fd ps (spD X.K X.mg (w_ddddd m))) (hr : Room k X.A) (hg : Gl X x) (hm : X.mg x = some (.ref f)) (hk : PySem.W.keepIn X.K (.ref f) = true) (hb : Binds X.K fd ps []) (h1 : DX X G η e1 r1) (h2 : DX X G η e2 r2) (h3 : DX X G η e3 r3) (h4 : DX X G η e4 r4) (h5 : DX X G η e5 r5) (s0 : starEach [e1, e2, e3, e4, e5] X.env = (false, eval e1 X.env) :: starEach [e2, e3, e4, e5] X.env := by rfl) (s1 : starEach [e2, e3, e4, e5] X.env = (false, eval e2 X.env) :: starEach [e3, e4, e5] X.env := by rfl) (s2 : starEach [e3, e4, e5] X.env = (false, eval e3 X.env) :: starEach [e4, e5] X.env := by rfl) (s3 : starEach [e4, e5] X.env = (false, eval e4 X.env) :: starEach [e5] X.env := by rfl) (s4 : starEach [e5] X.env = (false, eval e5 X.env) :: starEach [] X.env := by rfl) (hdb : (x == ("__debug__" : Str)) = false := by decide) (hpl : (backTo pos (starEach [e2, e3, e4, e5] X.env)).any (·.1) = false := by rfl) :
    DX X G η (.Call (.Name x p1) [e1, e2, e3, e4, e5] [] pos) (r1 >>= fun x1 => r2 >>= fun x2 => r3 >>= fun x3 => r4 >>= fun x4 => r5 >>= fun x5 => M.c (m x1 x2 x3 x4 x5)) := by
  have z := dx_callC (pos := pos) (p1 := p1) tk Fk hr hg hm hk hb (dxv_d h1 (dxv_d h2 (dxv_d h3 (dxv_d h4 (dxv_d h5 dxv_nil s4) s3) s2) s1) s0) (fun p as p' h => ?np) hdb s0 hpl
  case np =>
    revert h
    simp only [M.bind_assoc, M.pure_bind]
    intro h hmem
    exact np_ddddd h hmem
  simp only [M.bind_assoc, M.pure_bind] at z
  exact z

theorem dx_callN_ddddd {α : Type} {X : Cx} {G : Gam X.K X.mg} {η : List LV} {pos p1 : Pos} {k : Nat} {f : Addr} {fd : FuncData} {ps : List Str} {x : Str} {m : D → D → D → D → D → M (Out α)} {e1 : Expr} {e2 : Expr} {e3 : Expr} {e4 : Expr} {e5 : Expr} {r1 : M D} {r2 : M D} {r3 : M D} {r4 : M D} {r5 : M D} (tk : Takes X G.W) (Fk : FnOk X.prog X.w X.K X.mg X.base (L2.CX X.prog X.w) k f fd ps (spD X.K X.mg (fun as => endM (wN_ddddd m as)))) (hr : Room k X.A) (hg : Gl X x) (hm : X.mg x = some (.ref f)) (hk : PySem.W.keepIn X.K (.ref f) = true) (hb : Binds X.K fd ps []) (h1 : DX X G η e1 r1) (h2 : DX X G η e2 r2) (h3 : DX X G η e3 r3) (h4 : DX X G η e4 r4) (h5 : DX X G η e5 r5) (s0 : starEach [e1, e2, e3, e4, e5] X.env = (false, eval e1 X.env) :: starEach [e2, e3, e4, e5] X.env := by rfl) (s1 : starEach [e2, e3, e4, e5] X.env = (false, eval e2 X.env) :: starEach [e3, e4, e5] X.env := by rfl) (s2 : starEach [e3, e4, e5] X.env = (false, eval e3 X.env) :: starEach [e4, e5] X.env := by rfl) (s3 : starEach [e4, e5] X.env = (false, eval e4 X.env) :: starEach [e5] X.env := by rfl) (s4 : starEach [e5] X.env = (false, eval e5 X.env) :: starEach [] X.env := by rfl) (hdb : (x == ("__debug__" : Str)) = false := by decide) (hpl : (backTo pos (starEach [e2, e3, e4, e5] X.env)).any (·.1) = false := by rfl) :
    DX X G η (.Call (.Name x p1) [e1, e2, e3, e4, e5] [] pos) (r1 >>= fun x1 => r2 >>= fun x2 => r3 >>= fun x3 => r4 >>= fun x4 => r5 >>= fun x5 => M.c (endM (m x1 x2 x3 x4 x5))) := by
  have z := dx_callC (pos := pos) (p1 := p1) tk Fk hr hg hm hk hb (dxv_d h1 (dxv_d h2 (dxv_d h3 (dxv_d h4 (dxv_d h5 dxv_nil s4) s3) s2) s1) s0) (fun p as p' h => ?np) hdb s0 hpl
  case np =>
    revert h
    simp only [M.bind_assoc, M.pure_bind]
    intro h hmem
    exact np_ddddd h hmem
  simp only [M.bind_assoc, M.pure_bind] at z
  exact z

def w_p (m : M D) : List AV → M D
  | [.pen] => m
  | _ => fun p => (.bad, p)
theorem fn_p {x qual : Str} {st : Stmt} {f : Addr} {fd : FuncData} {N ps : List Str} {k : Nat} {m : M D} {P : Program} {w : World} {K : PySem.W.Frag} {mg : Str → Option Value} {base : Heap} (F : Fun K x qual st f fd) (S : FnScope N ps (defScope st)) (hp : ps.length = 1 := by rfl) (hN : ps.length ≤ N.length := by decide)
    (hbody : ∀ (cdv : Value) (A : Around) (outer : List Env) (s : Shared) (H : Hp) (E : XK), Room k (A.deeper (envOfC qual (defScope st) s.heap.objs.size f cdv)) → ∀ (G : Gam K mg), Takes (cxOf (L2.CX P w) P w K mg base N qual (defScope st) f cdv A outer s H E) G.W →
      DB (cxOf (L2.CX P w) P w K mg base N qual (defScope st) f cdv A outer s H E) G ([LV.pen] ++ List.replicate (N.length - 1) .no) (defBody st) (m) Fl.rt) : FnOk P w K mg base (L2.CX P w) (k + 1) f fd ps (spD K mg (w_p m)) := by
  refine fn_ok F S hN (fun as p h => ?_) fun cdv A outer s H E hr G tk as hl => ?_
  · rw [hp] at h
    match as with
    | [] => first | rfl | ( rfl)
    | [a0] => exact absurd rfl h
    | a0 :: a1 :: r => first | rfl | (cases a0 <;> cases a1 <;> rfl)
  · rw [hp] at hl
    match as, hl with
    | [a0], _ =>
      cases a0 <;> first
        | exact hbody cdv A outer s H E hr G tk
        | exact PSs.pre pss_never fun E σ H ⟨B, p, rl, q⟩ => q

def wN_p {α : Type} (m : M (Out α)) : List AV → M (Out α)
  | [.pen] => m
  | _ => fun p => (.bad, p)
theorem fnN_p {α : Type} {η' : α → List LV} {x qual : Str} {st : Stmt} {f : Addr} {fd : FuncData} {N ps : List Str} {k : Nat} {m : M (Out α)} {P : Program} {w : World} {K : PySem.W.Frag} {mg : Str → Option Value} {base : Heap} (F : Fun K x qual st f fd) (S : FnScope N ps (defScope st)) (hp : ps.length = 1 := by rfl) (hN : ps.length ≤ N.length := by decide)
    (hbody : ∀ (cdv : Value) (A : Around) (outer : List Env) (s : Shared) (H : Hp) (E : XK), Room k (A.deeper (envOfC qual (defScope st) s.heap.objs.size f cdv)) → ∀ (G : Gam K mg), Takes (cxOf (L2.CX P w) P w K mg base N qual (defScope st) f cdv A outer s H E) G.W →
      DB (cxOf (L2.CX P w) P w K mg base N qual (defScope st) f cdv A outer s H E) G ([LV.pen] ++ List.replicate (N.length - 1) .no) (defBody st) (m) (outF η')) : FnOk P w K mg base (L2.CX P w) (k + 1) f fd ps (spD K mg (fun as => endM (wN_p m as))) := by
  refine fn_okN (η' := η') F S hN (fun as p h => ?_) fun cdv A outer s H E hr G tk as hl => ?_
  · rw [hp] at h
    match as with
    | [] => first | rfl | ( rfl)
    | [a0] => exact absurd rfl h
    | a0 :: a1 :: r => first | rfl | (cases a0 <;> cases a1 <;> rfl)
  · rw [hp] at hl
    match as, hl with
    | [a0], _ =>
      cases a0 <;> first
        | exact hbody cdv A outer s H E hr G tk
        | exact PSs.pre pss_never fun E σ H ⟨B, p, rl, q⟩ => q

theorem dx_call_p {X : Cx} {G : Gam X.K X.mg} {η : List LV} {pos p1 p2 : Pos} {k : Nat} {f : Addr} {fd : FuncData} {ps : List Str} {x : Str} {m : M D}   {y : Str} {iy : Nat} (hy : PE X (.Name y p2) (tVar iy)) (tk : Takes X G.W) (Fk : FnOk X.prog X.w X.K X.mg X.base (L2.CX X.prog X.w) k f fd ps (spD X.K X.mg (w_p m))) (hr : Room k X.A) (hg : Gl X x) (hm : X.mg x = some (.ref f)) (hk : PySem.W.keepIn X.K (.ref f) = true) (hb : Binds X.K fd ps [])  (hyp : η[iy]? = some .pen := by rfl) (s0 : starEach [.Name y p2] X.env = (false, eval (.Name y p2) X.env) :: starEach [] X.env := by rfl) (hdb : (x == ("__debug__" : Str)) = false := by decide) (hpl : (backTo pos (starEach [] X.env)).any (·.1) = false := by rfl) :
    DX X G η (.Call (.Name x p1) [.Name y p2] [] pos) (m) := by
  have z := dx_callP (pos := pos) (p1 := p1) tk Fk hr hg hm hk hb (dxv_pen hy dxv_nil hyp s0) hdb s0 hpl
  simp only [M.bind_assoc, M.pure_bind] at z
  exact z

def w_pd (m : D → M D) : List AV → M D
  | [.pen, .d x1] => m x1
  | _ => fun p => (.bad, p)
theorem fn_pd {x qual : Str} {st : Stmt} {f : Addr} {fd : FuncData} {N ps : List Str} {k : Nat} {m : D → M D} {P : Program} {w : World} {K : PySem.W.Frag} {mg : Str → Option Value} {base : Heap} (F : Fun K x qual st f fd) (S : FnScope N ps (defScope st)) (hp : ps.length = 2 := by rfl) (hN : ps.length ≤ N.length := by decide)
    (hbody : ∀ (cdv : Value) (A : Around) (outer : List Env) (s : Shared) (H : Hp) (E : XK), Room k (A.deeper (envOfC qual (defScope st) s.heap.objs.size f cdv)) → ∀ (G : Gam K mg), Takes (cxOf (L2.CX P w) P w K mg base N qual (defScope st) f cdv A outer s H E) G.W →
      ∀ x1 : D, DB (cxOf (L2.CX P w) P w K mg base N qual (defScope st) f cdv A outer s H E) G ([LV.pen, LV.d x1] ++ List.replicate (N.length - 2) .no) (defBody st) (m x1) Fl.rt) : FnOk P w K mg base (L2.CX P w) (k + 1) f fd ps (spD K mg (w_pd m)) := by
  refine fn_ok F S hN (fun as p h => ?_) fun cdv A outer s H E hr G tk as hl => ?_
  · rw [hp] at h
    match as with
    | [] => first | rfl | ( rfl)
    | [a0] => first | rfl | (cases a0 <;> rfl)
    | [a0, a1] => exact absurd rfl h
    | a0 :: a1 :: a2 :: r => first | rfl | (cases a0 <;> cases a1 <;> cases a2 <;> rfl)
  · rw [hp] at hl
    match as, hl with
    | [a0, a1], _ =>
      cases a0 <;> cases a1 <;> first
        | exact hbody cdv A outer s H E hr G tk _
        | exact PSs.pre pss_never fun E σ H ⟨B, p, rl, q⟩ => q

def wN_pd {α : Type} (m : D → M (Out α)) : List AV → M (Out α)
  | [.pen, .d x1] => m x1
  | _ => fun p => (.bad, p)
theorem fnN_pd {α : Type} {η' : α → List LV} {x qual : Str} {st : Stmt} {f : Addr} {fd : FuncData} {N ps : List Str} {k : Nat} {m : D → M (Out α)} {P : Program} {w : World} {K : PySem.W.Frag} {mg : Str → Option Value} {base : Heap} (F : Fun K x qual st f fd) (S : FnScope N ps (defScope st)) (hp : ps.length = 2 := by rfl) (hN : ps.length ≤ N.length := by decide)
    (hbody : ∀ (cdv : Value) (A : Around) (outer : List Env) (s : Shared) (H : Hp) (E : XK), Room k (A.deeper (envOfC qual (defScope st) s.heap.objs.size f cdv)) → ∀ (G : Gam K mg), Takes (cxOf (L2.CX P w) P w K mg base N qual (defScope st) f cdv A outer s H E) G.W →
      ∀ x1 : D, DB (cxOf (L2.CX P w) P w K mg base N qual (defScope st) f cdv A outer s H E) G ([LV.pen, LV.d x1] ++ List.replicate (N.length - 2) .no) (defBody st) (m x1) (outF η')) : FnOk P w K mg base (L2.CX P w) (k + 1) f fd ps (spD K mg (fun as => endM (wN_pd m as))) := by
  refine fn_okN (η' := η') F S hN (fun as p h => ?_) fun cdv A outer s H E hr G tk as hl => ?_
  · rw [hp] at h
    match as with
    | [] => first | rfl | ( rfl)
    | [a0] => first | rfl | (cases a0 <;> rfl)
    | [a0, a1] => exact absurd rfl h
    | a0 :: a1 :: a2 :: r => first | rfl | (cases a0 <;> cases a1 <;> cases a2 <;> rfl)
  · rw [hp] at hl
    match as, hl with
    | [a0, a1], _ =>
      cases a0 <;> cases a1 <;> first
        | exact hbody cdv A outer s H E hr G tk _
        | exact PSs.pre pss_never fun E σ H ⟨B, p, rl, q⟩ => q

theorem dx_call_pd {X : Cx} {G : Gam X.K X.mg} {η : List LV} {pos p1 p2 : Pos} {k : Nat} {f : Addr} {fd : FuncData} {ps : List Str} {x : Str} {m : D → M D} {e1 : Expr} {r1 : M D} {y : Str} {iy : Nat} (hy : PE X (.Name y p2) (tVar iy)) (tk : Takes X G.W) (Fk : FnOk X.prog X.w X.K X.mg X.base (L2.CX X.prog X.w) k f fd ps (spD X.K X.mg (w_pd m))) (hr : Room k X.A) (hg : Gl X x) (hm : X.mg x = some (.ref f)) (hk : PySem.W.keepIn X.K (.ref f) = true) (hb : Binds X.K fd ps []) (h1 : DX X G η e1 r1) (hyp : η[iy]? = some .pen := by rfl) (s0 : starEach [.Name y p2, e1] X.env = (false, eval (.Name y p2) X.env) :: starEach [e1] X.env := by rfl) (s1 : starEach [e1] X.env = (false, eval e1 X.env) :: starEach [] X.env := by rfl) (hdb : (x == ("__debug__" : Str)) = false := by decide) (hpl : (backTo pos (starEach [e1] X.env)).any (·.1) = false := by rfl) :
    DX X G η (.Call (.Name x p1) [.Name y p2, e1] [] pos) (r1 >>= fun x1 => m x1) := by
  have z := dx_callP (pos := pos) (p1 := p1) tk Fk hr hg hm hk hb (dxv_pen hy (dxv_d h1 dxv_nil s1) hyp s0) hdb s0 hpl
  simp only [M.bind_assoc, M.pure_bind] at z
  exact z

def w_pdd (m : D → D → M D) : List AV → M D
  | [.pen, .d x1, .d x2] => m x1 x2
  | _ => fun p => (.bad, p)
theorem fn_pdd {x qual : Str} {st : Stmt} {f : Addr} {fd : FuncData} {N ps : List Str} {k : Nat} {m : D → D → M D} {P : Program} {w : World} {K : PySem.W.Frag} {mg : Str → Option Value} {base : Heap} (F : Fun K x qual st f fd) (S : FnScope N ps (defScope st)) (hp : ps.length = 3 := by rfl) (hN : ps.length ≤ N.length := by decide)
    (hbody : ∀ (cdv : Value) (A : Around) (outer : List Env) (s : Shared) (H : Hp) (E : XK), Room k (A.deeper (envOfC qual (defScope st) s.heap.objs.size f cdv)) → ∀ (G : Gam K mg), Takes (cxOf (L2.CX P w) P w K mg base N qual (defScope st) f cdv A outer s H E) G.W →
      ∀ x1 x2 : D, DB (cxOf (L2.CX P w) P w K mg base N qual (defScope st) f cdv A outer s H E) G ([LV.pen, LV.d x1, LV.d x2] ++ List.replicate (N.length - 3) .no) (defBody st) (m x1 x2) Fl.rt) : FnOk P w K mg base (L2.CX P w) (k + 1) f fd ps (spD K mg (w_pdd m)) := by
  refine fn_ok F S hN (fun as p h => ?_) fun cdv A outer s H E hr G tk as hl => ?_
  · rw [hp] at h
    match as with
    | [] => first | rfl | ( rfl)
    | [a0] => first | rfl | (cases a0 <;> rfl)
    | [a0, a1] => first | rfl | (cases a0 <;> cases a1 <;> rfl)
    | [a0, a1, a2] => exact absurd rfl h
    | a0 :: a1 :: a2 :: a3 :: r => first | rfl | (cases a0 <;> cases a1 <;> cases a2 <;> cases a3 <;> rfl)
  · rw [hp] at hl
    match as, hl with
    | [a0, a1, a2], _ =>
      cases a0 <;> cases a1 <;> cases a2 <;> first
        | exact hbody cdv A outer s H E hr G tk _ _
        | exact PSs.pre pss_never fun E σ H ⟨B, p, rl, q⟩ => q

def wN_pdd {α : Type} (m : D → D → M (Out α)) : List AV → M (Out α)
  | [.pen, .d x1, .d x2] => m x1 x2
  | _ => fun p => (.bad, p)
theorem fnN_pdd {α : Type} {η' : α → List LV} {x qual : Str} {st : Stmt} {f : Addr} {fd : FuncData} {N ps : List Str} {k : Nat} {m : D → D → M (Out α)} {P : Program} {w : World} {K : PySem.W.Frag} {mg : Str → Option Value} {base : Heap} (F : Fun K x qual st f fd) (S : FnScope N ps (defScope st)) (hp : ps.length = 3 := by rfl) (hN : ps.length ≤ N.length := by decide)
    (hbody : ∀ (cdv : Value) (A : Around) (outer : List Env) (s : Shared) (H : Hp) (E : XK), Room k (A.deeper (envOfC qual (defScope st) s.heap.objs.size f cdv)) → ∀ (G : Gam K mg), Takes (cxOf (L2.CX P w) P w K mg base N qual (defScope st) f cdv A outer s H E) G.W →
      ∀ x1 x2 : D, DB (cxOf (L2.CX P w) P w K mg base N qual (defScope st) f cdv A outer s H E) G ([LV.pen, LV.d x1, LV.d x2] ++ List.replicate (N.length - 3) .no) (defBody st) (m x1 x2) (outF η')) : FnOk P w K mg base (L2.CX P w) (k + 1) f fd ps (spD K mg (fun as => endM (wN_pdd m as))) := by
  refine fn_okN (η' := η') F S hN (fun as p h => ?_) fun cdv A outer s H E hr G tk as hl => ?_
  · rw [hp] at h
    match as with
    | [] => first | rfl | ( rfl)
    | [a0] => first | rfl | (cases a0 <;> rfl)
    | [a0, a1] => first | rfl | (cases a0 <;> cases a1 <;> rfl)
    | [a0, a1, a2] => exact absurd rfl h
    | a0 :: a1 :: a2 :: a3 :: r => first | rfl | (cases a0 <;> cases a1 <;> cases a2 <;> cases a3 <;> rfl)
  · rw [hp] at hl
    match as, hl with
    | [a0, a1, a2], _ =>
      cases a0 <;> cases a1 <;> cases a2 <;> first
        | exact hbody cdv A outer s H E hr G tk _ _
        | exact PSs.pre pss_never fun E σ H ⟨B, p, rl, q⟩ => q

theorem dx_call_pdd {X : Cx} {G : Gam X.K X.mg} {η : List LV} {pos p1 p2 : Pos} {k : Nat} {f : Addr} {fd : FuncData} {ps : List Str} {x : Str} {m : D → D → M D} {e1 : Expr} {e2 : Expr} {r1 : M D} {r2 : M D} {y : Str} {iy : Nat} (hy : PE X (.Name y p2) (tVar iy)) (tk : Takes X G.W) (Fk : FnOk X.prog X.w X.K X.mg X.base (L2.CX X.prog X.w) k f fd ps (spD X.K X.mg (w_pdd m))) (hr : Room k X.A) (hg : Gl X x) (hm : X.mg x = some (.ref f)) (hk : PySem.W.keepIn X.K (.ref f) = true) (hb : Binds X.K fd ps []) (h1 : DX X G η e1 r1) (h2 : DX X G η e2 r2) (hyp : η[iy]? = some .pen := by rfl) (s0 : starEach [.Name y p2, e1, e2] X.env = (false, eval (.Name y p2) X.env) :: starEach [e1, e2] X.env := by rfl) (s1 : starEach [e1, e2] X.env = (false, eval e1 X.env) :: starEach [e2] X.env := by rfl) (s2 : starEach [e2] X.env = (false, eval e2 X.env) :: starEach [] X.env := by rfl) (hdb : (x == ("__debug__" : Str)) = false := by decide) (hpl : (backTo pos (starEach [e1, e2] X.env)).any (·.1) = false := by rfl) :
    DX X G η (.Call (.Name x p1) [.Name y p2, e1, e2] [] pos) (r1 >>= fun x1 => r2 >>= fun x2 => m x1 x2) := by
  have z := dx_callP (pos := pos) (p1 := p1) tk Fk hr hg hm hk hb (dxv_pen hy (dxv_d h1 (dxv_d h2 dxv_nil s2) s1) hyp s0) hdb s0 hpl
  simp only [M.bind_assoc, M.pure_bind] at z
  exact z

def w_pddd (m : D → D → D → M D) : List AV → M D
  | [.pen, .d x1, .d x2, .d x3] => m x1 x2 x3
  | _ => fun p => (.bad, p)
theorem fn_pddd {x qual : Str} {st : Stmt} {f : Addr} {fd : FuncData} {N ps : List Str} {k : Nat} {m : D → D → D → M D} {P : Program} {w : World} {K : PySem.W.Frag} {mg : Str → Option Value} {base : Heap} (F : Fun K x qual st f fd) (S : FnScope N ps (defScope st)) (hp : ps.length = 4 := by rfl) (hN : ps.length ≤ N.length := by decide)
    (hbody : ∀ (cdv : Value) (A : Around) (outer : List Env) (s : Shared) (H : Hp) (E : XK), Room k (A.deeper (envOfC qual (defScope st) s.heap.objs.size f cdv)) → ∀ (G : Gam K mg), Takes (cxOf (L2.CX P w) P w K mg base N qual (defScope st) f cdv A outer s H E) G.W →
      ∀ x1 x2 x3 : D, DB (cxOf (L2.CX P w) P w K mg base N qual (defScope st) f cdv A outer s H E) G ([LV.pen, LV.d x1, LV.d x2, LV.d x3] ++ List.replicate (N.length - 4) .no) (defBody st) (m x1 x2 x3) Fl.rt) : FnOk P w K mg base (L2.CX P w) (k + 1) f fd ps (spD K mg (w_pddd m)) := by
  refine fn_ok F S hN (fun as p h => ?_) fun cdv A outer s H E hr G tk as hl => ?_
  · rw [hp] at h
    match as with
    | [] => first | rfl | ( rfl)
    | [a0] => first | rfl | (cases a0 <;> rfl)
    | [a0, a1] => first | rfl | (cases a0 <;> cases a1 <;> rfl)
    | [a0, a1, a2] => first | rfl | (cases a0 <;> cases a1 <;> cases a2 <;> rfl)
    | [a0, a1, a2, a3] => exact absurd rfl h
    | a0 :: a1 :: a2 :: a3 :: a4 :: r => first | rfl | (cases a0 <;> cases a1 <;> cases a2 <;> cases a3 <;> cases a4 <;> rfl)
  · rw [hp] at hl
    match as, hl with
    | [a0, a1, a2, a3], _ =>
      cases a0 <;> cases a1 <;> cases a2 <;> cases a3 <;> first
        | exact hbody cdv A outer s H E hr G tk _ _ _
        | exact PSs.pre pss_never fun E σ H ⟨B, p, rl, q⟩ => q

def wN_pddd {α : Type} (m : D → D → D → M (Out α)) : List AV → M (Out α)
  | [.pen, .d x1, .d x2, .d x3] => m x1 x2 x3
  | _ => fun p => (.bad, p)
theorem fnN_pddd {α : Type} {η' : α → List LV} {x qual : Str} {st : Stmt} {f : Addr} {fd : FuncData} {N ps : List Str} {k : Nat} {m : D → D → D → M (Out α)} {P : Program} {w : World} {K : PySem.W.Frag} {mg : Str → Option Value} {base : Heap} (F : Fun K x qual st f fd) (S : FnScope N ps (defScope st)) (hp : ps.length = 4 := by rfl) (hN : ps.length ≤ N.length := by decide)
    (hbody : ∀ (cdv : Value) (A : Around) (outer : List Env) (s : Shared) (H : Hp) (E : XK), Room k (A.deeper (envOfC qual (defScope st) s.heap.objs.size f cdv)) → ∀ (G : Gam K mg), Takes (cxOf (L2.CX P w) P w K mg base N qual (defScope st) f cdv A outer s H E) G.W →
      ∀ x1 x2 x3 : D, DB (cxOf (L2.CX P w) P w K mg base N qual (defScope st) f cdv A outer s H E) G ([LV.pen, LV.d x1, LV.d x2, LV.d x3] ++ List.replicate (N.length - 4) .no) (defBody st) (m x1 x2 x3) (outF η')) : FnOk P w K mg base (L2.CX P w) (k + 1) f fd ps (spD K mg (fun as => endM (wN_pddd m as))) := by
  refine fn_okN (η' := η') F S hN (fun as p h => ?_) fun cdv A outer s H E hr G tk as hl => ?_
  · rw [hp] at h
    match as with
    | [] => first | rfl | ( rfl)
    | [a0] => first | rfl | (cases a0 <;> rfl)
    | [a0, a1] => first | rfl | (cases a0 <;> cases a1 <;> rfl)
    | [a0, a1, a2] => first | rfl | (cases a0 <;> cases a1 <;> cases a2 <;> rfl)
    | [a0, a1, a2, a3] => exact absurd rfl h
    | a0 :: a1 :: a2 :: a3 :: a4 :: r => first | rfl | (cases a0 <;> cases a1 <;> cases a2 <;> cases a3 <;> cases a4 <;> rfl)
  · rw [hp] at hl
    match as, hl with
    | [a0, a1, a2, a3], _ =>
      cases a0 <;> cases a1 <;> cases a2 <;> cases a3 <;> first
        | exact hbody cdv A outer s H E hr G tk _ _ _
        | exact PSs.pre pss_never fun E σ H ⟨B, p, rl, q⟩ => q

theorem dx_call_pddd {X : Cx} {G : Gam X.K X.mg} {η : List LV} {pos p1 p2 : Pos} {k : Nat} {f : Addr} {fd : FuncData} {ps : List Str} {x : Str} {m : D → D → D → M D} {e1 : Expr} {e2 : Expr} {e3 : Expr} {r1 : M D} {r2 : M D} {r3 : M D} {y : Str} {iy : Nat} (hy : PE X (.Name y p2) (tVar iy)) (tk : Takes X G.W) (Fk : FnOk X.prog X.w X.K X.mg X.base (L2.CX X.prog X.w) k f fd ps (spD X.K X.mg (w_pddd m))) (hr : Room k X.A) (hg : Gl X x) (hm : X.mg x = some (.ref f)) (hk : PySem.W.keepIn X.K (.ref f) = true) (hb : Binds X.K fd ps []) (h1 : DX X G η e1 r1) (h2 : DX X G η e2 r2) (h3 : DX X G η e3 r3) (hyp : η[iy]? = some .pen := by rfl) (s0 : starEach [.Name y p2, e1, e2, e3] X.env = (false, eval (.Name y p2) X.env) :: starEach [e1, e2, e3] X.env := by rfl) (s1 : starEach [e1, e2, e3] X.env = (false, eval e1 X.env) :: starEach [e2, e3] X.env := by rfl) (s2 : starEach [e2, e3] X.env = (false, eval e2 X.env) :: starEach [e3] X.env := by rfl) (s3 : starEach [e3] X.env = (false, eval e3 X.env) :: starEach [] X.env := by rfl) (hdb : (x == ("__debug__" : Str)) = false := by decide) (hpl : (backTo pos (starEach [e1, e2, e3] X.env)).any (·.1) = false := by rfl) :
    DX X G η (.Call (.Name x p1) [.Name y p2, e1, e2, e3] [] pos) (r1 >>= fun x1 => r2 >>= fun x2 => r3 >>= fun x3 => m x1 x2 x3) := by
  have z := dx_callP (pos := pos) (p1 := p1) tk Fk hr hg hm hk hb (dxv_pen hy (dxv_d h1 (dxv_d h2 (dxv_d h3 dxv_nil s3) s2) s1) hyp s0) hdb s0 hpl
  simp only [M.bind_assoc, M.pure_bind] at z
  exact z

def w_pdddd (m : D → D → D → D → M D) : List AV → M D
  | [.pen, .d x1, .d x2, .d x3, .d x4] => m x1 x2 x3 x4
  | _ => fun p => (.bad, p)
theorem fn_pdddd {x qual : Str} {st : Stmt} {f : Addr} {fd : FuncData} {N ps : List Str} {k : Nat} {m : D → D → D → D → M D} {P : Program} {w : World} {K : PySem.W.Frag} {mg : Str → Option Value} {base : Heap} (F : Fun K x qual st f fd) (S : FnScope N ps (defScope st)) (hp : ps.length = 5 := by rfl) (hN : ps.length ≤ N.length := by decide)
    (hbody : ∀ (cdv : Value) (A : Around) (outer : List Env) (s : Shared) (H : Hp) (E : XK), Room k (A.deeper (envOfC qual (defScope st) s.heap.objs.size f cdv)) → ∀ (G : Gam K mg), Takes (cxOf (L2.CX P w) P w K mg base N qual (defScope st) f cdv A outer s H E) G.W →
      ∀ x1 x2 x3 x4 : D, DB (cxOf (L2.CX P w) P w K mg base N qual (defScope st) f cdv A outer s H E) G ([LV.pen, LV.d x1, LV.d x2, LV.d x3, LV.d x4] ++ List.replicate (N.length - 5) .no) (defBody st) (m x1 x2 x3 x4) Fl.rt) : FnOk P w K mg base (L2.CX P w) (k + 1) f fd ps (spD K mg (w_pdddd m)) := by
  refine fn_ok F S hN (fun as p h => ?_) fun cdv A outer s H E hr G tk as hl => ?_
  · rw [hp] at h
    match as with
    | [] => first | rfl | ( rfl)
    | [a0] => first | rfl | (cases a0 <;> rfl)
    | [a0, a1] => first | rfl | (cases a0 <;> cases a1 <;> rfl)
    | [a0, a1, a2] => first | rfl | (cases a0 <;> cases a1 <;> cases a2 <;> rfl)
    | [a0, a1, a2, a3] => first | rfl | (cases a0 <;> cases a1 <;> cases a2 <;> cases a3 <;> rfl)
    | [a0, a1, a2, a3, a4] => exact absurd rfl h
    | a0 :: a1 :: a2 :: a3 :: a4 :: a5 :: r => first | rfl | (cases a0 <;> cases a1 <;> cases a2 <;> cases a3 <;> cases a4 <;> cases a5 <;> rfl)
  · rw [hp] at hl
    match as, hl with
    | [a0, a1, a2, a3, a4], _ =>
      cases a0 <;> cases a1 <;> cases a2 <;> cases a3 <;> cases a4 <;> first
        | exact hbody cdv A outer s H E hr G tk _ _ _ _
        | exact PSs.pre pss_never fun E σ H ⟨B, p, rl, q⟩ => q

def wN_pdddd {α : Type} (m : D → D → D → D → M (Out α)) : List AV → M (Out α)
  | [.pen, .d x1, .d x2, .d x3, .d x4] => m x1 x2 x3 x4
  | _ => fun p => (.bad, p)
theorem fnN_pdddd {α : Type} {η' : α → List LV} {x qual : Str} {st : Stmt} {f : Addr} {fd : FuncData} {N ps : List Str} {k : Nat} {m : D → D → D → D → M (Out α)} {P : Program} {w : World} {K : PySem.W.Frag} {mg : Str → Option Value} {base : Heap} (F : Fun K x qual st f fd) (S : FnScope N ps (defScope st)) (hp : ps.length = 5 := by rfl) (hN : ps.length ≤ N.length := by decide)
    (hbody : ∀ (cdv : Value) (A : Around) (outer : List Env) (s : Shared) (H : Hp) (E : XK), Room k (A.deeper (envOfC qual (defScope st) s.heap.objs.size f cdv)) → ∀ (G : Gam K mg), Takes (cxOf (L2.CX P w) P w K mg base N qual (defScope st) f cdv A outer s H E) G.W →
      ∀ x1 x2 x3 x4 : D, DB (cxOf (L2.CX P w) P w K mg base N qual (defScope st) f cdv A outer s H E) G ([LV.pen, LV.d x1, LV.d x2, LV.d x3, LV.d x4] ++ List.replicate (N.length - 5) .no) (defBody st) (m x1 x2 x3 x4) (outF η')) : FnOk P w K mg base (L2.CX P w) (k + 1) f fd ps (spD K mg (fun as => endM (wN_pdddd m as))) := by
  refine fn_okN (η' := η') F S hN (fun as p h => ?_) fun cdv A outer s H E hr G tk as hl => ?_
  · rw [hp] at h
    match as with
    | [] => first | rfl | ( rfl)
    | [a0] => first | rfl | (cases a0 <;> rfl)
    | [a0, a1] => first | rfl | (cases a0 <;> cases a1 <;> rfl)
    | [a0, a1, a2] => first | rfl | (cases a0 <;> cases a1 <;> cases a2 <;> rfl)
    | [a0, a1, a2, a3] => first | rfl | (cases a0 <;> cases a1 <;> cases a2 <;> cases a3 <;> rfl)
    | [a0, a1, a2, a3, a4] => exact absurd rfl h
    | a0 :: a1 :: a2 :: a3 :: a4 :: a5 :: r => first | rfl | (cases a0 <;> cases a1 <;> cases a2 <;> cases a3 <;> cases a4 <;> cases a5 <;> rfl)
  · rw [hp] at hl
    match as, hl with
    | [a0, a1, a2, a3, a4], _ =>
      cases a0 <;> cases a1 <;> cases a2 <;> cases a3 <;> cases a4 <;> first
        | exact hbody cdv A outer s H E hr G tk _ _ _ _
        | exact PSs.pre pss_never fun E σ H ⟨B, p, rl, q⟩ => q

theorem dx_call_pdddd {X : Cx} {G : Gam X.K X.mg} {η : List LV} {pos p1 p2 : Pos} {k : Nat} {f : Addr} {fd : FuncData} {ps : List Str} {x : Str} {m : D → D → D → D → M D} {e1 : Expr} {e2 : Expr} {e3 : Expr} {e4 : Expr} {r1 : M D} {r2 : M D} {r3 : M D} {r4 : M D} {y : Str} {iy : Nat} (hy : PE X (.Name y p2) (tVar iy)) (tk : Takes X G.W) (Fk : FnOk X.prog X.w X.K X.mg X.base (L2.CX X.prog X.w) k f fd ps (spD X.K X.mg (w_pdddd m))) (hr : Room k X.A) (hg : Gl X x) (hm : X.mg x = some (.ref f)) (hk : PySem.W.keepIn X.K (.ref f) = true) (hb : Binds X.K fd ps []) (h1 : DX X G η e1 r1) (h2 : DX X G η e2 r2) (h3 : DX X G η e3 r3) (h4 : DX X G η e4 r4) (hyp : η[iy]? = some .pen := by rfl) (s0 : starEach [.Name y p2, e1, e2, e3, e4] X.env = (false, eval (.Name y p2) X.env) :: starEach [e1, e2, e3, e4] X.env := by rfl) (s1 : starEach [e1, e2, e3, e4] X.env = (false, eval e1 X.env) :: starEach [e2, e3, e4] X.env := by rfl) (s2 : starEach [e2, e3, e4] X.env = (false, eval e2 X.env) :: starEach [e3, e4] X.env := by rfl) (s3 : starEach [e3, e4] X.env = (false, eval e3 X.env) :: starEach [e4] X.env := by rfl) (s4 : starEach [e4] X.env = (false, eval e4 X.env) :: starEach [] X.env := by rfl) (hdb : (x == ("__debug__" : Str)) = false := by decide) (hpl : (backTo pos (starEach [e1, e2, e3, e4] X.env)).any (·.1) = false := by rfl) :
    DX X G η (.Call (.Name x p1) [.Name y p2, e1, e2, e3, e4] [] pos) (r1 >>= fun x1 => r2 >>= fun x2 => r3 >>= fun x3 => r4 >>= fun x4 => m x1 x2 x3 x4) := by
  have z := dx_callP (pos := pos) (p1 := p1) tk Fk hr hg hm hk hb (dxv_pen hy (dxv_d h1 (dxv_d h2 (dxv_d h3 (dxv_d h4 dxv_nil s4) s3) s2) s1) hyp s0) hdb s0 hpl
  simp only [M.bind_assoc, M.pure_bind] at z
  exact z

def w_pddddd (m : D → D → D → D → D → M D) : List AV → M D
  | [.pen, .d x1, .d x2, .d x3, .d x4, .d x5] => m x1 x2 x3 x4 x5
  | _ => fun p => (.bad, p)
theorem fn_pddddd {x qual : Str} {st : Stmt} {f : Addr} {fd : FuncData} {N ps : List Str} {k : Nat} {m : D → D → D → D → D → M D} {P : Program} {w : World} {K : PySem.W.Frag} {mg : Str → Option Value} {base : Heap} (F : Fun K x qual st f fd) (S : FnScope N ps (defScope st)) (hp : ps.length = 6 := by rfl) (hN : ps.length ≤ N.length := by decide)
    (hbody : ∀ (cdv : Value) (A : Around) (outer : List Env) (s : Shared) (H : Hp) (E : XK), Room k (A.deeper (envOfC qual (defScope st) s.heap.objs.size f cdv)) → ∀ (G : Gam K mg), Takes (cxOf (L2.CX P w) P w K mg base N qual (defScope st) f cdv A outer s H E) G.W →
      ∀ x1 x2 x3 x4 x5 : D, DB (cxOf (L2.CX P w) P w K mg base N qual (defScope st) f cdv A outer s H E) G ([LV.pen, LV.d x1, LV.d x2, LV.d x3, LV.d x4, LV.d x5] ++ List.replicate (N.length - 6) .no) (defBody st) (m x1 x2 x3 x4 x5) Fl.rt) : FnOk P w K mg base (L2.CX P w) (k + 1) f fd ps (spD K mg (w_pddddd m)) := by
  refine fn_ok F S hN (fun as p h => ?_) fun cdv A outer s H E hr G tk as hl => ?_
  · rw [hp] at h
    match as with
    | [] => first | rfl | ( rfl)
    | [a0] => first | rfl | (cases a0 <;> rfl)
    | [a0, a1] => first | rfl | (cases a0 <;> cases a1 <;> rfl)
    | [a0, a1, a2] => first | rfl | (cases a0 <;> cases a1 <;> cases a2 <;> rfl)
    | [a0, a1, a2, a3] => first | rfl | (cases a0 <;> cases a1 <;> cases a2 <;> cases a3 <;> rfl)
    | [a0, a1, a2, a3, a4] => first | rfl | (cases a0 <;> cases a1 <;> cases a2 <;> cases a3 <;> cases a4 <;> rfl)
    | [a0, a1, a2, a3, a4, a5] => exact absurd rfl h
    | a0 :: a1 :: a2 :: a3 :: a4 :: a5 :: a6 :: r => first | rfl | (cases a0 <;> cases a1 <;> cases a2 <;> cases a3 <;> cases a4 <;> cases a5 <;> cases a6 <;> rfl)
  · rw [hp] at hl
    match as, hl with
    | [a0, a1, a2, a3, a4, a5], _ =>
      cases a0 <;> cases a1 <;> cases a2 <;> cases a3 <;> cases a4 <;> cases a5 <;> first
        | exact hbody cdv A outer s H E hr G tk _ _ _ _ _
        | exact PSs.pre pss_never fun E σ H ⟨B, p, rl, q⟩ => q

def wN_pddddd {α : Type} (m : D → D → D → D → D → M (Out α)) : List AV → M (Out α)
  | [.pen, .d x1, .d x2, .d x3, .d x4, .d x5] => m x1 x2 x3 x4 x5
  | _ => fun p => (.bad, p)
theorem fnN_pddddd {α : Type} {η' : α → List LV} {x qual : Str} {st : Stmt} {f : Addr} {fd : FuncData} {N ps : List Str} {k : Nat} {m : D → D → D → D → D → M (Out α)} {P : Program} {w : World} {K : PySem.W.Frag} {mg : Str → Option Value} {base : Heap} (F : Fun K x qual st f fd) (S : FnScope N ps (defScope st)) (hp : ps.length = 6 := by rfl) (hN : ps.length ≤ N.length := by decide)
    (hbody : ∀ (cdv : Value) (A : Around) (outer : List Env) (s : Shared) (H : Hp) (E : XK), Room k (A.deeper (envOfC qual (defScope st) s.heap.objs.size f cdv)) → ∀ (G : Gam K mg), Takes (cxOf (L2.CX P w) P w K mg base N qual (defScope st) f cdv A outer s H E) G.W →
      ∀ x1 x2 x3 x4 x5 : D, DB (cxOf (L2.CX P w) P w K mg base N qual (defScope st) f cdv A outer s H E) G ([LV.pen, LV.d x1, LV.d x2, LV.d x3, LV.d x4, LV.d x5] ++ List.replicate (N.length - 6) .no) (defBody st) (m x1 x2 x3 x4 x5) (outF η')) : FnOk P w K mg base (L2.CX P w) (k + 1) f fd ps (spD K mg (fun as => endM (wN_pddddd m as))) := by
  refine fn_okN (η' := η') F S hN (fun as p h => ?_) fun cdv A outer s H E hr G tk as hl => ?_
  · rw [hp] at h
    match as with
    | [] => first | rfl | ( rfl)
    | [a0] => first | rfl | (cases a0 <;> rfl)
    | [a0, a1] => first | rfl | (cases a0 <;> cases a1 <;> rfl)
    | [a0, a1, a2] => first | rfl | (cases a0 <;> cases a1 <;> cases a2 <;> rfl)
    | [a0, a1, a2, a3] => first | rfl | (cases a0 <;> cases a1 <;> cases a2 <;> cases a3 <;> rfl)
    | [a0, a1, a2, a3, a4] => first | rfl | (cases a0 <;> cases a1 <;> cases a2 <;> cases a3 <;> cases a4 <;> rfl)
    | [a0, a1, a2, a3, a4, a5] => exact absurd rfl h
    | a0 :: a1 :: a2 :: a3 :: a4 :: a5 :: a6 :: r => first | rfl | (cases a0 <;> cases a1 <;> cases a2 <;> cases a3 <;> cases a4 <;> cases a5 <;> cases a6 <;> rfl)
  · rw [hp] at hl
    match as, hl with
    | [a0, a1, a2, a3, a4, a5], _ =>
      cases a0 <;> cases a1 <;> cases a2 <;> cases a3 <;> cases a4 <;> cases a5 <;> first
        | exact hbody cdv A outer s H E hr G tk _ _ _ _ _
        | exact PSs.pre pss_never fun E σ H ⟨B, p, rl, q⟩ => q

theorem dx_call_pddddd {X : Cx} {G : Gam X.K X.mg} {η : List LV} {pos p1 p2 : Pos} {k : Nat} {f : Addr} {fd : FuncData} {ps : List Str} {x : Str} {m : D → D → D → D → D → M D} {e1 : Expr} {e2 : Expr} {e3 : Expr} {e4 : Expr} {e5 : Expr} {r1 : M D} {r2 : M D} {r3 : M D} {r4 : M D} {r5 : M D} {y : Str} {iy : Nat} (hy : PE X (.Name y p2) (tVar iy)) (tk : Takes X G.W) (Fk : FnOk X.prog X.w X.K X.mg X.base (L2.CX X.prog X.w) k f fd ps (spD X.K X.mg (w_pddddd m))) (hr : Room k X.A) (hg : Gl X x) (hm : X.mg x = some (.ref f)) (hk : PySem.W.keepIn X.K (.ref f) = true) (hb : Binds X.K fd ps []) (h1 : DX X G η e1 r1) (h2 : DX X G η e2 r2) (h3 : DX X G η e3 r3) (h4 : DX X G η e4 r4) (h5 : DX X G η e5 r5) (hyp : η[iy]? = some .pen := by rfl) (s0 : starEach [.Name y p2, e1, e2, e3, e4, e5] X.env = (false, eval (.Name y p2) X.env) :: starEach [e1, e2, e3, e4, e5] X.env := by rfl) (s1 : starEach [e1, e2, e3, e4, e5] X.env = (false, eval e1 X.env) :: starEach [e2, e3, e4, e5] X.env := by rfl) (s2 : starEach [e2, e3, e4, e5] X.env = (false, eval e2 X.env) :: starEach [e3, e4, e5] X.env := by rfl) (s3 : starEach [e3, e4, e5] X.env = (false, eval e3 X.env) :: starEach [e4, e5] X.env := by rfl) (s4 : starEach [e4, e5] X.env = (false, eval e4 X.env) :: starEach [e5] X.env := by rfl) (s5 : starEach [e5] X.env = (false, eval e5 X.env) :: starEach [] X.env := by rfl) (hdb : (x == ("__debug__" : Str)) = false := by decide) (hpl : (backTo pos (starEach [e1, e2, e3, e4, e5] X.env)).any (·.1) = false := by rfl) :
    DX X G η (.Call (.Name x p1) [.Name y p2, e1, e2, e3, e4, e5] [] pos) (r1 >>= fun x1 => r2 >>= fun x2 => r3 >>= fun x3 => r4 >>= fun x4 => r5 >>= fun x5 => m x1 x2 x3 x4 x5) := by
  have z := dx_callP (pos := pos) (p1 := p1) tk Fk hr hg hm hk hb (dxv_pen hy (dxv_d h1 (dxv_d h2 (dxv_d h3 (dxv_d h4 (dxv_d h5 dxv_nil s5) s4) s3) s2) s1) hyp s0) hdb s0 hpl
  simp only [M.bind_assoc, M.pure_bind] at z
  exact z

end L2.Ly

set_option Elab.async false
set_option linter.all false
set_option maxRecDepth 100000
set_option maxHeartbeats 4000000
/-! Ly10: lists that a slot owns and changes; more built-ins. -/
namespace L2.Ly
open PySem PySem.Spec PyProof.Rows

theorem Rel.setOwn {K : PySem.W.Frag} {mg : Str → Option Value} {G : Gam K mg} {H B : Hp} {σ : St} {η : List LV} {p : Pen} {l : Addr} {us : List V} {xs : List D} {i : Nat} (r : Rel G H B σ η p) (o : Own σ η i l) (hz : us.length ≤ sizeLine) (d : DtAll K mg B us xs) :
    Rel G (L2.upd H l (.lst us)) B σ (η.set i (.ml xs)) p := by
  obtain ⟨f1, f2, f3, f4⟩ := r.fresh i l o
  have hi : i < η.length := by
    obtain ⟨_, lv, h, _⟩ := o
    exact (List.getElem?_eq_some_iff.mp h).1
  have back : ∀ {j a}, Own σ (η.set i (.ml xs)) j a → Own σ η j a := fun {j a} q => by
    by_cases hij : j = i
    · subst hij
      obtain ⟨h1, _⟩ := q
      obtain ⟨k1, k2⟩ := o
      rw [h1] at k1
      exact ⟨h1, k2⟩
    · obtain ⟨h1, lv, h2, h3⟩ := q
      rw [List.getElem?_set_ne (Ne.symm hij)] at h2
      exact ⟨h1, lv, h2, h3⟩
  refine ⟨by simp [r.len], fun b u e => ?_, r.sz, fun b u e n => ?_, fun b e => ?_, fun j lv e => ?_, fun j k a o1 o2 => r.dj j k a (back o1) (back o2), fun b h => ⟨(r.nf b h).1, ?_⟩, fun j a q => r.fresh j a (back q)⟩
  · rw [upd_ne (by rintro rfl; rw [f2] at e; cases e)]
    exact r.sub b u e
  · rw [upd_ne (by rintro rfl; rw [f1] at e; cases e)]
    exact r.fr b u e n
  · obtain ⟨c, k1, k2, k3⟩ := r.pen b e
    exact ⟨c, by rw [upd_ne (by rintro rfl; exact f3 e)]; exact k1, k2, k3⟩
  · by_cases hij : j = i
    · subst hij
      rw [List.getElem?_set_self hi] at e
      cases e
      exact ⟨l, us, o.1, upd_same, hz, d⟩
    · rw [List.getElem?_set_ne (Ne.symm hij)] at e
      refine (r.sl j lv e).mono (Same.refl _) fun b ho hv => ?_
      rw [upd_ne]
      rintro rfl
      exact hij (r.dj j i b ⟨hv, lv, e, ho⟩ o)
  · obtain ⟨u, q⟩ := (r.nf b h).2
    exact ⟨u, by rw [upd_ne (by rintro rfl; exact f4 h)]; exact q⟩

def push (xs : List D) (d : D) : R (List D) := if xs.length < sizeLine then .ok (xs ++ [d]) else .bad
def popAt (xs : List D) (k : D) : R (D × List D) := match k with
  | .int n => match ixN xs.length n with
    | some j => match xs[j]? with
      | some d => .ok (d, xs.eraseIdx j)
      | none => .bad
    | none => .bad
  | _ => .bad
def setAt (xs : List D) (k d : D) : R (List D) := match k with
  | .int n => match ixN xs.length n with
    | some j => .ok (xs.set j d)
    | none => .bad
  | _ => .bad
def insAt (xs : List D) (k d : D) : R (List D) := match k with
  | .int n => if 0 ≤ n ∧ n < 2 ^ 63 ∧ xs.length < sizeLine then .ok (xs.take n.toNat ++ [d] ++ xs.drop n.toNat) else .bad
  | _ => .bad
def ixL (xs : List D) (k : D) : R D := match k with
  | .int n => match atI xs n with
    | some d => .ok d
    | none => .bad
  | _ => .bad

section
variable {X : Cx} {G : Gam X.K X.mg} {η : List LV} {β : Type} {I : β → Fl} {e a b : Expr} {rest : List Stmt} {pos p1 p2 p3 p4 : Pos} {x : Str} {i : Nat} {xs : List D}
theorem tyV_own {H : Hp} {l : Addr} {us : List V} (h : H l = some (.lst us)) : tyV X.K "list" (.ref l) H := .inl ⟨rfl, _, SqL.of h⟩

/-! ### reading an owned list -/
theorem dx_lenO (hg : Gl X "len") (hm : X.mg "len" = none) (h : PE X (.Name x p1) (tVar i)) (hi : η[i]? = some (.ml xs) := by rfl) (hs : starEach [.Name x p1] X.env = (false, eval (.Name x p1) X.env) :: starEach [] X.env := by rfl) :
    DX X G η (.Call (.Name "len" p2) [.Name x p1] [] pos) (pure (.int xs.length)) := by
  refine PE.pre (pe_callB call_len hg hm (by decide +kernel) (pa_cons h pa_nil hs) (by decide) (by decide) hs (by cases pos; rfl)) fun σ H Q ⟨B, p, rl, q⟩ => ?_
  obtain ⟨l, us, e1, h1, hz, d⟩ := rl.sl i _ hi
  exact ⟨.ref l, e1, .ref l, us.length, rfl, .inl ⟨us, SqL.of h1, rfl⟩, q.lift rl (by rw [d.length]; exact .int _)⟩
theorem dx_ixO {rb : M D} (h : PE X (.Name x p1) (tVar i)) (hb : DX X G η b rb) (hi : η[i]? = some (.ml xs) := by rfl) (hs : PlainIx b := by intro _ _; rfl) : DX X G η (.Subscript (.Name x p1) b pos) (rb >>= fun k => M.lift (ixL xs k)) := by
  refine PE.pre (pe_ix ix_list h hb hs) fun σ H Q ⟨B, p, rl, q⟩ => ?_
  obtain ⟨l, us, e1, h1, hz, d⟩ := rl.sl i _ hi
  refine ⟨.ref l, e1, B, p, rl, q.bind.imp ?_⟩
  rintro w H2 ⟨B2, p2, y, s2, rl2, d2, q2⟩
  obtain ⟨l', us', e1', h1', hz', d'⟩ := rl2.sl i _ hi
  rw [e1] at e1'
  cases e1'
  cases d2 with
  | int n =>
    have q2 : Post G σ η (rD X.K X.mg) B2 ((match atI xs n with | some d => R.ok d | none => R.bad), p2) Q := q2
    cases e3 : atI xs n with
    | none => rw [e3] at q2; exact q2.elim
    | some y =>
      rw [e3] at q2
      obtain ⟨v, e4, d3⟩ := atI_dt d' e3
      exact ⟨l, us', n, v, rfl, rfl, SqL.of h1', e4, q2.lift rl2 d3⟩
  | _ => exact q2.elim

/-! ### expressions that change an owned list -/
def PostM {K : PySem.W.Frag} {mg : Str → Option Value} (G : Gam K mg) (σ : St) (η : List LV) (i : Nat) (B : Hp) (res : R (D × List D) × Pen) (Q : VK) : Prop := match res.1 with
  | .ok y => ∀ v H' B', Same B B' → Rel G H' B' σ (η.set i (.ml y.2)) res.2 → Dt K mg B' v y.1 → Q v H'
  | .err e => ∀ cls y H' B', Same B B' → Rel G H' B' σ η res.2 → ExR G H' B' e cls y → G.W cls y σ H'
  | .bad => False
theorem PostM.mono {K : PySem.W.Frag} {mg : Str → Option Value} {G : Gam K mg} {σ : St} {η : List LV} {i : Nat} {B B' : Hp} {res : R (D × List D) × Pen} {Q : VK} (s : Same B B') (h : PostM G σ η i B res Q) : PostM G σ η i B' res Q := by
  obtain ⟨r, p'⟩ := res
  cases r with
  | ok a => exact fun v H' B'' s' => h v H' B'' (s.trans s')
  | err e => exact fun cls x H' B'' s' => h cls x H' B'' (s.trans s')
  | bad => exact h
theorem PostM.bind {K : PySem.W.Frag} {mg : Str → Option Value} {G : Gam K mg} {σ : St} {η : List LV} {i : Nat} {B : Hp} {p : Pen} {Q : VK} {α δ : Type} {rep : Hp → Hp → δ → α → Prop} {x : M α} {f : α → M (D × List D)} (h : PostM G σ η i B ((x >>= f) p) Q) :
    Post G σ η rep B (x p) (fun v H' => ∃ B' p' a, Same B B' ∧ Rel G H' B' σ η p' ∧ rep B' H' v a ∧ PostM G σ η i B' (f a p') Q) := by
  rw [M.bind_def] at h
  revert h
  cases x p with
  | mk r p' =>
    cases r with
    | ok a => exact fun h v H' B' s' r' q => ⟨B', p', a, s', r', q, h.mono s'⟩
    | err e => exact fun h => h
    | bad => exact fun h => h
def tXm {K : PySem.W.Frag} {mg : Str → Option Value} (G : Gam K mg) (η : List LV) (i : Nat) (r : M (D × List D)) : TE := fun σ H Q => ∃ B p, Rel G H B σ η p ∧ PostM G σ η i B (r p) Q
/-- gives a value, and leaves ys at the slot i -/
def DXm (X : Cx) (G : Gam X.K X.mg) (η : List LV) (i : Nat) (e : Expr) (r : M (D × List D)) : Prop := PE X e (tXm G η i r)
theorem dxm_pop {re : M D} (h : PE X (.Name x p1) (tVar i)) (he : DX X G η e re) (hi : η[i]? = some (.ml xs) := by rfl) (hbase : attributeBase (.Name x p1) "pop" X.env (eval (.Name x p1) X.env) = eval (.Name x p1) X.env := by rfl)
    (hfew : ((backTo pos (starEach [e] X.env)).all (fun x => !x.1) && (backToKw pos (keywordEach [] X.env)).all (fun x => x.1.isSome) && decide ([e].length + ([] : List Keyword).length + (if ([] : List Keyword).isEmpty then 0 else 1) < 30)) = true := by rfl)
    (hline : (p2.endLine == pos.line) = true := by rfl) (hs : starEach [e] X.env = (false, eval e X.env) :: starEach [] X.env := by rfl) :
    DXm X G η i (.Call (.Attribute (.Name x p1) "pop" p2) [e] [] pos) (re >>= fun k => M.lift (popAt xs k)) := by
  refine PE.pre (pe_bm PySem.F.plainAttrs_list PySem.F.slot_list_pop PySem.F.type_list_pop mt_popAt h (dxa_one he hs) hbase hfew hline hs (by cases pos; rfl)) fun σ H Q ⟨B, p, rl, q⟩ => ?_
  obtain ⟨l, us, e1, h1, hz, d⟩ := rl.sl i _ hi
  refine ⟨.ref l, e1, tyV_own h1, B, p, rl, q.bind.imp ?_⟩
  rintro v H2 ⟨B2, p2, k, s2, rl2, d2, q2⟩
  obtain ⟨l', us', e1', h1', hz', d'⟩ := rl2.sl i _ hi
  rw [e1] at e1'
  cases e1'
  have ow : Own σ η i l := ⟨e1, _, hi, rfl⟩
  cases d2 with
  | int n =>
    revert q2
    rw [M.lift_def]
    unfold popAt
    dsimp only
    cases e3 : ixN xs.length n with
    | none => exact fun q => q.elim
    | some j =>
      dsimp only
      cases e4 : xs[j]? with
      | none => exact fun q => q.elim
      | some y =>
        intro q
        obtain ⟨k1, k2, k3, k4⟩ := ixN_seq e3
        obtain ⟨v, e5, d5⟩ := d'.getD e4
        have hl : us'.length = xs.length := d'.length
        have hz2 : (us'.eraseIdx j).length ≤ sizeLine := Nat.le_trans (len_erase us' j) hz'
        have hb : sizeLine < 2 ^ 63 := line63
        refine ⟨l, us', n, j, v, rfl, rfl, h1', by omega, by omega, by rw [hl]; exact k1, e5, ?_⟩
        exact q v _ B2 (Same.refl _) (rl2.setOwn ow hz2 (d'.eraseIdx j)) d5
  | _ => exact q2.elim
theorem dxm_insert {ra re : M D} (h : PE X (.Name x p1) (tVar i)) (ha : DX X G η a ra) (he : DX X G η e re) (hi : η[i]? = some (.ml xs) := by rfl) (hbase : attributeBase (.Name x p1) "insert" X.env (eval (.Name x p1) X.env) = eval (.Name x p1) X.env := by rfl)
    (hfew : ((backTo pos (starEach [a, e] X.env)).all (fun x => !x.1) && (backToKw pos (keywordEach [] X.env)).all (fun x => x.1.isSome) && decide ([a, e].length + ([] : List Keyword).length + (if ([] : List Keyword).isEmpty then 0 else 1) < 30)) = true := by rfl)
    (hline : (p2.endLine == pos.line) = true := by rfl) (hs : starEach [a, e] X.env = (false, eval a X.env) :: starEach [e] X.env := by rfl) (hs2 : starEach [e] X.env = (false, eval e X.env) :: starEach [] X.env := by rfl) (hpl : (backTo pos (starEach [e] X.env)).any (·.1) = false := by rfl) :
    DXm X G η i (.Call (.Attribute (.Name x p1) "insert" p2) [a, e] [] pos) (ra >>= fun k => re >>= fun d => M.lift (insAt xs k d >>= fun ys => R.ok (D.non, ys))) := by
  refine PE.pre (pe_bm PySem.F.plainAttrs_list PySem.F.slot_list_insert PySem.F.type_list_insert mt_insert h (pa_cons ha (pa_cons he pa_nil hs2) hs) hbase hfew hline hs hpl) fun σ H Q ⟨B, p, rl, q⟩ => ?_
  obtain ⟨l, us, e1, h1, hz, d⟩ := rl.sl i _ hi
  refine ⟨.ref l, e1, tyV_own h1, B, p, rl, q.bind.imp ?_⟩
  rintro v H2 ⟨B2, p2, k, s2, rl2, d2, q2⟩
  refine ⟨B2, p2, rl2, q2.bind.imp ?_⟩
  rintro w H3 ⟨B3, p3, y, s3, rl3, d3, q3⟩
  obtain ⟨l', us', e1', h1', hz', d'⟩ := rl3.sl i _ hi
  rw [e1] at e1'
  cases e1'
  have ow : Own σ η i l := ⟨e1, _, hi, rfl⟩
  cases d2 with
  | int n =>
    have q3 : PostM G σ η i B3 (((if 0 ≤ n ∧ n < 2 ^ 63 ∧ xs.length < sizeLine then R.ok (xs.take n.toNat ++ [y] ++ xs.drop n.toNat) else R.bad) >>= fun ys => R.ok (D.non, ys)), p3) Q := q3
    by_cases hn : 0 ≤ n ∧ n < 2 ^ 63 ∧ xs.length < sizeLine
    · rw [if_pos hn] at q3
      have hl : us'.length = xs.length := d'.length
      refine ⟨l, us', n, w, rfl, rfl, h1', by omega, hn.1, hn.2.1, ?_⟩
      refine q3 .non _ B3 (Same.refl _) (rl3.setOwn ow ?_ (((d'.take n.toNat).append (.cons d3 .nil)).append (d'.drop n.toNat))) .non
      rw [List.length_append, List.length_append, List.length_take, List.length_drop, List.length_singleton]
      omega
    · rw [if_neg hn] at q3
      exact q3.elim
  | _ => exact q3.elim

/-! ### statements that change an owned list -/
/-- an expression that changes a list, its value dropped -/
theorem db_exprM {re : M (D × List D)} {rr : List D → M β} (he : DXm X G η i e re) (h : ∀ ys, DB X G (η.set i (.ml ys)) rest (rr ys) I) (hs : swapsWith e none pos.line X.env = pure false := by rfl) :
    DB X G η (.Expr e pos :: rest) (re >>= fun y => rr y.2) I := by
  have h' : PSs X rest (fun E σ H => ∃ ys, tB G (η.set i (.ml ys)) (rr ys) I E σ H) := ⟨fun pins s1 σ H E Iv ⟨a, w⟩ => (h a).run pins s1 σ H E Iv w⟩
  refine db_of (ps_expr he hs) h' fun σ H B p E rl q => ⟨B, p, rl, ?_⟩
  revert q
  rw [M.bind_def]
  cases re p with
  | mk r p' =>
    cases r with
    | ok y => exact fun q v H' B' s' r' d => ⟨y.2, B', p', r', q.mono s'⟩
    | err z => exact fun q cls y H' B' s' r' ex => q cls y σ η H' B' s' r' ex
    | bad => exact fun q => q
theorem db_append {re : M D} {rr : List D → M β} (hx : PE X (.Name x p1) (tVar i)) (he : DX X G η e re) (h : ∀ ys, DB X G (η.set i (.ml ys)) rest (rr ys) I) (hi : η[i]? = some (.ml xs) := by rfl)
    (hbase : attributeBase (.Name x p1) "append" X.env (eval (.Name x p1) X.env) = eval (.Name x p1) X.env := by rfl)
    (hfew : ((backTo p3 (starEach [e] X.env)).all (fun x => !x.1) && (backToKw p3 (keywordEach [] X.env)).all (fun x => x.1.isSome) && decide ([e].length + ([] : List Keyword).length + (if ([] : List Keyword).isEmpty then 0 else 1) < 30)) = true := by rfl)
    (hline : (p2.endLine == p3.line) = true := by rfl) (hs : starEach [e] X.env = (false, eval e X.env) :: starEach [] X.env := by rfl) (hsw : swapsWith (.Call (.Attribute (.Name x p1) "append" p2) [e] [] p3) none pos.line X.env = pure false := by rfl) :
    DB X G η (.Expr (.Call (.Attribute (.Name x p1) "append" p2) [e] [] p3) pos :: rest) (re >>= fun d => M.lift (push xs d) >>= rr) I := by
  have h' : PSs X rest (fun E σ H => ∃ ys, tB G (η.set i (.ml ys)) (rr ys) I E σ H) := ⟨fun pins s1 σ H E Iv ⟨a, w⟩ => (h a).run pins s1 σ H E Iv w⟩
  refine db_of (ps_expr (pe_bm PySem.F.plainAttrs_list PySem.F.slot_list_append PySem.F.type_list_append mt_append hx (dxa_one he hs) hbase hfew hline hs (by cases p3; rfl)) hsw) h' fun σ H B p E rl q => ?_
  obtain ⟨l, us, e1, h1, hz, d⟩ := rl.sl i _ hi
  refine ⟨.ref l, e1, tyV_own h1, B, p, rl, q.bind.imp ?_⟩
  rintro v H2 ⟨B2, p2, y, s2, rl2, d2, q2⟩
  obtain ⟨l', us', e1', h1', hz', d'⟩ := rl2.sl i _ hi
  rw [e1] at e1'
  cases e1'
  have ow : Own σ η i l := ⟨e1, _, hi, rfl⟩
  rw [M.bind_def, M.lift_def] at q2
  unfold push at q2
  by_cases hl : xs.length < sizeLine
  · rw [if_pos hl] at q2
    have hu : us'.length = xs.length := d'.length
    refine ⟨l, us', v, rfl, rfl, h1', by omega, ?_⟩
    exact ⟨xs ++ [y], B2, p2, rl2.setOwn ow (by rw [List.length_append, List.length_singleton]; omega) (d'.append (.cons d2 .nil)), q2⟩
  · rw [if_neg hl] at q2
    exact q2.elim
/-- x.append(y.pop(..)) and its like: i is y's slot, j is x's -/
theorem db_appendM {j : Nat} {zs : List D} {re : M (D × List D)} {rr : List D → List D → M β} (hx : PE X (.Name x p1) (tVar j)) (he : DXm X G η i e re) (h : ∀ ys ws, DB X G ((η.set i (.ml ys)).set j (.ml ws)) rest (rr ys ws) I) (hij : j ≠ i) (hi : η[j]? = some (.ml zs) := by rfl)
    (hbase : attributeBase (.Name x p1) "append" X.env (eval (.Name x p1) X.env) = eval (.Name x p1) X.env := by rfl)
    (hfew : ((backTo p3 (starEach [e] X.env)).all (fun x => !x.1) && (backToKw p3 (keywordEach [] X.env)).all (fun x => x.1.isSome) && decide ([e].length + ([] : List Keyword).length + (if ([] : List Keyword).isEmpty then 0 else 1) < 30)) = true := by rfl)
    (hline : (p2.endLine == p3.line) = true := by rfl) (hs : starEach [e] X.env = (false, eval e X.env) :: starEach [] X.env := by rfl) (hsw : swapsWith (.Call (.Attribute (.Name x p1) "append" p2) [e] [] p3) none pos.line X.env = pure false := by rfl) :
    DB X G η (.Expr (.Call (.Attribute (.Name x p1) "append" p2) [e] [] p3) pos :: rest) (re >>= fun y => M.lift (push zs y.1) >>= rr y.2) I := by
  have h' : PSs X rest (fun E σ H => ∃ ys ws, tB G ((η.set i (.ml ys)).set j (.ml ws)) (rr ys ws) I E σ H) := ⟨fun pins s1 σ H E Iv ⟨a, b, w⟩ => (h a b).run pins s1 σ H E Iv w⟩
  refine db_of (ps_expr (pe_bm PySem.F.plainAttrs_list PySem.F.slot_list_append PySem.F.type_list_append mt_append hx (pa_cons he pa_nil hs) hbase hfew hline hs (by cases p3; rfl)) hsw) h' fun σ H B p E rl q => ?_
  obtain ⟨l, us, e1, h1, hz, d⟩ := rl.sl j _ hi
  refine ⟨.ref l, e1, tyV_own h1, B, p, rl, ?_⟩
  revert q
  rw [M.bind_def]
  cases re p with
  | mk r p' =>
    cases r with
    | ok y =>
      intro q v H2 B2 s2 rl2 d2
      have hi2 : (η.set i (.ml y.2))[j]? = some (.ml zs) := by rw [List.getElem?_set_ne (Ne.symm hij)]; exact hi
      obtain ⟨l', us', e1', h1', hz', d'⟩ := rl2.sl j _ hi2
      rw [e1] at e1'
      cases e1'
      have ow : Own σ (η.set i (.ml y.2)) j l := ⟨e1, _, hi2, rfl⟩
      have q2 : PostB G B ((M.lift (push zs y.1) >>= rr y.2) p') I E := q
      rw [M.bind_def, M.lift_def] at q2
      unfold push at q2
      by_cases hl : zs.length < sizeLine
      · rw [if_pos hl] at q2
        have hu : us'.length = zs.length := d'.length
        refine ⟨l, us', v, rfl, rfl, h1', by omega, ?_⟩
        exact ⟨y.2, zs ++ [y.1], B2, p', rl2.setOwn ow (by rw [List.length_append, List.length_singleton]; omega) (d'.append (.cons d2 .nil)), PostB.mono s2 q2⟩
      · rw [if_neg hl] at q2
        exact q2.elim
    | err z => exact fun q cls y H' B' s' r' ex => q cls y σ η H' B' s' r' ex
    | bad => exact fun q => q
/-- x[k] = e -/
theorem db_setitem {re rk : M D} {rr : List D → M β} (hx : PE X (.Name x p1) (tVar i)) (he : DX X G η e re) (hk : DX X G η a rk) (h : ∀ ys, DB X G (η.set i (.ml ys)) rest (rr ys) I) (hi : η[i]? = some (.ml xs) := by rfl)
    (ha : ∀ v, assign (.Subscript (.Name x p1) a p2) X.env v = (do
      let ov ← holding [v] (eval (.Name x p1) X.env)
      let iv ← holding [v, ov] (eval a X.env)
      standAt p2
      holding [v, ov, iv] (setItem ov iv v)
      release [v, ov, iv] []) := by intro _; rfl)
    (hs : swapsWithSole [.Subscript (.Name x p1) a p2] e pos.line X.env = pure false := by rfl) (hw : swappedStores [.Subscript (.Name x p1) a p2] e X.env = pure none := by rfl) (h1 : (assignEach [.Subscript (.Name x p1) a p2] X.env).map (·.2) = [assign (.Subscript (.Name x p1) a p2) X.env] := by rfl) :
    DB X G η (.Assign [.Subscript (.Name x p1) a p2] e pos :: rest) (re >>= fun d => rk >>= fun k => M.lift (setAt xs k d) >>= rr) I := by
  have h' : PSs X rest (fun E σ H => ∃ ys, tB G (η.set i (.ml ys)) (rr ys) I E σ H) := ⟨fun pins s1 σ H E Iv ⟨a, w⟩ => (h a).run pins s1 σ H E Iv w⟩
  refine db_of (ps_asg he (pg_sub hx hk set_list ha) hs hw h1) h' fun σ H B p E rl q => ⟨B, p, rl, q.bind.imp ?_⟩
  rintro v H2 ⟨B2, p2, y, s2, rl2, d2, q2⟩
  obtain ⟨l, us, e1, h1, hz, d⟩ := rl2.sl i _ hi
  refine ⟨.ref l, e1, B2, p2, rl2, q2.bind.imp ?_⟩
  rintro w H3 ⟨B3, p3, k, s3, rl3, d3, q3⟩
  obtain ⟨l', us', e1', h1', hz', d'⟩ := rl3.sl i _ hi
  rw [e1] at e1'
  cases e1'
  have ow : Own σ η i l := ⟨e1, _, hi, rfl⟩
  cases d3 with
  | int n =>
    rw [M.bind_def, M.lift_def] at q3
    unfold setAt at q3
    dsimp only at q3
    cases e3 : ixN xs.length n with
    | none => rw [e3] at q3; exact q3.elim
    | some j =>
      rw [e3] at q3
      have hu : us'.length = xs.length := d'.length
      refine ⟨l, us', n, j, rfl, rfl, h1', by rw [hu]; exact e3, ?_⟩
      exact ⟨xs.set j y, B3, p3, rl3.setOwn ow (by rw [List.length_set]; exact hz') (d'.set j (Dt.mono s3 _ _ d2)), q3⟩
  | _ => exact q3.elim
end
end L2.Ly

set_option Elab.async false
set_option linter.all false
set_option maxRecDepth 100000
set_option maxHeartbeats 4000000
/-! Ly11: instances: fields, the promise of an __init__, making. -/
namespace L2.Ly
open PySem PySem.Spec PyProof.Rows

def putD (f : Str) (d : D) : List (Str × D) → List (Str × D)
  | [] => [(f, d)]
  | (g, x) :: r => if g = f then (g, d) :: r else (g, x) :: putD f d r
def fldL (fs : List (Str × D)) (f : Str) : R D := match fs.lookup f with
  | some d => .ok d
  | none => .bad
/-- d.f, an instance of one of these classes -/
def fldD (cs : List Str) (f : Str) : D → R D
  | .ins c fs => if c ∈ cs then fldL fs f else .bad
  | _ => .bad
section
variable {K : PySem.W.Frag} {mg : Str → Option Value} {B : Hp}
theorem DtFs.put {f : Str} {v : V} {d : D} (h : Dt K mg B v d) : ∀ {us : List (Str × V)} {fs : List (Str × D)}, DtFs K mg B us fs → DtFs K mg B (putF f v us) (putD f d fs)
  | _, _, .nil => .cons h .nil
  | _, _, .cons (k := k) (vs := vs) (ds := ds) a t => by
    unfold putF putD
    by_cases e : k = f
    · rw [if_pos e, if_pos e]
      exact .cons h t
    · rw [if_neg e, if_neg e]
      exact .cons a (DtFs.put h t)
theorem DtFs.look {f : Str} {d : D} : ∀ {us : List (Str × V)} {fs : List (Str × D)}, DtFs K mg B us fs → fs.lookup f = some d → ∃ v, us.lookup f = some v ∧ Dt K mg B v d
  | _, _, .nil, e => by cases e
  | _, _, .cons (k := k) a t, e => by
    by_cases q : f = k
    · subst q
      simp [List.lookup] at e
      subst e
      exact ⟨_, by simp [List.lookup], a⟩
    · have q' : (f == k) = false := by simpa using q
      simp only [List.lookup, q'] at e
      obtain ⟨v, h1, h2⟩ := DtFs.look t e
      exact ⟨v, by simp only [List.lookup, q']; exact h1, h2⟩
theorem DtFs.length : ∀ {us : List (Str × V)} {fs : List (Str × D)}, DtFs K mg B us fs → us.length = fs.length
  | _, _, .nil => rfl
  | _, _, .cons _ t => by rw [List.length_cons, List.length_cons, DtFs.length t]
end
theorem Rel.setMi {K : PySem.W.Frag} {mg : Str → Option Value} {G : Gam K mg} {H B : Hp} {σ : St} {η : List LV} {p : Pen} {l C dx : Addr} {us : List (Str × V)} {xs : List (Str × D)} {i : Nat} (r : Rel G H B σ η p) (o : Own σ η i l) (d : DtFs K mg B us xs) :
    Rel G (L2.upd H l (.ins C dx us)) B σ (η.set i (.mi l C xs)) p := by
  obtain ⟨f1, f2, f3, f4⟩ := r.fresh i l o
  have hi : i < η.length := by
    obtain ⟨_, lv, h, _⟩ := o
    exact (List.getElem?_eq_some_iff.mp h).1
  have back : ∀ {j a}, Own σ (η.set i (.mi l C xs)) j a → Own σ η j a := fun {j a} q => by
    by_cases hij : j = i
    · subst hij
      obtain ⟨h1, _⟩ := q
      obtain ⟨k1, k2⟩ := o
      rw [h1] at k1
      exact ⟨h1, k2⟩
    · obtain ⟨h1, lv, h2, h3⟩ := q
      rw [List.getElem?_set_ne (Ne.symm hij)] at h2
      exact ⟨h1, lv, h2, h3⟩
  refine ⟨by simp [r.len], fun b u e => ?_, r.sz, fun b u e n => ?_, fun b e => ?_, fun j lv e => ?_, fun j k a o1 o2 => r.dj j k a (back o1) (back o2), fun b h => ⟨(r.nf b h).1, ?_⟩, fun j a q => r.fresh j a (back q)⟩
  · rw [upd_ne (by rintro rfl; rw [f2] at e; cases e)]
    exact r.sub b u e
  · rw [upd_ne (by rintro rfl; rw [f1] at e; cases e)]
    exact r.fr b u e n
  · obtain ⟨c, k1, k2, k3⟩ := r.pen b e
    exact ⟨c, by rw [upd_ne (by rintro rfl; exact f3 e)]; exact k1, k2, k3⟩
  · by_cases hij : j = i
    · subst hij
      rw [List.getElem?_set_self hi] at e
      cases e
      exact ⟨dx, us, o.1, upd_same, d⟩
    · rw [List.getElem?_set_ne (Ne.symm hij)] at e
      refine (r.sl j lv e).mono (Same.refl _) fun b ho hv => ?_
      rw [upd_ne]
      rintro rfl
      exact hij (r.dj j i b ⟨hv, lv, e, ho⟩ o)
  · obtain ⟨u, q⟩ := (r.nf b h).2
    exact ⟨u, by rw [upd_ne (by rintro rfl; exact f4 h)]; exact q⟩
theorem Rel.own_mi {K : PySem.W.Frag} {mg : Str → Option Value} {G : Gam K mg} {H B : Hp} {σ : St} {η : List LV} {p : Pen} {a C : Addr} {fs : List (Str × D)} {i : Nat} (r : Rel G H B σ η p) (hi : η[i]? = some (.mi a C fs)) : Own σ η i a := by
  obtain ⟨dx, us, e, _⟩ := r.sl i _ hi
  exact ⟨e, _, hi, rfl⟩

section
variable {X : Cx} {G : Gam X.K X.mg} {η : List LV} {β : Type} {I : β → Fl} {e o : Expr} {rest : List Stmt} {pos p1 p2 p3 : Pos} {a C : Addr} {f : Str} {fs : List (Str × D)} {i : Nat}
/-- self.f = e, self being made -/
theorem db_fld {re : M D} {rr : D → M β} (hi : η[i]? = some (.mi a C fs)) (c : Cls X.K C) (n : NoAttr X.K C f) (hl : fs.length < 900) (ho : PE X o (tVar i)) (he : DX X G η e re) (h : ∀ d, DB X G (η.set i (.mi a C (putD f d fs))) rest (rr d) I)
    (hs : swapsWith e (some (.Attribute o f p1)) pos.line X.env = pure false := by rfl) : DB X G η (.Assign [.Attribute o f p1] e pos :: rest) (re >>= rr) I := by
  have h' : PSs X rest (fun E σ H => ∃ d, tB G (η.set i (.mi a C (putD f d fs))) (rr d) I E σ H) := ⟨fun pins s σ H E Iv ⟨d, w⟩ => (h d).run pins s σ H E Iv w⟩
  refine db_of (ps_fld ho he hs) h' fun σ H B p E rl q => ⟨B, p, rl, q.bind.imp ?_⟩
  rintro v H1 ⟨B1, p1, d, s1, rl1, d1, q1⟩
  obtain ⟨dx, us, e1, e2, e3⟩ := rl1.sl i _ hi
  refine ⟨.ref a, e1, a, C, dx, us, rfl, e2, c, n, by rw [e3.length]; omega, d, B1, p1, rl1.setMi (rl1.own_mi hi) (e3.put d1), q1⟩
/-- self.f, self being made -/
theorem dx_fldS (hi : η[i]? = some (.mi a C fs)) (c : Cls X.K C) (n : NoAttr X.K C f) (ho : PE X o (tVar i)) (hb : attributeBase o f X.env (eval o X.env) = eval o X.env := by rfl) : DX X G η (.Attribute o f pos) (M.lift (fldL fs f)) := by
  refine PE.pre (pe_fld ho hb) fun σ H Q ⟨B, p, rl, q⟩ => ?_
  obtain ⟨dx, us, e1, e2, e3⟩ := rl.sl i _ hi
  rw [M.lift_def] at q
  unfold fldL at q
  cases el : fs.lookup f with
  | none => rw [el] at q; exact q.elim
  | some d =>
    rw [el] at q
    obtain ⟨v, l, dt⟩ := e3.look el
    exact ⟨.ref a, e1, a, C, dx, us, v, rfl, e2, c, n, l, q.lift rl dt⟩
/-- e.f, of an instance that is plain data -/
theorem dx_fld {cs : List Str} {re : M D} (hC : ∀ c ∈ cs, ∀ C, X.mg c = some (.ref C) → Cls X.K C ∧ NoAttr X.K C f) (he : DX X G η e re) (hb : attributeBase e f X.env (eval e X.env) = eval e X.env := by rfl) :
    DX X G η (.Attribute e f pos) (re >>= fun d => M.lift (fldD cs f d)) := by
  refine PE.pre (pe_fld he hb) fun σ H Q ⟨B, p, rl, q⟩ => ⟨B, p, rl, q.bind.imp ?_⟩
  rintro v H1 ⟨B1, p1, d, s1, rl1, d1, q1⟩
  rw [M.lift_def] at q1
  cases d1 with
  | @ins a C dx c us xs h0 h1 h2 =>
    have q1 : Post G σ η (fun B _ v x => Dt X.K X.mg B v x) B1 ((if c ∈ cs then fldL xs f else R.bad), p1) Q := q1
    by_cases hc : c ∈ cs
    · rw [if_pos hc] at q1
      unfold fldL at q1
      cases el : xs.lookup f with
      | none => rw [el] at q1; exact q1.elim
      | some d =>
        rw [el] at q1
        obtain ⟨v, l, dt⟩ := h2.look el
        obtain ⟨k1, k2⟩ := hC c hc C h0
        exact ⟨a, C, dx, us, v, rfl, rl1.sub _ _ h1, k1, k2, l, q1.lift rl1 dt⟩
    · rw [if_neg hc] at q1
      exact q1.elim
  | _ => exact q1.elim
/-- target o.f -/
def gFld (K : PySem.W.Frag) (to : TE) (f : Str) : TG := fun v σ H Q => to σ H fun o H1 => ∃ a C dx fs, o = .ref a ∧ H1 a = some (.ins C dx fs) ∧ Cls K C ∧ NoAttr K C f ∧ fs.length < 1000 ∧ Q σ (upd H1 a (.ins C dx (putF f v fs)))
theorem pg_fld {to : TE} (ho : PE X o to) : PG X (.Attribute o f pos) (gFld X.K to f) := by
  refine ⟨fun pins s σ H v u Q I r h => ?_⟩
  rw [assign_Attribute]
  refine wpAny_bind (wpAny_holding (thn (ho.run pins s σ H _ I h) fun ov s1 ⟨x, H1, I1, rx, a, C, dx, fs, ex, ea, c, n, l, q⟩ => ?_))
  subst ex
  obtain rfl : ov = Value.ref a := rx
  refine wpAny_bind (wpAny_standAt (wpAny_bind (wpAny_holding (setattr_ok I1 ea c n l r fun s3 I3 => ?_))))
  exact wpAny_release ⟨σ, _, I3, q⟩
def gFlds (K : PySem.W.Frag) (i : Nat) : List Str → TGs
  | [] => gNil
  | f :: r => gCons (gFld K (tVar i) f) (gFlds K i r)
def putDs : List Str → List D → List (Str × D) → List (Str × D)
  | f :: r, d :: ds, fs => putDs r ds (putD f d fs)
  | _, _, fs => fs
theorem length_putD (f : Str) (d : D) : ∀ fs : List (Str × D), (putD f d fs).length ≤ fs.length + 1
  | [] => Nat.le_refl _
  | (g, x) :: r => by
    unfold putD
    by_cases e : g = f
    · rw [if_pos e]; simp
    · rw [if_neg e]
      have := length_putD f d r
      simp only [List.length_cons]
      omega
theorem gFlds_ok {K : PySem.W.Frag} {mg : Str → Option Value} {G : Gam K mg} {B : Hp} {p : Pen} {σ : St} {Q : St → Hp → Prop} (c : Cls K C) : ∀ (ns : List Str) (η : List LV) (H : Hp) (fs : List (Str × D)) (vs : List V) (ds : List D), η[i]? = some (.mi a C fs) → (∀ f ∈ ns, NoAttr K C f) → fs.length + ns.length < 900 → ds.length = ns.length → DtAll K mg B vs ds → Rel G H B σ η p →
    (∀ H', Rel G H' B σ (η.set i (.mi a C (putDs ns ds fs))) p → Q σ H') → gFlds K i ns vs σ H Q
  | [], η, H, fs, vs, ds, hi, _, _, hl, h, rl, k => by
    cases h with
    | cons _ _ => cases hl
    | nil =>
      refine ⟨rfl, k H ?_⟩
      have e : η.set i (.mi a C (putDs [] [] fs)) = η := by
        apply List.ext_getElem?
        intro j
        by_cases hij : j = i
        · subst hij
          rw [List.getElem?_set_self (List.getElem?_eq_some_iff.mp hi).1, hi]
          rfl
        · rw [List.getElem?_set_ne (Ne.symm hij)]
      rw [e]
      exact rl
  | f :: ns, η, H, fs, vs, ds, hi, hn, hz, hl, h, rl, k => by
    cases h with
    | nil => cases hl
    | @cons v vs d ds dt t =>
      obtain ⟨dx, us, e1, e2, e3⟩ := rl.sl i _ hi
      refine ⟨v, vs, rfl, .ref a, e1, a, C, dx, us, rfl, e2, c, hn f (by simp), by rw [e3.length]; simp at hz; omega, ?_⟩
      have hi2 : (η.set i (.mi a C (putD f d fs)))[i]? = some (.mi a C (putD f d fs)) := List.getElem?_set_self (List.getElem?_eq_some_iff.mp hi).1
      refine gFlds_ok c ns (η.set i (.mi a C (putD f d fs))) _ _ vs ds hi2 (fun g hg => hn g (by simp [hg])) ?_ (by simpa using hl) t (rl.setMi (rl.own_mi hi) (e3.put dt)) fun H' r' => k H' ?_
      · have := length_putD f d fs
        simp only [List.length_cons] at hz
        omega
      · rw [List.set_set] at r'
        exact r'
def unpT (n : Nat) : D → R (List D)
  | .tup xs => if xs.length = n then .ok xs else .bad
  | _ => .bad
/-- self.f, self.g = e -/
theorem db_unF {es : List Expr} {k : Nat} {ns : List Str} {re : M D} {rr : List D → M β} (hc : X.calm = true) (hi : η[i]? = some (.mi a C fs)) (c : Cls X.K C) (n : ∀ f ∈ ns, NoAttr X.K C f) (hl : fs.length + ns.length < 900) (hg : PGs X es (gFlds X.K i ns)) (he : DX X G η e re)
    (h : ∀ ds, DB X G (η.set i (.mi a C (putDs ns ds fs))) rest (rr ds) I) (hn : (assignEach es X.env).length = ns.length := by rfl) (hst : (assignEach es X.env).findIdx? (·.1) = none := by rfl)
    (hs : swapsWithSole [.Tuple es k p1] e pos.line X.env = pure false := by rfl) (hw : swappedStores [.Tuple es k p1] e X.env = pure none := by rfl) (h1 : (assignEach [.Tuple es k p1] X.env).map (·.2) = [assign (.Tuple es k p1) X.env] := by rfl) :
    DB X G η (.Assign [.Tuple es k p1] e pos :: rest) (re >>= fun d => M.lift (unpT ns.length d) >>= rr) I := by
  have h' : PSs X rest (fun E σ H => ∃ ds, tB G (η.set i (.mi a C (putDs ns ds fs))) (rr ds) I E σ H) := ⟨fun pins s σ H E Iv ⟨d, w⟩ => (h d).run pins s σ H E Iv w⟩
  refine db_of (ps_asg he (pg_tup hc hg hn hst) hs hw h1) h' fun σ H B p E rl q => ⟨B, p, rl, q.bind.imp ?_⟩
  rintro v H1 ⟨B1, p1, d, s1, rl1, d1, q1⟩
  rw [M.bind_def, M.lift_def] at q1
  cases d1 with
  | @tup b us xs t1 t2 =>
    rw [show unpT ns.length (D.tup xs) = (if xs.length = ns.length then R.ok xs else R.bad) from rfl] at q1
    by_cases hx : xs.length = ns.length
    · rw [if_pos hx] at q1
      exact ⟨b, us, rfl, Same.sqt rl1.sub t1, by rw [t2.length]; exact hx, gFlds_ok c ns η H1 fs us xs hi n hl hx t2 rl1 fun H' r' => ⟨xs, B1, p1, r', q1⟩⟩
    · rw [if_neg hx] at q1
      exact q1.elim
  | _ => exact q1.elim
end
end L2.Ly

set_option Elab.async false
set_option linter.all false
set_option maxRecDepth 100000
set_option maxHeartbeats 4000000
/-! Ly12: super().__init__(..) in an __init__, of a class of one's own and of an exception. -/
namespace L2.Ly
open PySem PySem.Spec PyProof.Rows NdefX

/-- what the written part tells of a def f that says super() in the class at D; cc: its cell -/
structure SupK (prog : Program) (K : PySem.W.Frag) (mg : Str → Option Value) (F : NF) (f cc D : Addr) (fd : FuncData) (par : Str) : Prop where
  fn : ∃ oc od osl, K.lookup f = some ⟨oc, od, .func fd, osl⟩
  hpar : ∃ ar, (fd.params.posonlyargs ++ fd.params.args).head? = some ar ∧ ar.arg = par
  code : ∃ ccl cdd vs ccs file tf, K.lookup F.c = some ⟨ccl, cdd, .fields vs, ccs⟩ ∧ vs[2]? = some (.str file tf) ∧ ((prog.main.file : Str) == file) = true
  cl : F.cl = [(("__class__" : Str), cc)]
  cell : ∃ cl cld csl, K.lookup cc = some ⟨cl, cld, .cell (some (.ref D)), csl⟩
  cd : ∃ cdD, PySem.W.clsIn K D = some cdD
  ks : F.scope.names.lookup ("super" : Str) = some .globalImplicit
  kc : F.scope.names.lookup ("__class__" : Str) = some .free
  kp : F.scope.names.lookup par = some .local
  kind : F.scope.kind = .function
  top : (prog.main.scope.names.lookup ("super" : Str)).isSome = false
  ns : mg "super" = none

section
variable {X : Cx} {F : NF} {f cc Dc x C : Addr} {fd : FuncData} {par : Str} {pins : List (Addr × Obj)} {σ : St} {H : Hp} {s : Shared} {ox : Obj}
theorem sup_obj {L : Addr} {p0 p1 : Pos} {whole : Sem Value} {Q : Value → Shared → Prop} {E : Value → Shared → Prop} (S : SupK X.prog X.K X.mg F f cc Dc fd par) (he : X.env = envF F f L) (I : Inv X pins σ H s) (hN : X.N[0]? = some par) (hσ : σ[0]? = some (some (.ref x)))
    (hx : s.heap.get? x = some ox) (hxc : ox.cls = .ref C) (hnc : ∀ c, ox.data ≠ .cls c) (hsub : PySem.W.mroIn X.K C (.ref Dc) = some true)
    (h : ∀ so s', Inv X pins σ H s' → s'.heap.get? so = some (PySem.W.ks_superObj Dc x C) → (∀ b o, s.heap.get? b = some o → s'.heap.get? b = some o) → Q (.ref so) s') :
    _root_.PySem.wpAt (model X.prog X.w) X.A (.func F.body X.env) (attributeBase (.Call (.Name "super" p0) [] [] p1) "__init__" X.env whole) Q E s := by
  obtain ⟨oc, od, osl, hf⟩ := S.fn
  obtain ⟨ar, hp, ep⟩ := S.hpar
  obtain ⟨ccl, cdd, vs, ccs, file, tf, hcode, hvs, hfile⟩ := S.code
  obtain ⟨cl, cld, csl, hcell⟩ := S.cell
  obtain ⟨cdD, hD⟩ := S.cd
  have KX := I.kIn
  obtain ⟨m, hns, hloc⟩ := I.loc
  obtain ⟨mb, b1, b2⟩ := I.mod.blt
  have bk : ∀ b o, X.base.get? b = some o → s.heap.get? b = some o := fun b o e => (I.bs b o e).1
  have kz : ∀ y, X.env.kindOf y = F.scope.names.lookup y := fun y => by rw [he]; rfl
  have hkd : X.env.scope.kind = .function := I.ok.kind
  have hself : m par = some (.ref x) := by
    obtain ⟨u, ru, lk⟩ := hloc 0 par (.ref x) hN hσ (.inl (by rw [he]; exact S.kp))
    obtain rfl : u = Value.ref x := ru
    rcases lk with ⟨_, q⟩ | ⟨q, _⟩
    · exact q
    · rw [kz, S.kp] at q
      rcases q with q | q <;> cases q
  obtain ⟨hh, g, d, t, os⟩ := s
  obtain ⟨oD, hD1, hD2⟩ : ∃ oD, hh.get? Dc = some oD ∧ oD.data = .cls cdD := by
    unfold PySem.W.clsIn at hD
    split at hD
    · rename_i c d cd' sl ho
      cases hD
      exact ⟨_, KX _ _ ho, rfl⟩
    · cases hD
  refine PySem.ks_wpAt_super_base (env := X.env) (f := f) (cc := F.c) (ar := ar) ((kz _).trans S.ks) ((kz _).trans S.kc) (by decide) (by rw [he]) (KX _ _ hf) rfl hp (by rw [he]) (KX _ _ hcode) rfl hvs hfile S.top ?_
  refine PySem.W.ks_loadName_global hkd ((kz _).trans S.ks) (Calls.loadGlobal_builtin (by rw [I.ok.glob]; exact I.mod.glob.keeps bk) S.ns (by rw [I.ok.blt]; exact b1.keeps bk) ((b2 _ (by decide)).trans (by decide +kernel : bootBuiltins "super" = some (.type "super"))) ⟨rfl, ?_⟩)
  refine wpAny_loadName_free hkd ((kz _).trans S.kc) (show X.env.cells.lookup _ = some cc by rw [he]; show F.cl.lookup _ = _; rw [S.cl]; rfl) ⟨_, KX _ _ hcell, rfl⟩ ?_
  rw [ep]
  refine wpAny_loadName_local hkd ((kz _).trans S.kp) hns hself ?_
  refine PySem.ks_wpAny_isType_cls hD1 hD2 ⟨rfl, ?_⟩
  refine PySem.ks_wpAny_call_super hD1 hD2 hx hxc hnc (PySem.W.looks_mroIn KX hsub) (fun h' e k => ?_)
  exact h _ _ (I.kept (t' := t) k) e k
/-- .. the bound __init__ of a class above -/
theorem sup_meth {so g : Addr} {dx : Addr} {us : List (Str × V)} {pl : Sem Bool} {Q : Value × List Value → Shared → Prop} {E : Value → Shared → Prop} {A : Around} (I : Inv X pins σ H s) (hso : s.heap.get? so = some (PySem.W.ks_superObj Dc x C)) (ea : H x = some (.ins C dx us))
    (ho : PySem.W.nsIn X.K PySem.cStatics "thirdparty.any" = some none) (hm : PySem.W.ks_superIn X.K C Dc "__init__" = some (some (.ref g))) (ht : PySem.W.typeIn X.K (.ref g) = some (.type "function"))
    (h : ∀ q s', H q = none → Inv X pins σ (upd H q (.met g x)) s' → Q (.ref q, []) s') : wpAny (model X.prog X.w) A (getMethod (.ref so) "__init__" pl) Q E s := by
  have KX := I.kIn
  obtain ⟨mA, O, _⟩ := ins_get I.hok ea
  obtain ⟨od, J, _⟩ := O.look
  obtain ⟨hh, gg, d, t, os⟩ := s
  cases hc : PySem.W.clsIn X.K C with
  | none => unfold PySem.W.ks_superIn at hm; rw [hc] at hm; cases hm
  | some cd =>
    unfold PySem.W.ks_superIn at hm
    rw [hc] at hm
    obtain ⟨of, hof, hofc⟩ : ∃ of, hh.get? g = some of ∧ of.cls = .type "function" := by
      have ht' : (X.K.lookup g).map (·.cls) = some (.type "function") := ht
      cases z : X.K.lookup g with
      | none => rw [z] at ht'; cases ht'
      | some of => rw [z] at ht'; exact ⟨of, KX _ _ z, Option.some.inj ht'⟩
    refine PySem.ks_wpAny_getMethod_super hso (PySem.W.looks_opaque KX ho) (l₀ := cd.mro) ?_ rfl KX hm hof hofc (PySem.W.ks_ne KX J hc) (by decide) ?_
    · exact fun A Q E s k q => wpAny_bind ((PySem.W.looks_clsIn KX hc) A _ E s k (wpAny_pure q))
    · refine h _ _ (I.hok.fresh (Nat.le_refl _)) ?_
      exact I.laid (t' := t + 1) (a := hh.objs.size) (o := .met g x) (fun b u z => Heap.get?_push_of_some _ z) (Nat.le_refl _)
        (show (hh.push (PySem.W.methodObj (.ref g) (.ref x))).get? hh.objs.size = some (PySem.W.methodObj (.ref g) (.ref x)) from Heap.get?_push_size hh rfl)
/-- the block, run as the body of the def c -/
def WSs (X : Cx) (c : Code) (st : List Stmt) (t : TS) : Prop := ∀ (pins : List (Addr × Obj)) (s : Shared) (σ : St) (H : Hp) (D : Ends), Inv X pins σ H s → t D σ H → _root_.PySem.wpAt (model X.prog X.w) X.A c (execs st X.env) (SP X pins D) X.xe s
theorem PSs.ws {c : Code} {st : List Stmt} {t : TS} (h : PSs X st t) : WSs X c st t := fun pins s σ H D I w => wpAt_of_wpAny (h.run pins s σ H D I w)
def tSup (K : PySem.W.Frag) (Dc g : Addr) (sp : Sp) (E : XK) (ta : TA) (u : TS) : TS := fun D σ H => ∃ x C dx us, σ[0]? = some (some (.ref x)) ∧ H x = some (.ins C dx us) ∧ PySem.W.mroIn K C (.ref Dc) = some true ∧ PySem.W.ks_superIn K C Dc "__init__" = some (some (.ref g)) ∧
  ∀ q, H q = none → ta σ (upd H q (.met g x)) fun vs H2 => H2 q = some (.met g x) ∧ sp (.ref x :: vs) H2 (fun _ H3 => u D σ H3) E
theorem ws_sup {CX : CXT} {k : Nat} {g L : Addr} {sp : Sp} {E : XK} {p0 p1 apos pos pos' : Pos} {e : Expr} {es : List Expr} {ta : TA} {rest : List Stmt} {u : TS} {pl : Sem Bool} (S : SupK X.prog X.K X.mg F f cc Dc fd par) (he : X.env = envF F f L) (hN : X.N[0]? = some par)
    (ho : PySem.W.nsIn X.K PySem.cStatics "thirdparty.any" = some none) (ht : PySem.W.typeIn X.K (.ref g) = some (.type "function")) (hf : PySem.W.fnIn X.K g = true) (Fg : FnR X.prog X.w X.K X.mg X.base CX k g sp) (hr : Room k X.A) (hx : Passes CX X E)
    (ha : PA X (e :: es) ta) (hu : PSs X rest u)
    (hm : eval (.Call (.Attribute (.Call (.Name "super" p0) [] [] p1) "__init__" apos) (e :: es) [] pos) X.env = (do
      let ov ← attributeBase (.Call (.Name "super" p0) [] [] p1) "__init__" X.env (eval (.Call (.Name "super" p0) [] [] p1) X.env)
      standAt apos.atName
      let (f, first) ← holding [ov] (getMethod ov "__init__" pl)
      callWith pos f first (backTo pos (starEach (e :: es) X.env)) []))
    (hst : starEach (e :: es) X.env = (false, eval e X.env) :: starEach es X.env := by rfl) (hpl : (backTo pos (starEach es X.env)).any (·.1) = false := by rfl)
    (hs : swapsWith (.Call (.Attribute (.Call (.Name "super" p0) [] [] p1) "__init__" apos) (e :: es) [] pos) none pos'.line X.env = pure false := by rfl) :
    WSs X (.func F.body X.env) (.Expr (.Call (.Attribute (.Call (.Name "super" p0) [] [] p1) "__init__" apos) (e :: es) [] pos) pos' :: rest) (tSup X.K Dc g sp E ta u) := by
  intro pins s σ H D I ⟨x, C, dx, us, hσ, ea, hsub, hg, q⟩
  obtain ⟨mA, O, _⟩ := ins_get I.hok ea
  obtain ⟨od, J, _⟩ := O.look
  refine PySem.ks_wpAt_execs_cons (PySem.ks_wpAt_Expr_any (PySem.ks_wpAt_MethodCall (pl := pl) ?_ hm) (by unfold interactive; simp [I.ok.kind]) hs)
  refine sup_obj S he I hN hσ J.at_ J.cls (fun c ec => ?_) hsub fun so s1 I1 e1 _ => ?_
  · have z := J.no
    unfold PySem.W.notCls at z
    rw [ec] at z
    exact Bool.noConfusion z
  refine sup_meth I1 e1 ea ho hg ht fun m s2 hm1 I2 => ?_
  refine PySem.W.callWith_of (P := PySem.W.MethP X.K m g (.ref x)) (by rw [hst]; show (false || (backTo pos (starEach es X.env)).any (·.1) || false) = false; rw [hpl]; rfl) (PySem.W.keeps_M hf) ?_
  rw [hst]
  refine Calls.evalArgs_plain ?_
  have hrun := ha.run pos pins s2 σ _ _ I2 (q m hm1)
  rw [hst] at hrun
  refine thn hrun fun vs s3 ⟨ys, H3, I3, ry, hq3, hsp⟩ => ?_
  refine ⟨met_P I3 hq3, wpAny_mono (wpAny_call (PySem.W.method_call (met_P I3 hq3).1 (run_fnR (us := Value.ref x :: vs) (vs := V.ref x :: ys) Fg hr hx I3 (.cons rfl ry) hsp))) (fun v s4 hv => ?_) fun _ _ z => z⟩
  obtain ⟨v', H4, I4, _, q4⟩ := hv
  exact wpAt_of_wpAny (hu.run pins s4 σ H4 D I4 q4)
/-! ### .. of an exception over ValueError -/
abbrev iVE : String := "ValueError.__init__"
def mwO (u x : Addr) : HO := .ext fun h => h.get? u = some (PySem.W.kxs_mw iVE x)
theorem mwO_ok {P : Program} {w : World} {H : Hp} {h : Heap} {u x : Addr} (e : h.get? u = some (PySem.W.kxs_mw iVE x)) : ObjOk P w H h u (mwO u x) := ⟨e, ⟨_, e⟩, fun h1 h2 z k => k _ z⟩
theorem mwO_at {P : Program} {w : World} {H : Hp} {h : Heap} {u x : Addr} (hok : HOk P w H h) (e : H u = some (mwO u x)) : h.get? u = some (PySem.W.kxs_mw iVE x) := by
  have z : ObjOk P w H h u (.ext fun h => h.get? u = some (PySem.W.kxs_mw iVE x)) := hok u _ e
  exact z.1
theorem sup_methX {so : Addr} {pl : Sem Bool} {Q : Value × List Value → Shared → Prop} {E : Value → Shared → Prop} {A : Around} (I : Inv X pins σ H s) (hso : s.heap.get? so = some (PySem.W.ks_superObj Dc x C)) (ea : H x = some (exo x C none))
    (ho : PySem.W.nsIn X.K PySem.cStatics "thirdparty.any" = some none) (hm : PySem.W.ks_superIn X.K C Dc "__init__" = some (some (.builtin iVE))) (hB : PySem.W.subIn X.K (.ref C) (.type "ValueError") = some true)
    (h : ∀ q s', H q = none → Inv X pins σ (upd H q (mwO q x)) s' → Q (.ref q, []) s') : wpAny (model X.prog X.w) A (getMethod (.ref so) "__init__" pl) Q E s := by
  have KX := I.kIn
  obtain ⟨t1, hx⟩ := exo_at I.hok ea
  have J : PySem.W.InstAt s.heap x ({ cls := .ref C, dict := none, data := .fields #[.ref t1, .none, .none, .none, .bool false, .none] } : Obj) C none := ⟨hx, rfl, rfl, trivial⟩
  have hI : PySem.W.Looks (model X.prog X.w) s.heap (isInstance (.ref x) (.type "ValueError")) true := J.type.andThen (PySem.W.looks_subIn KX hB)
  obtain ⟨hh, gg, d, t, os⟩ := s
  cases hc : PySem.W.clsIn X.K C with
  | none => unfold PySem.W.ks_superIn at hm; rw [hc] at hm; cases hm
  | some cd =>
    unfold PySem.W.ks_superIn at hm
    rw [hc] at hm
    refine PySem.W.kxs_getMethod PySem.W.kxs_ValueError hso (PySem.W.looks_opaque KX ho) (l₀ := cd.mro) ?_ rfl KX hm hI (PySem.W.ks_ne KX J hc) (by decide) ?_
    · exact fun A Q E s k q => wpAny_bind ((PySem.W.looks_clsIn KX hc) A _ E s k (wpAny_pure q))
    · refine h _ _ (I.hok.fresh (Nat.le_refl _)) ?_
      exact I.laid (t' := t + 1) (a := hh.objs.size) (o := mwO hh.objs.size x) (fun b u z => Heap.get?_push_of_some _ z) (Nat.le_refl _) (mwO_ok (Heap.get?_push_size hh rfl))
theorem mw_call {u : Addr} {us : List Value} {Q : Value → Shared → Prop} {E : Value → Shared → Prop} {A : Around} (T : OexC X.K C) (I : Inv X pins σ H s) (e : H x = some (exo x C none)) (hu : s.heap.get? u = some (PySem.W.kxs_mw iVE x)) (hl : us.length ≤ sizeLine)
    (h : ∀ s', Inv X pins σ H s' → Q .none s') : wpAny (model X.prog X.w) A (call (.ref u) us) Q E s := by
  obtain ⟨nm, q, N, bs, bm, sn, sub, ab, col, dd, k0, k1, k2, k3, k5, hC, hbm⟩ := T.cls
  obtain ⟨t1, ho⟩ := exo_at I.hok e
  have FB := F.excBase_ValueError
  obtain ⟨hp, g, d, t, os⟩ := s
  refine wpAny_call (codeAny_of_tree ?_)
  show wpAny _ A.in1 (callAny (.ref u) ⟨us, []⟩) _ _ _
  simp only [callAny]
  refine wpAny_bind (wpAny_load hu ?_)
  simp only [PySem.W.kxs_mw, show (Value.type "method-wrapper" == Value.type "method" || Value.type "method-wrapper" == Value.type "builtin_function_or_method" || Value.type "method-wrapper" == Value.type "method-wrapper") = true by decide, if_true]
  refine PySem.W.KFB.if_so (by decide) ?_
  refine wpAny_bind (PySem.W.check_bound_init FB.toExcCallFacts (I.kIn _ _ hC) ho rfl ?_)
  refine wpAny_bind (wpAny_pure (wpAny_pure ?_))
  refine ⟨Code.quiet_builtin _ (by decide +kernel), codeAny_builtin FB.initEntry ?_⟩
  refine PySem.W.exc_init_tree (cls := .ref C) (t0 := t1) (dv := none) (c2 := .none) (c3 := .none) (b4 := .bool false) ho hl fun h' k hx _ => ?_
  have J := I.write (t' := t) (x := x) (e := x) (o := exo x C none) (by rw [e]; exact True.intro) (.inl rfl) k ⟨_, hx⟩ (exo_ok hx)
  have eu : upd H x (exo x C none) = H := by
    funext b
    by_cases hb : b = x
    · rw [hb, upd_same, e]
    · rw [upd_ne hb]
  rw [eu] at J
  exact h _ J
def tSupX (K : PySem.W.Frag) (Dc : Addr) (ta : TA) (u : TS) : TS := fun D σ H => ∃ x C, σ[0]? = some (some (.ref x)) ∧ H x = some (exo x C none) ∧ OexC K C ∧ PySem.W.mroIn K C (.ref Dc) = some true ∧ PySem.W.ks_superIn K C Dc "__init__" = some (some (.builtin iVE)) ∧
  PySem.W.subIn K (.ref C) (.type "ValueError") = some true ∧ ∀ q, H q = none → ta σ (upd H q (mwO q x)) fun vs H2 => vs.length ≤ 1000 ∧ H2 q = some (mwO q x) ∧ H2 x = some (exo x C none) ∧ u D σ H2
theorem ws_supX {L : Addr} {p0 p1 apos pos pos' : Pos} {e : Expr} {es : List Expr} {ta : TA} {rest : List Stmt} {u : TS} {pl : Sem Bool} (S : SupK X.prog X.K X.mg F f cc Dc fd par) (he : X.env = envF F f L) (hN : X.N[0]? = some par)
    (ho : PySem.W.nsIn X.K PySem.cStatics "thirdparty.any" = some none) (ha : PA X (e :: es) ta) (hu : PSs X rest u)
    (hm : eval (.Call (.Attribute (.Call (.Name "super" p0) [] [] p1) "__init__" apos) (e :: es) [] pos) X.env = (do
      let ov ← attributeBase (.Call (.Name "super" p0) [] [] p1) "__init__" X.env (eval (.Call (.Name "super" p0) [] [] p1) X.env)
      standAt apos.atName
      let (f, first) ← holding [ov] (getMethod ov "__init__" pl)
      callWith pos f first (backTo pos (starEach (e :: es) X.env)) []))
    (hst : starEach (e :: es) X.env = (false, eval e X.env) :: starEach es X.env := by rfl) (hpl : (backTo pos (starEach es X.env)).any (·.1) = false := by rfl)
    (hs : swapsWith (.Call (.Attribute (.Call (.Name "super" p0) [] [] p1) "__init__" apos) (e :: es) [] pos) none pos'.line X.env = pure false := by rfl) :
    WSs X (.func F.body X.env) (.Expr (.Call (.Attribute (.Call (.Name "super" p0) [] [] p1) "__init__" apos) (e :: es) [] pos) pos' :: rest) (tSupX X.K Dc ta u) := by
  intro pins s σ H D I ⟨x, C, hσ, ea, T, hsub, hg, hB, q⟩
  obtain ⟨t1, hx⟩ := exo_at I.hok ea
  refine PySem.ks_wpAt_execs_cons (PySem.ks_wpAt_Expr_any (PySem.ks_wpAt_MethodCall (pl := pl) ?_ hm) (by unfold interactive; simp [I.ok.kind]) hs)
  refine sup_obj S he I hN hσ hx rfl (fun c ec => by cases ec) hsub fun so s1 I1 e1 _ => ?_
  refine sup_methX I1 e1 ea ho hg hB fun m s2 hm1 I2 => ?_
  have hrun := ha.run pos pins s2 σ _ _ I2 (q m hm1)
  rw [hst] at hrun ⊢
  refine PySem.W.kxs_callWith (i := iVE) (x := x) (by show (false || (backTo pos (starEach es X.env)).any (·.1)) = false; rw [hpl]; rfl) (Calls.evalArgs_plain ?_)
  refine thn hrun fun vs s3 ⟨ys, H3, I3, ry, hz, hq3, hx3, hsp⟩ => ?_
  refine ⟨mwO_at I3.hok hq3, mw_call T I3 hx3 (mwO_at I3.hok hq3) (by rw [List.nil_append, ← Paired.length ry, sizeLine_eq]; omega) fun s4 I4 => ?_⟩
  exact wpAt_of_wpAny (hu.run pins s4 σ H3 D I4 hsp)
end
end L2.Ly

set_option Elab.async false
set_option linter.all false
set_option maxRecDepth 100000
set_option maxHeartbeats 4000000
/-! Ly13: a def with super() by its body; the promise of an __init__; making. -/
namespace L2.Ly
open PySem PySem.Spec PyProof.Rows NdefX

section
variable {CX : CXT} {P : Program} {w : World} {K : PySem.W.Frag} {mg : Str → Option Value} {base : Heap} {N ps : List Str} {F : NF} {f cc : Addr} {k : Nat} {sp : Sp} {fd : FuncData} {dV kV doc pm ct oc cl : Value} {an od cld : Option Addr} {osl csl : Array (Option Value)} {cv : Option Value}
/-- a def that closes over its class, by its body -/
theorem fn_sup (lk : K.lookup f = some ⟨oc, od, .func fd, osl⟩) (hfd : fd = PySem.W.ksFn F.name F.qual F.params F.body F.scope dV kV doc pm an (.ref F.c) ct cc) (hcl : F.cl = [(("__class__" : Str), cc)]) (hcd : PySem.W.codeIn K (.ref F.c) F.qual = true) (hcell : K.lookup cc = some ⟨cl, cld, .cell cv, csl⟩)
    (S : NScope N ps ["__class__"] F.scope) (len : ∀ vs H Q E, sp vs H Q E → vs.length = ps.length)
    (hbody : ∀ (A : Around) (outer : List Env) (s : Shared) (H : Hp) (vs : List V) (Q : VK) (E : XK), Room k (A.deeper (envF F f s.heap.objs.size)) → sp vs H Q E →
      ∃ t, WSs (ncx CX P w K mg base N F f A outer s H E) (.func F.body (envF F f s.heap.objs.size)) F.body t ∧ t { nx := fun _ H' => Q .non H', rt := Q } (startF N vs [none]) H) :
    FnOk P w K mg base CX (k + 1) f fd ps sp := by
  refine ⟨len, fun A outer s H args us vs Q E hr e0 hb r hsp => ?_⟩
  have hl := len _ _ _ _ hsp
  have KX : K.In s.heap := e0.mod.kin.keeps fun b o e => (e0.bs b o e).1
  have lim : s.heap.NoLimit := e0.mod.nolimit.keeps fun b o e => (e0.bs b o e).1
  subst hfd
  have he : callEnv (PySem.W.ksFn F.name F.qual F.params F.body F.scope dV kV doc pm an (.ref F.c) ct cc) s.heap.objs.size f = envF F f s.heap.objs.size := by
    unfold envF
    rw [hcl]
    rfl
  have C : CellsAt F.cl ["__class__"] [none] s.heap H := by
    have hc : ∀ y c, F.cl.lookup y = some c → y = ("__class__" : Str) ∧ c = cc := fun y c e => by
      rw [hcl] at e
      simp only [List.lookup] at e
      split at e
      · rename_i q
        cases e
        exact ⟨by simpa using q, rfl⟩
      · cases e
    refine ⟨rfl, fun y c e => ?_, fun x y c e1 e2 => (hc x c e1).1.trans (hc y c e2).1.symm, fun i y e => ?_⟩
    · obtain ⟨_, rfl⟩ := hc y c e
      exact ⟨(e0.bs _ _ (e0.mod.kin _ _ hcell)).2, cv, ⟨_, KX _ _ hcell, rfl⟩⟩
    · match i, e with
      | 0, e =>
        cases e
        refine ⟨cc, by rw [hcl]; rfl, fun v z => ?_⟩
        cases z
  refine PySem.ks_codeAny_call_defAt (fd := PySem.W.ksFn F.name F.qual F.params F.body F.scope dV kV doc pm an (.ref F.c) ct cc) (body := F.body) (binds := ps.zip us) hr.depth (KX _ _ lk) rfl lim (PySem.W.codeRec_of KX hcd) rfl hb S.nocell (fun y hy => S.par y.1 (List.of_mem_zip hy).1) (fun h₁ hns kp => ?_) S.co S.gen S.kind
  rw [he]
  obtain ⟨t, ht, hq⟩ := hbody A outer s H vs Q E (hr.deeper _) hsp
  have I : Inv (ncx CX P w K mg base N F f A outer s H E) [] (startF N vs [none]) H { s with heap := h₁, toks := s.toks + (ps.zip us).length } := inv_startN S hr.hd e0 hl r C hns kp
  refine PySem.ks_wpAt_mono (ht [] _ (startF N vs [none]) H _ I hq) (fun fl s' hs => ?_) fun e s' hs => hs
  have fin : ∀ {σ' : L2.St} {H' : Hp} {v : V} {u : Value}, Inv (ncx CX P w K mg base N F f A outer s H E) [] σ' H' s' → L2.RelV v u → Q v H' → CE outer P w H s Q u s' :=
    fun {σ' H' v u} J rv q => ⟨v, H', J.os, J.bare, J.base, J.hok, rv, q⟩
  cases fl with
  | ret u =>
    obtain ⟨v, σ', H', J, rv, q⟩ := hs
    exact fin J rv q
  | next =>
    obtain ⟨σ', H', J, q⟩ := hs
    exact fin (v := V.non) (u := Value.none) J rfl q
  | brk =>
    obtain ⟨_, _, _, q⟩ := hs
    exact False.elim q
  | cont =>
    obtain ⟨_, _, _, q⟩ := hs
    exact False.elim q
end

/-! ### what an __init__ promises -/
structure GrowX (x : Addr) (H B H' B' : Hp) : Prop where
  bb : Same B B'
  sub : Same B' H'
  sz : ∀ a o, B' a = some o → okSz o
  fr : ∀ a o, H a = some o → a ≠ x → H' a = some o
  nb : ∀ a o, H a = some o → B' a = B a
/-- called with a new instance of C and such data it leaves these fields -/
def spI (K : PySem.W.Frag) (mg : Str → Option Value) (C : Addr) (m : List (Str × D) → List D → R (List (Str × D))) : Sp := fun vs H Q E => ∃ B x dx ws ds us fs, vs = .ref x :: ws ∧ H x = some (.ins C dx us) ∧ B x = none ∧ Same B H ∧
  (∀ a o, B a = some o → okSz o) ∧ DtFs K mg B us fs ∧ DtAll K mg B ws ds ∧ ∃ fs', m fs ds = .ok fs' ∧ ∀ H' B' dx' us', GrowX x H B H' B' → H' x = some (.ins C dx' us') → DtFs K mg B' us' fs' → Q .non H'
def Gam.atX (K : PySem.W.Frag) (mg : Str → Option Value) (H B : Hp) (x : Addr) (E : XK) : Gam K mg := ⟨del H x, none, fun cls y _ H' => E cls y H', fun a => (∃ o, H a = some o) ∧ B a = none ∧ a ≠ x⟩
section
variable {K : PySem.W.Frag} {mg : Str → Option Value} {H H' B B' : Hp} {σ : St} {η : List LV} {p p' : Pen} {x C dx : Addr} {us : List (Str × V)} {fs : List (Str × D)} {E : XK}
theorem slots_d {vs : List V} {ds : List D} (h : DtAll K mg B vs ds) {G : Gam K mg} : ∀ {i : Nat} {lv : LV}, (ds.map LV.d)[i]? = some lv → SlotR G H B (vs.map some)[i]? lv := by
  intro i lv e
  rw [List.getElem?_map] at e
  cases q : ds[i]? with
  | none => rw [q] at e; cases e
  | some d =>
    rw [q] at e
    cases e
    obtain ⟨v, h1, h2⟩ := h.getD q
    exact ⟨v, by rw [List.getElem?_map, h1]; rfl, h2⟩
theorem Rel.entryI {vs : List V} {ds : List D} {k : Nat} (s : Same B H) (z : ∀ a o, B a = some o → okSz o) (hx : H x = some (.ins C dx us)) (bx : B x = none) (hf : DtFs K mg B us fs) (h : DtAll K mg B vs ds) :
    Rel (Gam.atX K mg H B x E) H B ((V.ref x :: vs).map some ++ List.replicate k none) (.mi x C fs :: (ds.map LV.d ++ List.replicate k .no)) p := by
  have own : ∀ i a, Own ((V.ref x :: vs).map some ++ List.replicate k none) (.mi x C fs :: (ds.map LV.d ++ List.replicate k .no)) i a → i = 0 ∧ a = x := by
    rintro i a ⟨h1, lv, h2, h3⟩
    match i with
    | 0 =>
      have h1 : some (some (V.ref x)) = some (some (V.ref a)) := h1
      cases h1
      exact ⟨rfl, rfl⟩
    | i + 1 =>
      have h2 : (ds.map LV.d ++ List.replicate k .no)[i]? = some lv := h2
      by_cases hi : i < ds.length
      · rw [List.getElem?_append_left (by simpa using hi), List.getElem?_map] at h2
        cases e : ds[i]? with
        | none => rw [e] at h2; cases h2
        | some d => rw [e] at h2; cases h2; cases h3
      · rw [List.getElem?_append_right (by simpa using hi), List.getElem?_replicate] at h2
        split at h2
        · cases h2; cases h3
        · cases h2
  refine ⟨by simp [h.length], s, z, fun a o e _ => ?_, fun a e => (by cases e), fun i lv e => ?_, fun i j a o1 o2 => (own i a o1).1.trans (own j a o2).1.symm, fun a h => ⟨h.2.1, h.1⟩, fun i a o => ?_⟩
  · have e : del H x a = some o := e
    unfold del at e
    split at e
    · cases e
    · exact e
  · match i with
    | 0 =>
      have e : some (LV.mi x C fs) = some lv := e
      cases e
      exact ⟨dx, us, rfl, hx, hf⟩
    | i + 1 =>
      have e : (ds.map LV.d ++ List.replicate k .no)[i]? = some lv := e
      show SlotR _ H B (vs.map some ++ List.replicate k none)[i]? lv
      by_cases hi : i < ds.length
      · rw [List.getElem?_append_left (by simpa using hi)] at e
        rw [List.getElem?_append_left (by simpa [h.length] using hi)]
        exact slots_d h e
      · rw [List.getElem?_append_right (by simpa using hi), List.getElem?_replicate] at e
        split at e
        · cases e; trivial
        · cases e
  · obtain ⟨_, rfl⟩ := own i a o
    exact ⟨del_same, bx, fun e => (by cases e), fun h => h.2.2 rfl⟩
theorem Rel.leavesI {B0 H0 : Hp} {fs' : List (Str × D)} (r : Rel (Gam.atX K mg H0 B0 x E) H' B' σ η p') (s : Same B0 B') (s0 : Same B0 H0) (bx : B0 x = none) (h0 : η[0]? = some (.mi x C fs')) : GrowX x H0 B0 H' B' ∧ ∃ dx' us', H' x = some (.ins C dx' us') ∧ DtFs K mg B' us' fs' := by
  have o := r.own_mi h0
  obtain ⟨dx', us', _, e2, e3⟩ := r.sl 0 _ h0
  refine ⟨⟨s, r.sub, r.sz, fun a o e n => r.fr a o (by show del H0 x a = some o; rw [del_ne n]; exact e) (by intro z; cases z), fun a u e => ?_⟩, dx', us', e2, e3⟩
  by_cases hx : a = x
  · subst hx
    rw [bx]
    exact (r.fresh 0 a o).2.1
  · cases q : B0 a with
    | none => exact (r.nf a ⟨⟨u, e⟩, q, hx⟩).1
    | some v => exact s a v q
/-- behind an __init__ that ran for a thing of ours (the new heap: one thing more) -/
theorem Rel.calledO {G : Gam K mg} {q : Addr} {o : HO} {fs' : List (Str × D)} {us' : List (Str × V)} {dx' : Addr} (r : Rel G H B σ η p) (hi : η[0]? = some (.mi x C fs)) (hq : H q = none) (g : GrowX x (L2.upd H q o) B H' B') (hx : H' x = some (.ins C dx' us')) (hf : DtFs K mg B' us' fs') :
    Rel G H' B' σ (η.set 0 (.mi x C fs')) p := by
  have ow := r.own_mi hi
  obtain ⟨f1, f2, f3, f4⟩ := r.fresh 0 x ow
  have hi0 : 0 < η.length := (List.getElem?_eq_some_iff.mp hi).1
  have up : ∀ {a u}, H a = some u → L2.upd H q o a = some u := fun {a u} e => by rw [upd_ne (ne_of_none e hq)]; exact e
  have fr : ∀ {a u}, H a = some u → a ≠ x → H' a = some u := fun {a u} e n => g.fr a u (up e) n
  have back : ∀ {j a}, Own σ (η.set 0 (.mi x C fs')) j a → Own σ η j a := fun {j a} z => by
    by_cases hij : j = 0
    · subst hij
      obtain ⟨h1, _⟩ := z
      obtain ⟨k1, k2⟩ := ow
      rw [h1] at k1
      exact ⟨h1, k2⟩
    · obtain ⟨h1, lv, h2, h3⟩ := z
      rw [List.getElem?_set_ne (Ne.symm hij)] at h2
      exact ⟨h1, lv, h2, h3⟩
  refine ⟨by simp [r.len], g.sub, g.sz, fun a u e n => fr (r.fr a u e n) (by rintro rfl; rw [f1] at e; cases e), fun a e => ?_, fun j lv e => ?_, fun i j a o1 o2 => r.dj i j a (back o1) (back o2), fun a h => ?_, fun i a z => ?_⟩
  · have z := r.pen a e
    obtain ⟨c, h1, h2, h3⟩ := id z
    have na : a ≠ x := by rintro rfl; exact f3 e
    exact z.mono (by rw [h1, fr h1 na]) (g.nb a _ (up h1)) g.bb
  · by_cases hij : j = 0
    · subst hij
      rw [List.getElem?_set_self hi0] at e
      cases e
      exact ⟨dx', us', ow.1, hx, hf⟩
    · rw [List.getElem?_set_ne (Ne.symm hij)] at e
      refine (r.sl j lv e).mono g.bb fun a ho hv => ?_
      have oj : Own σ η j a := ⟨hv, lv, e, ho⟩
      obtain ⟨u, z⟩ := r.own_at oj
      rw [z, fr z (by rintro rfl; exact hij (r.dj j 0 a oj ow))]
  · obtain ⟨n, u, z⟩ := r.nf a h
    refine ⟨by rw [g.nb a u (up z)]; exact n, u, fr z (by rintro rfl; exact f4 h)⟩
  · obtain ⟨h1, h2, h3, h4⟩ := r.fresh i a (back z)
    obtain ⟨u, y⟩ := r.own_at (back z)
    exact ⟨h1, by rw [g.nb a u (up y)]; exact h2, h3, h4⟩
/-- behind the making of an instance at x, its dict at dx -/
theorem Rel.calledN {G : Gam K mg} {o : HO} {us0 : List (Str × V)} (r : Rel G H B σ η p) (hx : H x = none) (hd : H dx = none) (ne : dx ≠ x) (g : GrowX x (L2.upd (L2.upd H dx o) x (.ins C dx us0)) B H' B') {dx' : Addr} {us' : List (Str × V)} {fs' : List (Str × D)} (ex : H' x = some (.ins C dx' us')) :
    Rel G H' (L2.upd B' x (.ins C dx' us')) σ η p := by
  have up : ∀ {a u}, H a = some u → L2.upd (L2.upd H dx o) x (.ins C dx us0) a = some u := fun {a u} e => by rw [upd_ne (ne_of_none e hx), upd_ne (ne_of_none e hd)]; exact e
  have fr : ∀ {a u}, H a = some u → H' a = some u := fun {a u} e => g.fr a u (up e) (ne_of_none e hx)
  have bx : B' x = none := by
    rw [g.nb x _ upd_same]
    exact r.none_of hx
  have r1 : Rel G H' B' σ η p := by
    refine ⟨r.len, g.sub, g.sz, fun a u e n => fr (r.fr a u e n), fun a e => ?_, fun j lv e => (r.sl j lv e).mono g.bb fun a ho hv => ?_, r.dj, fun a h => ?_, fun i a z => ?_⟩
    · have z := r.pen a e
      obtain ⟨c, h1, h2, h3⟩ := id z
      exact z.mono (by rw [h1, fr h1]) (g.nb a _ (up h1)) g.bb
    · obtain ⟨u, z⟩ := r.own_at ⟨hv, lv, e, ho⟩
      rw [z, fr z]
    · obtain ⟨n, u, z⟩ := r.nf a h
      exact ⟨by rw [g.nb a u (up z)]; exact n, u, fr z⟩
    · obtain ⟨h1, h2, h3, h4⟩ := r.fresh i a z
      obtain ⟨u, y⟩ := r.own_at z
      exact ⟨h1, by rw [g.nb a u (up y)]; exact h2, h3, h4⟩
  refine r1.hold True.intro ex bx ?_ ?_ ?_
  · intro e
    obtain ⟨c, h1, _⟩ := r.pen x e
    rw [hx] at h1
    cases h1
  · intro i z
    obtain ⟨u, y⟩ := r.own_at z
    rw [hx] at y
    cases y
  · intro h
    obtain ⟨_, u, y⟩ := r.nf x h
    rw [hx] at y
    cases y
end

section
variable {X : Cx} {G : Gam X.K X.mg} {η : List LV} {e : Expr} {es : List Expr} {pos p1 : Pos} {C f : Addr} {cn : Str} {k : Nat}
theorem passF {E : XK} (h : ∀ c d H, ¬ E c d H) : Passes (L2.CX X.prog X.w) X E := fun pins σ H s e s' I ⟨_, _, _, _, _, _, _, _, _, _, _, _, z⟩ => (h _ _ _ z).elim
def mkD (cn : Str) (m : List (Str × D) → List D → R (List (Str × D))) (ds : List D) : R D := m [] ds >>= fun fs => .ok (.ins cn fs)
theorem mk_ok {m : List (Str × D) → List D → R (List (Str × D))} {σ : St} {B H : Hp} {p : Pen} {vs : List V} {ds : List D} {Q : VK} (hm : X.mg cn = some (.ref C)) (hne : ∀ ds e, m [] ds ≠ .err e) (rl : Rel G H B σ η p) (hd : DtAll X.K X.mg B vs ds) (q : Post G σ η (fun B _ v x => Dt X.K X.mg B v x) B (M.lift (mkD cn m ds) p) Q)
    (x dx : Addr) (hx : H x = none) (hdx : H dx = none) (ne : dx ≠ x) : spI X.K X.mg C m (V.ref x :: vs) (upd (upd H dx (.own x)) x (.ins C dx [])) (fun v H2 => v = .non ∧ Q (.ref x) H2) (fun _ _ _ => False) := by
  rw [M.lift_def] at q
  unfold mkD at q
  cases e : m [] ds with
  | err z => exact absurd e (hne _ _)
  | bad => rw [e] at q; exact q.elim
  | ok fs =>
    rw [e] at q
    have up : ∀ {a u}, H a = some u → upd (upd H dx (.own x)) x (.ins C dx []) a = some u := fun {a u} e => by rw [upd_ne (ne_of_none e hx), upd_ne (ne_of_none e hdx)]; exact e
    refine ⟨B, x, dx, vs, ds, [], [], rfl, upd_same, rl.none_of hx, fun a u e => up (rl.sub a u e), rl.sz, .nil, hd, fs, e, fun H' B' dx' us' g ex df => ⟨rfl, ?_⟩⟩
    have r' := rl.calledN hx hdx ne g (fs' := fs) ex
    have bx : B' x = none := by
      rw [g.nb x _ upd_same]
      exact rl.none_of hx
    have s' := same_upd (o := HO.ins C dx' us') bx
    exact q (.ref x) H' _ (g.bb.trans s') r' (.ins hm upd_same (DtFs.mono s' _ _ df))
/-- C(e, ..) -/
theorem dx_make {m : List (Str × D) → List D → R (List (Str × D))} {rs : M (List D)} {fd : FuncData} {ps : List Str} (Mm : Mk X.K C f) (F : FnOk X.prog X.w X.K X.mg X.base (L2.CX X.prog X.w) k f fd ps (spI X.K X.mg C m)) (hne : ∀ ds e, m [] ds ≠ .err e) (hr : Room (k + 1) X.A) (hg : Gl X cn) (hm : X.mg cn = some (.ref C)) (hb : Binds X.K fd ps [])
    (ha : DXa X G η (e :: es) rs) (hdb : (cn == ("__debug__" : Str)) = false := by decide) (he : starEach (e :: es) X.env = (false, eval e X.env) :: starEach es X.env := by rfl) (hpl : (backTo pos (starEach es X.env)).any (·.1) = false := by rfl) :
    DX X G η (.Call (.Name cn p1) (e :: es) [] pos) (rs >>= fun ds => M.lift (mkD cn m ds)) := by
  refine PE.pre (pe_make Mm F hr hg hm hb .nil (passF (E := fun _ _ _ => False) fun _ _ _ z => z) ha.1 hdb he hpl) fun σ H Q ⟨B, p, rl, q⟩ => ⟨B, p, rl, q.bind.imp ?_⟩
  rintro vs H1 ⟨B1, p1, ds, s1, rl1, d1, q1⟩ x dx hx hdx ne
  rw [List.append_nil]
  exact mk_ok hm hne rl1 d1 q1 x dx hx hdx ne
/-- .. by a positional promise -/
theorem dx_makeR {m : List (Str × D) → List D → R (List (Str × D))} {rs : M (List D)} (Mm : Mk X.K C f) (F : FnR X.prog X.w X.K X.mg X.base (L2.CX X.prog X.w) k f (spI X.K X.mg C m)) (hne : ∀ ds e, m [] ds ≠ .err e) (hr : Room (k + 1) X.A) (hg : Gl X cn) (hm : X.mg cn = some (.ref C))
    (ha : DXa X G η (e :: es) rs) (hdb : (cn == ("__debug__" : Str)) = false := by decide) (he : starEach (e :: es) X.env = (false, eval e X.env) :: starEach es X.env := by rfl) (hpl : (backTo pos (starEach es X.env)).any (·.1) = false := by rfl) :
    DX X G η (.Call (.Name cn p1) (e :: es) [] pos) (rs >>= fun ds => M.lift (mkD cn m ds)) := by
  refine PE.pre (StX.pe_makeR Mm F hr hg hm (passF (E := fun _ _ _ => False) fun _ _ _ z => z) ha.1 hdb he hpl) fun σ H Q ⟨B, p, rl, q⟩ => ⟨B, p, rl, q.bind.imp ?_⟩
  rintro vs H1 ⟨B1, p1, ds, s1, rl1, d1, q1⟩ x dx hx hdx ne
  exact mk_ok hm hne rl1 d1 q1 x dx hx hdx ne
end
end L2.Ly

set_option Elab.async false
set_option linter.all false
set_option maxRecDepth 100000
set_option maxHeartbeats 4000000
/-! Ly14: exceptions that are plain data: their __init__, making, fields; isinstance of own classes. -/
namespace L2.Ly
open PySem PySem.Spec PyProof.Rows NdefX

/-- what the written part tells of an exception's class -/
structure XcK (K : PySem.W.Frag) (C Dc : Addr) : Prop where
  T : OexC K C
  sub : PySem.W.mroIn K C (.ref Dc) = some true
  sup : PySem.W.ks_superIn K C Dc "__init__" = some (some (.builtin iVE))
  ve : PySem.W.subIn K (.ref C) (.type "ValueError") = some true
/-- where a def that says super() stands in the written part -/
structure SupD (prog : Program) (K : PySem.W.Frag) (mg : Str → Option Value) (F : NF) (f cc Dc : Addr) (fd : FuncData) (par : Str) (N ps : List Str) : Prop where
  S : SupK prog K mg F f cc Dc fd par
  fd : ∃ dV kV doc pm an ct, fd = PySem.W.ksFn F.name F.qual F.params F.body F.scope dV kV doc pm an (.ref F.c) ct cc
  cd : PySem.W.codeIn K (.ref F.c) F.qual = true
  sc : NScope N ps ["__class__"] F.scope
  top : PySem.W.nsIn K PySem.cStatics "thirdparty.any" = some none
/-- how super().__init__(..) is evaluated (the node's own equation) -/
def SupEval (env : Env) (p0 p1 apos pos : Pos) (es : List Expr) : Prop := ∃ pl : Sem Bool, eval (.Call (.Attribute (.Call (.Name "super" p0) [] [] p1) "__init__" apos) es [] pos) env = (do
  let ov ← attributeBase (.Call (.Name "super" p0) [] [] p1) "__init__" env (eval (.Call (.Name "super" p0) [] [] p1) env)
  standAt apos.atName
  let (f, first) ← holding [ov] (getMethod ov "__init__" pl)
  callWith pos f first (backTo pos (starEach es env)) [])
section
variable {CX : CXT} {P : Program} {w : World} {K : PySem.W.Frag} {mg : Str → Option Value} {base : Heap} {N ps : List Str} {F : NF} {f cc Dc : Addr} {k : Nat} {sp : Sp} {fd : FuncData} {par : Str}
theorem SupD.fn (S : SupD P K mg F f cc Dc fd par N ps) (len : ∀ vs H Q E, sp vs H Q E → vs.length = ps.length)
    (hbody : ∀ (A : Around) (outer : List Env) (s : Shared) (H : Hp) (vs : List V) (Q : VK) (E : XK), Room k (A.deeper (envF F f s.heap.objs.size)) → sp vs H Q E →
      ∃ t, WSs (ncx CX P w K mg base N F f A outer s H E) (.func F.body (envF F f s.heap.objs.size)) F.body t ∧ t { nx := fun _ H' => Q .non H', rt := Q } (startF N vs [none]) H) :
    FnOk P w K mg base CX (k + 1) f fd ps sp := by
  obtain ⟨oc, od, osl, lk⟩ := S.S.fn
  obtain ⟨dV, kV, doc, pm, an, ct, hfd⟩ := S.fd
  obtain ⟨cl, cld, csl, hc⟩ := S.S.cell
  exact fn_sup lk hfd S.S.cl S.cd hc S.sc len hbody
def spE1 (C : Addr) (fl : Str) : Sp := fun vs H Q E => ∃ x v, vs = [.ref x, v] ∧ H x = some (exo x C none) ∧ ∀ q dx, H q = none → H dx = none → dx ≠ q → Q .non (upd (upd (upd H q (mwO q x)) dx (exd dx [(fl, v)])) x (exo x C (some dx)))
def spE2 (C : Addr) (fl gl : Str) : Sp := fun vs H Q E => ∃ x v u, vs = [.ref x, v, u] ∧ H x = some (exo x C none) ∧ ∀ q dx, H q = none → H dx = none → dx ≠ q → Q .non (upd (upd (upd H q (mwO q x)) dx (exd dx [(gl, u), (fl, v)])) x (exo x C (some dx)))
variable {fl gl p1 p2 : Str} {q0 q1 q2 q3 q4 q5 q6 q7 q8 q9 q10 q11 q12 q13 q14 : Pos}
theorem upd_swap {H : Hp} {a b : Addr} {o u v : HO} (h : a ≠ b) : upd (upd (upd H a o) b u) a v = upd (upd H a v) b u := by
  funext c
  by_cases h1 : c = a
  · subst h1
    rw [upd_same, upd_ne h, upd_same]
  · by_cases h2 : c = b
    · subst h2
      rw [upd_ne h1, upd_same, upd_same]
    · rw [upd_ne h1, upd_ne h2, upd_ne h1, upd_ne h2, upd_ne h1]
/-- __init__(self, a): super().__init__(a); self.f = a -/
theorem fn_E1 {C : Addr} (S : SupD P K mg F f cc Dc fd par [par, p1, "__class__"] [par, p1]) (Xc : XcK K C Dc) (hn : PySem.W.findIn K (.ref C) fl = some none) (hd : (par == ("__debug__" : Str)) = false) (hd1 : (p1 == ("__debug__" : Str)) = false) (hc : (par == ("__classdict__" : Str)) = false) (hc1 : (p1 == ("__classdict__" : Str)) = false)
    (hB : F.body = [.Expr (.Call (.Attribute (.Call (.Name "super" q0) [] [] q1) "__init__" q2) [.Name p1 q3] [] q4) q5, .Assign [.Attribute (.Name par q6) fl q7] (.Name p1 q8) q9]) (hm : ∀ L : Addr, SupEval (envF F f L) q0 q1 q2 q4 [.Name p1 q3]) :
    FnOk P w K mg base CX (k + 1) f fd [par, p1] (spE1 C fl) := by
  refine S.fn (fun vs H Q E ⟨x, v, e, _⟩ => by rw [e]; rfl) fun A outer s H vs Q E hr h => ?_
  have kp : F.scope.names.lookup par = some .local := S.sc.par par (by simp)
  have kp1 : F.scope.names.lookup p1 = some .local := S.sc.par p1 (by simp)
  have v0 : ∀ {q : Pos}, PE (ncx CX P w K mg base [par, p1, "__class__"] F f A outer s H E) (.Name par q) (tVar 0) := fun {q} => pe_var rfl (.inl kp) hd hc
  have v1 : ∀ {q : Pos}, PE (ncx CX P w K mg base [par, p1, "__class__"] F f A outer s H E) (.Name p1 q) (tVar 1) := fun {q} => pe_var rfl (.inl kp1) hd1 hc1
  obtain ⟨pl, hm⟩ := hm s.heap.objs.size
  rw [hB]
  have z := ws_supX (X := ncx CX P w K mg base [par, p1, "__class__"] F f A outer s H E) (F := F) (p0 := q0) (p1 := q1) (apos := q2) (pos := q4) (pos' := q5) S.S rfl rfl S.top (pa_cons (v1 (q := q3)) pa_nil) (pss_one (ps_ost (pos := q9) (p' := q7) (f := fl) (v0 (q := q6)) (v1 (q := q8)))) hm
  rw [hB] at z
  refine ⟨_, z, ?_⟩
  obtain ⟨x, v, rfl, ea, q⟩ := h
  refine ⟨x, C, rfl, ea, Xc.T, Xc.sub, Xc.sup, Xc.ve, fun m hm => ⟨v, rfl, ?_⟩⟩
  have nxm : x ≠ m := ne_of_none ea hm
  refine ⟨by simp, upd_same, by rw [upd_ne nxm]; exact ea, ⟨v, rfl, .ref x, rfl, x, C, rfl, Xc.T, hn, .inl ⟨by rw [upd_ne nxm]; exact ea, fun dx hdx ne => ?_⟩⟩⟩
  have hm2 : dx ≠ m := fun e => by rw [e, upd_same] at hdx; cases hdx
  rw [upd_ne hm2] at hdx
  exact q m dx hm hdx hm2
/-- __init__(self, a, b): super().__init__(a, b); self.f = a; self.g = b -/
theorem fn_E2 {C : Addr} (S : SupD P K mg F f cc Dc fd par [par, p1, p2, "__class__"] [par, p1, p2]) (Xc : XcK K C Dc) (hn : PySem.W.findIn K (.ref C) fl = some none) (hng : PySem.W.findIn K (.ref C) gl = some none) (hd : (par == ("__debug__" : Str)) = false) (hd1 : (p1 == ("__debug__" : Str)) = false) (hd2 : (p2 == ("__debug__" : Str)) = false)
    (hc : (par == ("__classdict__" : Str)) = false) (hc1 : (p1 == ("__classdict__" : Str)) = false) (hc2 : (p2 == ("__classdict__" : Str)) = false)
    (hB : F.body = [.Expr (.Call (.Attribute (.Call (.Name "super" q0) [] [] q1) "__init__" q2) [.Name p1 q3, .Name p2 q10] [] q4) q5, .Assign [.Attribute (.Name par q6) fl q7] (.Name p1 q8) q9, .Assign [.Attribute (.Name par q11) gl q12] (.Name p2 q13) q14]) (hm : ∀ L : Addr, SupEval (envF F f L) q0 q1 q2 q4 [.Name p1 q3, .Name p2 q10]) :
    FnOk P w K mg base CX (k + 1) f fd [par, p1, p2] (spE2 C fl gl) := by
  refine S.fn (fun vs H Q E ⟨x, v, u, e, _⟩ => by rw [e]; rfl) fun A outer s H vs Q E hr h => ?_
  have kp : F.scope.names.lookup par = some .local := S.sc.par par (by simp)
  have kp1 : F.scope.names.lookup p1 = some .local := S.sc.par p1 (by simp)
  have kp2 : F.scope.names.lookup p2 = some .local := S.sc.par p2 (by simp)
  have v0 : ∀ {q : Pos}, PE (ncx CX P w K mg base [par, p1, p2, "__class__"] F f A outer s H E) (.Name par q) (tVar 0) := fun {q} => pe_var rfl (.inl kp) hd hc
  have v1 : ∀ {q : Pos}, PE (ncx CX P w K mg base [par, p1, p2, "__class__"] F f A outer s H E) (.Name p1 q) (tVar 1) := fun {q} => pe_var rfl (.inl kp1) hd1 hc1
  have v2 : ∀ {q : Pos}, PE (ncx CX P w K mg base [par, p1, p2, "__class__"] F f A outer s H E) (.Name p2 q) (tVar 2) := fun {q} => pe_var rfl (.inl kp2) hd2 hc2
  obtain ⟨pl, hm⟩ := hm s.heap.objs.size
  rw [hB]
  have z := ws_supX (X := ncx CX P w K mg base [par, p1, p2, "__class__"] F f A outer s H E) (F := F) (p0 := q0) (p1 := q1) (apos := q2) (pos := q4) (pos' := q5) S.S rfl rfl S.top (pa_cons (v1 (q := q3)) (pa_cons (v2 (q := q10)) pa_nil))
    (pss_cons (ps_ost (pos := q9) (p' := q7) (f := fl) (v0 (q := q6)) (v1 (q := q8))) (pss_one (ps_ost (pos := q14) (p' := q12) (f := gl) (v0 (q := q11)) (v2 (q := q13))))) hm
  rw [hB] at z
  refine ⟨_, z, ?_⟩
  obtain ⟨x, v, u, rfl, ea, q⟩ := h
  refine ⟨x, C, rfl, ea, Xc.T, Xc.sub, Xc.sup, Xc.ve, fun m hm => ⟨v, rfl, u, rfl, ?_⟩⟩
  have nxm : x ≠ m := ne_of_none ea hm
  refine ⟨by simp, upd_same, by rw [upd_ne nxm]; exact ea, ⟨v, rfl, .ref x, rfl, x, C, rfl, Xc.T, hn, .inl ⟨by rw [upd_ne nxm]; exact ea, fun dx hdx ne => ?_⟩⟩⟩
  have hm2 : dx ≠ m := fun e => by rw [e, upd_same] at hdx; cases hdx
  rw [upd_ne hm2] at hdx
  refine ⟨u, rfl, .ref x, rfl, x, C, rfl, Xc.T, hng, .inr ⟨dx, [(fl, v)], upd_same, by rw [upd_ne ne, upd_same], by simp, ?_⟩⟩
  rw [upd_swap ne]
  exact q m dx hm hdx hm2
end

/-! ### an exception made, as a value -/
def tMkX (C : Addr) (sp : Sp) (t : TA) : TE := fun σ H Q => t σ H fun vs H1 => vs.length ≤ 1000 ∧ ∀ a, H1 a = none → sp (.ref a :: vs) (upd H1 a (exo a C none)) (fun v H2 => v = .non ∧ Q (.ref a) H2) (fun _ _ _ => False)
section
variable {X : Cx} {e : Expr} {es : List Expr} {ta : TA} {p pos : Pos}
theorem pe_mkx {x : Str} {C fI : Addr} {k : Nat} {fd : FuncData} {ps : List Str} {sp : Sp} (T : OexC X.K C) (iC : PySem.W.findIn X.K (.ref C) "__init__" = some (some (.ref fI))) (tI : PySem.W.typeIn X.K (.ref fI) = some (.type "function"))
    (F1 : FnOk X.prog X.w X.K X.mg X.base (L2.CX X.prog X.w) k fI fd ps sp) (hr : Room (k + 1) X.A) (hb : Binds X.K fd ps []) (hg : Gl X x) (hm : X.mg x = some (.ref C)) (ha : PA X (e :: es) ta)
    (hdb : (x == ("__debug__" : Str)) = false := by decide) (he : starEach (e :: es) X.env = (false, eval e X.env) :: starEach es X.env := by rfl) (hpl : (backTo pos (starEach es X.env)).any (·.1) = false := by rfl) :
    PE X (.Call (.Name x p) (e :: es) [] pos) (tMkX C sp ta) := by
  refine ⟨fun pins s σ H Q I h => ?_⟩
  obtain ⟨nm, q, N, bs, bm, sn, sub, ab, col, dd, k0, k1, k2, k3, k5, hC, hbm⟩ := T.cls
  refine wpAny_Call_Name_kw (ld_glob I hg hm ?_ hdb)
  refine PySem.W.callWith_K (h₀ := X.base) I.ok.mod.kin T.kC (thn (ha.run pos pins s σ H _ I h) fun us s1 ⟨vs, H1, I1, r1, hz, q1⟩ => ⟨I1.kIn, ?_⟩) he hpl
  show wpAny _ _ (call (.ref C) us) _ _ _
  obtain ⟨hp, g, dr, tk, os⟩ := s1
  have big : hp.objs.size ≤ hp.objs.size + 1 := Nat.le_succ _
  have hn : H1 (hp.objs.size + 1) = none := I1.hok.fresh big
  have hq := q1 (hp.objs.size + 1) hn
  have two : ∀ b o, hp.get? b = some o → ((hp.push (PySem.W.kdv_tup us)).push (PySem.HandSPX.excO C hp.objs.size)).get? b = some o := fun b o z => Heap.get?_push_of_some _ (Heap.get?_push_of_some _ z)
  have here : ((hp.push (PySem.W.kdv_tup us)).push (PySem.HandSPX.excO C hp.objs.size)).get? (hp.objs.size + 1) = some (PySem.HandSPX.excO C hp.objs.size) := by heap_get
  have I2 : Inv X pins σ (upd H1 (hp.objs.size + 1) (exo (hp.objs.size + 1) C none)) ⟨(hp.push (PySem.W.kdv_tup us)).push (PySem.HandSPX.excO C hp.objs.size), g, dr, tk, os⟩ :=
    I1.laid (t' := tk) (a := hp.objs.size + 1) (o := exo (hp.objs.size + 1) C none) (h' := (hp.push (PySem.W.kdv_tup us)).push (PySem.HandSPX.excO C hp.objs.size)) two big (exo_ok here)
  have r2 : Vals (V.ref (hp.objs.size + 1) :: vs) (Value.ref (hp.objs.size + 1) :: us) := .cons rfl r1
  have hl : (Value.ref (hp.objs.size + 1) :: us ++ []).length = ps.length := by
    have z := r2.length
    rw [F1.len _ _ _ _ hq] at z
    rw [List.append_nil]
    exact z.symm
  have hus : us.length ≤ sizeLine := by
    rw [← Paired.length r1, sizeLine_eq]
    omega
  have hbn := hb _ (Value.ref (hp.objs.size + 1) :: us) I2.kIn hl
  rw [List.append_nil] at hbn
  refine wpAny_call (PySem.HandSPX.call_own F.excBase_ValueError (fun Y => PySem.HandSPX.refsVE_contains Y bm hbm) (I1.kIn _ _ hC) (PySem.W.looks_findIn I1.kIn iC) (fun self => PySem.W.bind_fn I1.kIn self tI) hus
    (codeAny_mono (F1.run _ X.stack _ _ ⟨Value.ref (hp.objs.size + 1) :: us, []⟩ (Value.ref (hp.objs.size + 1) :: us) _ _ (fun _ _ _ => False) (hr.make C us []) (I2.env0.make C us []) hbn r2 hq) fun r s' hq' => ?_))
  cases r with
  | error er => exact passF (E := fun _ _ _ => False) (fun _ _ _ z => z) pins σ _ _ er s' I2 hq'
  | ok fl =>
    cases fl with
    | ret u =>
      obtain ⟨v, H', I3, rv, ev, q3⟩ := I2.after hq'
      subst ev
      exact ⟨rv, ⟨V.ref (hp.objs.size + 1), H', I3, rfl, q3⟩⟩
    | next => exact False.elim hq'
    | brk => exact False.elim hq'
    | cont => exact False.elim hq'
variable {G : Gam X.K X.mg} {η : List LV} {cn : Str} {C : Addr} {fl gl : Str}
def mkE1 (cn fl : Str) : List D → R D
  | [d] => .ok (.exn cn [(fl, d)])
  | _ => .bad
def mkE2 (cn fl gl : Str) : List D → R D
  | [d, u] => .ok (.exn cn [(gl, u), (fl, d)])
  | _ => .bad
theorem held_exn {K : PySem.W.Frag} {mg : Str → Option Value} {G : Gam K mg} {H B : Hp} {σ : St} {η : List LV} {p : Pen} {x q dx : Addr} {us : List (Str × V)} {fs : List (Str × D)} (rl : Rel G H B σ η p) (hx : H x = none) (hq : upd H x (exo x C none) q = none) (hd : upd H x (exo x C none) dx = none) (ne : dx ≠ q) (hm : mg cn = some (.ref C)) (hf : DtFs K mg B us fs) :
    ∃ B', Same B B' ∧ Rel G (upd (upd (upd (upd H x (exo x C none)) q (mwO q x)) dx (exd dx us)) x (exo x C (some dx))) B' σ η p ∧ Dt K mg B' (.ref x) (.exn cn fs) := by
  have qx : q ≠ x := fun e => by rw [e, upd_same] at hq; cases hq
  have dxx : dx ≠ x := fun e => by rw [e, upd_same] at hd; cases hd
  rw [upd_ne qx] at hq
  rw [upd_ne dxx] at hd
  have e : upd (upd (upd (upd H x (exo x C none)) q (mwO q x)) dx (exd dx us)) x (exo x C (some dx)) = upd (upd (upd H q (mwO q x)) dx (exd dx us)) x (exo x C (some dx)) := by
    funext c
    by_cases h1 : c = x
    · rw [h1, upd_same, upd_same]
    · rw [upd_ne h1, upd_ne h1]
      by_cases h2 : c = dx
      · rw [h2, upd_same, upd_same]
      · rw [upd_ne h2, upd_ne h2]
        by_cases h3 : c = q
        · rw [h3, upd_same, upd_same]
        · rw [upd_ne h3, upd_ne h3, upd_ne h1]
  rw [e]
  have r1 := rl.new (o := mwO q x) hq
  have r2 := r1.born (o := exd dx us) (l := dx) True.intro (by rw [upd_ne ne]; exact hd)
  have r3 := r2.born (o := exo x C (some dx)) (l := x) True.intro (by rw [upd_ne dxx.symm, upd_ne qx.symm]; exact hx)
  have bd : B dx = none := rl.none_of hd
  have bx : upd B dx (exd dx us) x = none := by rw [upd_ne dxx.symm]; exact rl.none_of hx
  have s2 := same_upd (o := exd dx us) bd
  have s3 := same_upd (o := exo x C (some dx)) bx
  exact ⟨_, s2.trans s3, r3, .exn hm upd_same (by rw [upd_ne dxx, upd_same]) (DtFs.mono (s2.trans s3) _ _ hf)⟩
theorem dx_mkE1 {fI : Addr} {k : Nat} {fd : FuncData} {ps : List Str} {rs : M (List D)} (T : OexC X.K C) (iC : PySem.W.findIn X.K (.ref C) "__init__" = some (some (.ref fI))) (tI : PySem.W.typeIn X.K (.ref fI) = some (.type "function"))
    (F1 : FnOk X.prog X.w X.K X.mg X.base (L2.CX X.prog X.w) k fI fd ps (spE1 C fl)) (hr : Room (k + 1) X.A) (hb : Binds X.K fd ps []) (hg : Gl X cn) (hm : X.mg cn = some (.ref C)) (ha : DXa X G η (e :: es) rs)
    (hdb : (cn == ("__debug__" : Str)) = false := by decide) (he : starEach (e :: es) X.env = (false, eval e X.env) :: starEach es X.env := by rfl) (hpl : (backTo pos (starEach es X.env)).any (·.1) = false := by rfl) :
    DX X G η (.Call (.Name cn p) (e :: es) [] pos) (rs >>= fun ds => M.lift (mkE1 cn fl ds)) := by
  refine PE.pre (pe_mkx T iC tI F1 hr hb hg hm ha.1 hdb he hpl) fun σ H Q ⟨B, p, rl, q⟩ => ⟨B, p, rl, q.bind.imp ?_⟩
  rintro vs H1 ⟨B1, p1, ds, s1, rl1, d1, q1⟩
  rw [M.lift_def] at q1
  match ds, d1, q1 with
  | [d], .cons (v := v) hd .nil, q1 =>
    refine ⟨by simp, fun x hx => ⟨x, v, rfl, upd_same, fun m dx hm1 hd1 ne => ⟨rfl, ?_⟩⟩⟩
    obtain ⟨B2, s2, r2, d2⟩ := held_exn (C := C) (cn := cn) (us := [(fl, v)]) (fs := [(fl, d)]) rl1 hx hm1 hd1 ne hm (.cons hd .nil)
    exact q1 (.ref x) _ B2 s2 r2 d2
  | [], _, q1 => exact q1.elim
  | _ :: _ :: _, _, q1 => exact q1.elim
theorem dx_mkE2 {fI : Addr} {k : Nat} {fd : FuncData} {ps : List Str} {rs : M (List D)} (T : OexC X.K C) (iC : PySem.W.findIn X.K (.ref C) "__init__" = some (some (.ref fI))) (tI : PySem.W.typeIn X.K (.ref fI) = some (.type "function"))
    (F1 : FnOk X.prog X.w X.K X.mg X.base (L2.CX X.prog X.w) k fI fd ps (spE2 C fl gl)) (hr : Room (k + 1) X.A) (hb : Binds X.K fd ps []) (hg : Gl X cn) (hm : X.mg cn = some (.ref C)) (ha : DXa X G η (e :: es) rs)
    (hdb : (cn == ("__debug__" : Str)) = false := by decide) (he : starEach (e :: es) X.env = (false, eval e X.env) :: starEach es X.env := by rfl) (hpl : (backTo pos (starEach es X.env)).any (·.1) = false := by rfl) :
    DX X G η (.Call (.Name cn p) (e :: es) [] pos) (rs >>= fun ds => M.lift (mkE2 cn fl gl ds)) := by
  refine PE.pre (pe_mkx T iC tI F1 hr hb hg hm ha.1 hdb he hpl) fun σ H Q ⟨B, p, rl, q⟩ => ⟨B, p, rl, q.bind.imp ?_⟩
  rintro vs H1 ⟨B1, p1, ds, s1, rl1, d1, q1⟩
  rw [M.lift_def] at q1
  match ds, d1, q1 with
  | [d, d'], .cons (v := v) hd (.cons (v := v') hd' .nil), q1 =>
    refine ⟨by simp, fun x hx => ⟨x, v, v', rfl, upd_same, fun m dx hm1 hd1 ne => ⟨rfl, ?_⟩⟩⟩
    obtain ⟨B2, s2, r2, d2⟩ := held_exn (C := C) (cn := cn) (us := [(gl, v'), (fl, v)]) (fs := [(gl, d'), (fl, d)]) rl1 hx hm1 hd1 ne hm (.cons hd' (.cons hd .nil))
    exact q1 (.ref x) _ B2 s2 r2 d2
  | [], _, q1 => exact q1.elim
  | [_], _, q1 => exact q1.elim
  | _ :: _ :: _ :: _, _, q1 => exact q1.elim

/-! ### its fields -/
def tXF (K : PySem.W.Frag) (ta : TE) (f : Str) : TE := fun σ H Q => ta σ H fun x H1 => ∃ a C dx fs v, x = .ref a ∧ H1 a = some (exo a C (some dx)) ∧ H1 dx = some (exd dx fs) ∧ XfC K C ∧ PySem.W.findIn K (.ref C) f = some none ∧ fs.lookup f = some v ∧ Q v H1
theorem exn_at {pins : List (Addr × Obj)} {σ : St} {H : Hp} {s : Shared} {a dx : Addr} {fs : List (Str × V)} (I : Inv X pins σ H s) (ea : H a = some (exo a C (some dx))) (ed : H dx = some (exd dx fs)) :
    ∃ (ox od : Obj) (mA : Str → Option Value), PySem.W.InstAt s.heap a ox C (some od) ∧ (∀ f, PySem.W.lookIn f od = some (mA f)) ∧ ∀ f, RelO (fs.lookup f) (mA f) := by
  obtain ⟨t1, hx⟩ := exo_at I.hok ea
  obtain ⟨mA, hns, rel⟩ := exd_at I.hok ed
  obtain ⟨od, ho, hl⟩ := lookIn_ns hns
  exact ⟨_, od, mA, ⟨hx, rfl, rfl, ho⟩, hl, rel⟩
theorem pe_xfld {f : Str} {te : TE} (he : PE X e te) (hb : attributeBase e f X.env (eval e X.env) = eval e X.env) : PE X (.Attribute e f pos) (tXF X.K te f) := by
  refine ⟨fun pins s σ H Q I h => ?_⟩
  refine attr_of hb (thn (he.run pins s σ H _ I h) fun u s1 ⟨x, H1, I1, rx, a, C, dx, fs, v, ex, ea, ed, T, hno, l, q⟩ => ?_)
  subst ex
  obtain rfl : u = Value.ref a := rx
  obtain ⟨ox, od, mA, J, hl, rel⟩ := exn_at I1 ea ed
  obtain ⟨y, hy, ry⟩ := RelO.some_of (v := v) (o := mA f) (by rw [← l]; exact rel f)
  exact HandSPX.exc_get I1.kIn J T.ga T.gg T.exC (PySem.W.findObj_own T.hdC hno rfl (by rw [hl, hy])) (handed_of ry) ⟨v, H1, I1.tok _, ry, q⟩
/-- e.f, of an exception of one of these classes -/
def fldX (cs : List Str) (f : Str) : D → R D
  | .exn c fs => if c ∈ cs then fldL fs f else .bad
  | _ => .bad
theorem dx_fldX {f : Str} {cs : List Str} {re : M D} (hC : ∀ c ∈ cs, ∀ C, X.mg c = some (.ref C) → XfC X.K C ∧ PySem.W.findIn X.K (.ref C) f = some none) (he : DX X G η e re) (hb : attributeBase e f X.env (eval e X.env) = eval e X.env := by rfl) :
    DX X G η (.Attribute e f pos) (re >>= fun d => M.lift (fldX cs f d)) := by
  refine PE.pre (pe_xfld he hb) fun σ H Q ⟨B, p, rl, q⟩ => ⟨B, p, rl, q.bind.imp ?_⟩
  rintro v H1 ⟨B1, p1, d, s1, rl1, d1, q1⟩
  rw [M.lift_def] at q1
  cases d1 with
  | @exn a C dx c us xs h0 h1 h2 h3 =>
    have q1 : Post G σ η (fun B _ v x => Dt X.K X.mg B v x) B1 ((if c ∈ cs then fldL xs f else R.bad), p1) Q := q1
    by_cases hc : c ∈ cs
    · rw [if_pos hc] at q1
      unfold fldL at q1
      cases el : xs.lookup f with
      | none => rw [el] at q1; exact q1.elim
      | some d =>
        rw [el] at q1
        obtain ⟨v, l, dt⟩ := h3.look el
        obtain ⟨k1, k2⟩ := hC c hc C h0
        exact ⟨a, C, dx, us, v, rfl, rl1.sub _ _ h1, rl1.sub _ _ h2, k1, k2, l, q1.lift rl1 dt⟩
    · rw [if_neg hc] at q1
      exact q1.elim
  | _ => exact q1.elim
end
end L2.Ly

set_option Elab.async false
set_option linter.all false
set_option maxRecDepth 100000
set_option maxHeartbeats 4000000
/-! Ly15: own == and bool(), isinstance of own classes, repr. -/
namespace BoolOwn
open PySem PySem.W
section
variable {prog : Program} {w : World} {A : Around} {E : Value → Shared → Prop} {s : Shared}
theorem bool_any {x : Addr} {Q : Value → Shared → Prop}
    (h : ∀ (E' : Value → Shared → Prop) (Q' : Bool → Shared → Prop), (∀ b s', Q (.bool b) s' → Q' b s') → (∀ e s', E e s' → E' e s') → wpAny (model prog w) A.in1.in1 (truthy (.ref x)) Q' E' s) :
    wpAny (model prog w) A (call (.type "bool") [.ref x]) Q E s := by
  refine ks_callType_codesW (Q₁ := fun obj s₁ => ∃ b, obj = .bool b ∧ Q (.bool b) s₁) F.called_bool (fun hq => wpAny_of_eq (F.typeCall_bool_1 _) hq) F.entry_object_init ?_ fun obj s₁ h₁ => ?_
  · refine codeAny_call_builtin (by decide +kernel) F.entry_bool_new ?_
    obtain ⟨hp, g, d, tk, os⟩ := s
    have f1 := F.conv_sub_bool
    repeat (any_goals (first | assumption | (with_reducible refine h _ _ ?_ ?_) | wp_step))
    refine wpAny_of_eq (F.newCall_bool_1 _) ?_
    repeat (any_goals (first | assumption | (with_reducible refine h _ _ ?_ ?_) | wp_step))
    · intro b s' q
      repeat (any_goals (first | assumption | wp_step))
      exact ⟨b, rfl, q⟩
    · exact fun e s' q => q
  · obtain ⟨b, rfl, hq⟩ := h₁
    refine ⟨rfl, F.args_object_init_2 _ _, ?_⟩
    exact object_init_meets F.called_bool.init.lookup F.called_bool.made F.newNe_bool prog w A.in1 _ s₁ ⟨rfl, rfl, hq⟩
/-- the right one's class lies below the left one's: it is asked first -/
theorem cmp_below {K : Frag} {x b C Cb f : Addr} {ox oxb : Obj} {od odb : Option Obj} {Q : Value → Shared → Prop} (hu : A.units < cLine) (X : K.In s.heap) (I : InstAt s.heap x ox C od) (J : InstAt s.heap b oxb Cb odb) (ne : Cb ≠ C) (hn : subIn K (.ref Cb) (.ref C) = some true)
    (hs : findIn K (.ref Cb) "__eq__" = some (some (.ref f))) (hf : isFn K (.ref f) = true) (h : wpAny (model prog w) A (call (.ref f) [.ref b, .ref x]) (CmpBack Q) E s) : wpAny (model prog w) A (richCompare .Eq (.ref x) (.ref b)) Q E s := by
  have one : wpAny (model prog w) A (tryCompare (.ref b) (cmpInfo .Eq).2.2 (.ref x)) (fun r s' => ∃ v, r = some v ∧ Q v s') E s := by
    unfold tryCompare
    refine wpAny_bind (ifBound_K X J hs hf (wpAny_mono h (fun v s' hv => ?_) fun _ _ e => e))
    cases v <;> first | exact hv.elim | exact wpAny_pure ⟨_, rfl, hv⟩
  unfold richCompare
  simp only [oneThing_ref]
  refine wpAny_holding (wpAny_bind (wpAny_cRoomFor hu ?_))
  refine wpAny_bind (I.type.here (wpAny_bind (J.type.here ?_)))
  rw [if_pos (show (Value.ref C != Value.ref Cb) = true by simp [Ne.symm ne])]
  refine wpAny_bind ((looks_subIn X hn).here ?_)
  rw [if_pos rfl]
  refine wpAny_bind (wpAny_mono one (fun r s' z => ?_) fun _ _ e => e)
  obtain ⟨v, rfl, hq⟩ := z
  repeat (any_goals (first | assumption | wp_step))
end
end BoolOwn
namespace L2.Ly
open PySem PySem.Spec PyProof.Rows

/-- the class at C has its own method of this name; sp: its promise -/
def OwnM (X : Cx) (name : Str) (C : Addr) (sp : Sp) : Prop := ∃ f fd ps k, FnOk X.prog X.w X.K X.mg X.base (L2.CX X.prog X.w) k f fd ps sp ∧ Room (k + 2) X.A ∧ Binds X.K fd ps [] ∧ PySem.W.findIn X.K (.ref C) name = some (some (.ref f)) ∧ PySem.W.isFn X.K (.ref f) = true
section
variable {X : Cx} {pins : List (Addr × Obj)} {σ : St} {H : Hp} {s : Shared}
theorem run_own {A : Around} {k : Nat} {f : Addr} {fd : FuncData} {ps : List Str} {sp : Sp} {us : List Value} {vs : List V} {Q : VK} {E : Value → Shared → Prop} (Fk : FnOk X.prog X.w X.K X.mg X.base (L2.CX X.prog X.w) k f fd ps sp) (hr : Room k A) (hf : A.frames = X.A.frames) (hb : Binds X.K fd ps []) (I : Inv X pins σ H s) (r : Vals vs us)
    (h : sp vs H Q (fun _ _ _ => False)) : wpAny (model X.prog X.w) A (call (.ref f) us) (EP X pins σ Q) E s := by
  have e0 : Env0 X.prog X.w X.K X.mg X.base A X.stack s H := by
    have e := I.env0
    exact ⟨by rw [hf]; exact e.frames, e.mod, e.bs, e.bsz, e.funs, e.frf, e.hok, e.bare⟩
  have hl := Fk.len _ _ _ _ h
  have lu : (us ++ []).length = ps.length := by rw [List.append_nil, ← r.length]; exact hl
  have bd := hb s us I.kIn lu
  rw [List.append_nil] at bd
  refine wpAny_call (codeAny_mono (Fk.run A X.stack s H ⟨us, []⟩ us vs Q _ hr e0 bd r h) fun rr s' hq => ?_)
  cases rr with
  | error e => exact (let ⟨_, _, _, _, _, _, _, _, _, _, _, _, z⟩ := hq; z.elim)
  | ok fl =>
    cases fl with
    | ret u => exact I.after hq
    | next => exact False.elim hq
    | brk => exact False.elim hq
    | cont => exact False.elim hq
def bQ (Q : VK) : VK := fun v H => (∃ b, v = .bl b) ∧ Q v H
/-- bool(e) of an instance -/
def rBoolO (X : Cx) : List V → Hp → VK → Prop := fun xs H Q => ∃ a C dx fs sp, xs = [.ref a] ∧ H a = some (.ins C dx fs) ∧ OwnM X "__bool__" C sp ∧ sp [.ref a] H (bQ Q) (fun _ _ _ => False)
theorem call_boolO : CallR X (.type "bool") (rBoolO X) := by
  intro pins s σ H xs us Q I r h
  obtain ⟨a, C, dx, fs, sp, rfl, ea, ⟨f, fd, ps, k, Fk, hr, hb, hs, hf⟩, hq⟩ := h
  obtain rfl := Vals.ref1 r
  obtain ⟨mA, O, _⟩ := ins_get I.hok ea
  obtain ⟨od, J, _⟩ := O.look
  obtain ⟨m, hF⟩ := I.fr
  refine BoolOwn.bool_any fun E' Q' k1 k2 => PySem.W.truthy_K hF I.ok.mod.kin J hs hf ?_
  refine wpAny_mono (run_own (vs := [.ref a]) (E := E') Fk hr.in1.in1 rfl hb I (.cons rfl .nil) hq) (fun v s' z => ?_) fun _ _ e => e
  obtain ⟨x, H', I', rx, ⟨b, rfl⟩, q⟩ := z
  cases rx
  exact k1 b s' ⟨.bl b, H', I', rfl, q⟩
/-- a == b, a an instance with its own == -/
def rEqO (X : Cx) : R2 := fun x y H Q => (∃ a C dx fs sp t, x = .ref a ∧ H a = some (.ins C dx fs) ∧ OwnM X "__eq__" C sp ∧ TyX X.K H y t ∧ PySem.W.notFirst X.K C t = true ∧ sp [x, y] H (bQ Q) (fun _ _ _ => False)) ∨
  ∃ a C dx fs b Cb dy gs sp, x = .ref a ∧ H a = some (.ins C dx fs) ∧ y = .ref b ∧ H b = some (.ins Cb dy gs) ∧ Cb ≠ C ∧ PySem.W.subIn X.K (.ref Cb) (.ref C) = some true ∧ OwnM X "__eq__" Cb sp ∧ sp [y, x] H (bQ Q) (fun _ _ _ => False)
theorem cmp_back {Q : VK} {v : Value} {s' : Shared} (z : EP X pins σ (bQ Q) v s') : PySem.W.CmpBack (EP X pins σ Q) v s' := by
  obtain ⟨x, H', I', rx, ⟨b, rfl⟩, q⟩ := z
  cases rx
  exact ⟨.bl b, H', I', rfl, q⟩
theorem op_eqO : OpR X (compareOp .Eq) (rEqO X) := by
  intro pins s σ H x y v u Q I rx ry h
  show wpAny (model X.prog X.w) X.A (richCompare .Eq v u) (EP X pins σ Q) X.xe s
  obtain ⟨m, hF⟩ := I.fr
  rcases h with ⟨a, C, dx, fs, sp, t, rfl, ea, ⟨f, fd, ps, k, Fk, hr, hb, hs, hf⟩, ty, hn, hq⟩ | ⟨a, C, dx, fs, b, Cb, dy, gs, sp, rfl, ea, rfl, eb, ne, hn, ⟨f, fd, ps, k, Fk, hr, hb, hs, hf⟩, hq⟩
  · obtain rfl : v = Value.ref a := rx
    obtain ⟨mA, O, _⟩ := ins_get I.hok ea
    obtain ⟨od, J, _⟩ := O.look
    obtain ⟨P, Z, p, _⟩ := kit_of I ry ty
    exact PySem.W.cmp_K (op := .Eq) hr.units0 hF I.ok.mod.kin J (Z.ty _ _ I.kIn p) hn hs hf (wpAny_mono (run_own (vs := [.ref a, y]) Fk (hr.mono (by omega)) rfl hb I (.cons rfl (.cons ry .nil)) hq) (fun v s' z => cmp_back z) fun _ _ e => e)
  · obtain rfl : v = Value.ref a := rx
    obtain rfl : u = Value.ref b := ry
    obtain ⟨mA, O, _⟩ := ins_get I.hok ea
    obtain ⟨od, J, _⟩ := O.look
    obtain ⟨mB, O2, _⟩ := ins_get I.hok eb
    obtain ⟨od2, J2, _⟩ := O2.look
    exact BoolOwn.cmp_below hr.units0 I.kIn J J2 ne hn hs hf (wpAny_mono (run_own (vs := [.ref b, .ref a]) Fk (hr.mono (by omega)) rfl hb I (.cons rfl (.cons rfl .nil)) hq) (fun v s' z => cmp_back z) fun _ _ e => e)
end

/-- a def that gives r, without a pen, as a promise of data -/
theorem sp_pure {K : PySem.W.Frag} {mg : Str → Option Value} {G : Gam K mg} {H B : Hp} {σ : St} {η : List LV} {p : Pen} {vs : List V} {xs : List D} {m : List AV → M D} {d : D} {Q : VK} (rl : Rel G H B σ η p) (h : DtAll K mg B vs xs) (hm : (m (xs.map AV.d) p).1 = .ok d)
    (q : ∀ v H' B', Same B B' → Rel G H' B' σ η p → Dt K mg B' v d → Q v H') : spD K mg m vs H Q (fun _ _ _ => False) := by
  have av : ∀ {vs : List V} {xs : List D}, DtAll K mg B vs xs → AvAll K mg B none vs (xs.map AV.d) := by
    intro vs xs h
    induction xs generalizing vs with
    | nil => cases h; exact .nil
    | cons x xs ih => cases h with | cons a t => exact .d a (ih t)
  refine ⟨B, p, none, xs.map AV.d, rl.sub, rl.sz, fun a h => (nomatch h), av h, ?_⟩
  rw [hm]
  exact fun v H' B' g dt => q v H' B' g.bb (rl.called g) dt
section
variable {X : Cx} {G : Gam X.K X.mg} {η : List LV} {e a : Expr} {es : List Expr} {pos p1 p2 p3 : Pos}
def boolO (cs : List (Str × Bool)) : D → R D
  | .ins c _ => match cs.lookup c with
    | some b => .ok (.bl b)
    | none => .bad
  | _ => .bad
theorem call_boolD {cs : List (Str × Bool)} (hC : ∀ c b, cs.lookup c = some b → ∀ C, X.mg c = some (.ref C) → ∃ m, OwnM X "__bool__" C (spD X.K X.mg m) ∧ ∀ x p, (m [.d x] p).1 = .ok (.bl b)) : CallS1 X (.type "bool") (boolO cs) := by
  refine ⟨_, call_boolO, fun G η σ B H p v x Q rl h q => ?_⟩
  cases h with
  | @ins a C dx c us xs h0 h1 h2 =>
    have q : Post G σ η (rD X.K X.mg) B ((match cs.lookup c with | some b => R.ok (D.bl b) | none => R.bad), p) Q := q
    cases el : cs.lookup c with
    | none => rw [el] at q; exact q.elim
    | some b =>
      rw [el] at q
      obtain ⟨m, om, hm⟩ := hC c b el C h0
      refine ⟨a, C, dx, us, _, rfl, rl.sub _ _ h1, om, ?_⟩
      refine sp_pure (xs := [.ins c xs]) rl (.cons (.ins h0 h1 h2) .nil) (hm _ p) fun v H' B' s' r' dt => ?_
      cases dt
      exact ⟨⟨b, rfl⟩, q _ H' B' s' r' (.bl b)⟩
  | _ => exact q.elim
/-- a == b by m, the own == of these classes; below: pairs of a class and one above it -/
def eqO2 (cs : List Str) (below : List (Str × Str)) (m : D → D → R D) (c : Str) (x : D) : D → R D
  | .ins c' fs => if c' ∈ cs then (if (c', c) ∈ below then m (.ins c' fs) x else m x (.ins c' fs)) else .bad
  | .exn _ _ => .bad
  | y => m x y
def eqO (cs : List Str) (below : List (Str × Str)) (m : D → D → R D) : D → D → R D
  | .ins c fs, y => if c ∈ cs then eqO2 cs below m c (.ins c fs) y else .bad
  | _, _ => .bad
theorem op_eqOD {cs : List Str} {below : List (Str × Str)} {m : D → D → R D} (hm : ∀ x y d, m x y = .ok d → ∃ b, d = .bl b) (he : ∀ x y e, m x y ≠ .err e)
    (hC : ∀ c ∈ cs, ∀ C, X.mg c = some (.ref C) → ∃ mm, OwnM X "__eq__" C (spD X.K X.mg mm) ∧ ∀ x y p, (mm [.d x, .d y] p).1 = m x y)
    (hB : ∀ c ∈ cs, ∀ C, X.mg c = some (.ref C) → ∀ t ∈ ["NoneType", "bool", "int", "str", "tuple", "list", "dict"], PySem.W.notFirst X.K C (.type t) = true)
    (hI : ∀ c ∈ cs, ∀ C, X.mg c = some (.ref C) → ∀ c' ∈ cs, ∀ C', X.mg c' = some (.ref C') → if (c', c) ∈ below then C' ≠ C ∧ PySem.W.subIn X.K (.ref C') (.ref C) = some true else PySem.W.notFirst X.K C (.ref C') = true)
    (hT : ∀ c ∈ cs, ∀ C, X.mg c = some (.ref C) → Cls X.K C ∧ PySem.W.findIn X.K (.ref C) "__class__" = some (some (.builtin "object.__class__")) ∧ PySem.W.specialIn X.K (.builtin "object.__class__") "__get__" = some (some (.builtin "getset_descriptor.__get__")) ∧ PySem.W.takesIn X.K (.builtin "object.__class__") = some true ∧ PySem.W.mroIn X.K C (.type "object") = some true) :
    OpS X (compareOp .Eq) (eqO cs below m) := by
  refine ⟨_, op_eqO, fun G η σ B H p v w x y Q rl h1 h2 q => ?_⟩
  cases h1 with
  | @ins a C dx c us xs k0 k1 k2 =>
    have q : Post G σ η (rD X.K X.mg) B ((if c ∈ cs then eqO2 cs below m c (.ins c xs) y else R.bad), p) Q := q
    by_cases hc : c ∈ cs
    · rw [if_pos hc] at q
      obtain ⟨mm, om, hmm⟩ := hC c hc C k0
      have ea := rl.sub _ _ k1
      have own : ∀ (x y : D) (v w : V) (mm : List AV → M D), (∀ x y p, (mm [.d x, .d y] p).1 = m x y) → Dt X.K X.mg B v x → Dt X.K X.mg B w y → Post G σ η (rD X.K X.mg) B (m x y, p) Q → spD X.K X.mg mm [v, w] H (bQ Q) (fun _ _ _ => False) := by
        intro x y v w mm hmm d1 d2 q
        cases em : m x y with
        | err z => exact absurd em (he _ _ _)
        | bad => rw [em] at q; exact q.elim
        | ok d =>
          rw [em] at q
          obtain ⟨b, rfl⟩ := hm x y d em
          refine sp_pure (xs := [x, y]) rl (.cons d1 (.cons d2 .nil)) ((hmm x y p).trans em) fun v H' B' s' r' dt => ?_
          cases dt
          exact ⟨⟨b, rfl⟩, q _ H' B' s' r' (.bl b)⟩
      have plain : ∀ (hx : ∀ c fs, y ≠ .ins c fs ∧ y ≠ .exn c fs), Post G σ η (rD X.K X.mg) B (m (.ins c xs) y, p) Q → rEqO X (.ref a) w H Q := fun hx q => by
        refine .inl ⟨a, C, dx, us, _, _, rfl, ea, om, tyX_of rl.sub h2 hx, hB c hc C k0 _ ?_, own _ _ _ _ mm hmm (.ins k0 k1 k2) h2 q⟩
        cases y with
        | ins c fs => exact absurd rfl (hx c fs).1
        | exn c fs => exact absurd rfl (hx c fs).2
        | _ => simp [tyName]
      cases y with
      | ins c' fs' =>
        by_cases hc' : c' ∈ cs
        · have q : Post G σ η (rD X.K X.mg) B ((if c' ∈ cs then (if (c', c) ∈ below then m (.ins c' fs') (.ins c xs) else m (.ins c xs) (.ins c' fs')) else R.bad), p) Q := q
          rw [if_pos hc'] at q
          have h2' := h2
          cases h2 with
          | @ins b C' dy _ us' _ j0 j1 j2 =>
            have hI := hI c hc C k0 c' hc' C' j0
            by_cases hb : (c', c) ∈ below
            · rw [if_pos hb] at q hI
              obtain ⟨mm', om', hmm'⟩ := hC c' hc' C' j0
              exact .inr ⟨a, C, dx, us, b, C', dy, us', _, rfl, ea, rfl, rl.sub _ _ j1, hI.1, hI.2, om', own _ _ _ _ mm' hmm' h2' (.ins k0 k1 k2) q⟩
            · rw [if_neg hb] at q hI
              obtain ⟨t1, t2, t3, t4, t5⟩ := hT c' hc' C' j0
              exact .inl ⟨a, C, dx, us, _, _, rfl, ea, om, .base (.ins (rl.sub _ _ j1) t1 t2 t3 t4 t5), hI, own _ _ _ _ mm hmm (.ins k0 k1 k2) h2' q⟩
        · have q : Post G σ η (rD X.K X.mg) B ((if c' ∈ cs then (if (c', c) ∈ below then m (.ins c' fs') (.ins c xs) else m (.ins c xs) (.ins c' fs')) else R.bad), p) Q := q
          rw [if_neg hc'] at q
          exact q.elim
      | exn c' fs' => exact q.elim
      | _ => exact plain (fun _ _ => by simp) q
    · rw [if_neg hc] at q
      exact q.elim
  | _ => exact q.elim

/-! ### isinstance of own classes -/
def rIsiG (K : PySem.W.Frag) : List V → Hp → VK → Prop := fun xs H Q => ∃ (x c : V) (t u : Value) (b : Bool), xs = [x, c] ∧ ClsV c u ∧ (TyX K H x t ∨ ∃ a C dx fs, x = .ref a ∧ t = .ref C ∧ H a = some (exo a C (some dx)) ∧ H dx = some (exd dx fs) ∧ L2.ExcC K C) ∧ PySem.W.kitOne K t u = some b ∧ Q (.bl b) H
theorem call_isiG : CallR X (.builtin "isinstance") (rIsiG X.K) := by
  intro pins s σ H xs us Q I r h
  obtain ⟨x, c, t, u, b, rfl, k, ty, e, q⟩ := h
  obtain ⟨u1, u2, rfl, r1, r2⟩ := vals2 r
  have e2 := k.eq r2
  subst e2
  rcases ty with ty | ⟨a, C, dx, fs, rfl, rfl, ea, ed, T⟩
  · obtain ⟨P, Z, p, hx⟩ := kit_of I r1 ty
    exact PySem.W.kia_one Z I.kIn p e hx fun tk => ⟨.bl b, H, I.tok tk, rfl, q⟩
  · obtain rfl : u1 = Value.ref a := r1
    obtain ⟨ox, od, mA, J, _, _⟩ := exn_at I ea ed
    have hcl : (PySem.W.clsIn X.K C).isSome = true := by
      obtain ⟨cd, hc, _⟩ := PySem.W.any_some T.hd
      rw [hc]; rfl
    exact PySem.W.kia_one (PySem.W.kitx_exc hcl T.hg T.hk T.hs T.ha T.hn T.ht T.hm) I.kIn J e (fun z => nomatch z) fun tk => ⟨.bl b, H, I.tok tk, rfl, q⟩
/-- isinstance(x, T): cs the answer by class; pl: asked of plain data too (an own class: no) -/
def isaI (cs : List (Str × Bool)) (pl : Bool) : D → R D
  | .ins c _ => match cs.lookup c with
    | some b => .ok (.bl b)
    | none => .bad
  | .exn _ _ => .bad
  | _ => if pl = true then .ok (.bl false) else .bad
def isaE (cs : List (Str × Bool)) : D → R D
  | .exn c _ => match cs.lookup c with
    | some b => .ok (.bl b)
    | none => .bad
  | _ => .bad
theorem dx_isaO {T : Str} {cs : List (Str × Bool)} {pl : Bool} {ra : M D} {tv : V} {u : Value} (hg : Gl X "isinstance") (hm : X.mg "isinstance" = none) (ha : DX X G η a ra) (hb : PE X (.Name T p2) (tC tv)) (hu : ClsV tv u)
    (hC : ∀ c b, cs.lookup c = some b → ∀ C, X.mg c = some (.ref C) → PySem.W.kitOne X.K (.ref C) u = some b)
    (hT : ∀ c b, cs.lookup c = some b → ∀ C, X.mg c = some (.ref C) → (Cls X.K C ∧ PySem.W.findIn X.K (.ref C) "__class__" = some (some (.builtin "object.__class__")) ∧ PySem.W.specialIn X.K (.builtin "object.__class__") "__get__" = some (some (.builtin "getset_descriptor.__get__")) ∧ PySem.W.takesIn X.K (.builtin "object.__class__") = some true ∧ PySem.W.mroIn X.K C (.type "object") = some true))
    (hP : pl = true → ∀ t ∈ ["NoneType", "bool", "int", "str", "tuple", "list", "dict"], PySem.W.kitOne X.K (.type t) u = some false)
    (hs : starEach [a, .Name T p2] X.env = (false, eval a X.env) :: starEach [.Name T p2] X.env := by rfl) (hs2 : starEach [.Name T p2] X.env = (false, eval (.Name T p2) X.env) :: starEach [] X.env := by rfl)
    (hpl : (backTo pos (starEach [.Name T p2] X.env)).any (·.1) = false := by rfl) : DX X G η (.Call (.Name "isinstance" p1) [a, .Name T p2] [] pos) (ra >>= fun x => M.lift (isaI cs pl x)) := by
  refine PE.pre (pe_callB call_isi hg hm (by decide +kernel) (pa_cons ha (pa_cons hb pa_nil hs2) hs) (by decide) (by decide) hs hpl) fun σ H Q ⟨B, p, rl, q⟩ => ⟨B, p, rl, q.bind.imp ?_⟩
  rintro v H1 ⟨B1, p1, x, s1, rl1, d1, q1⟩
  rw [M.lift_def] at q1
  have plain : (∀ c fs, x ≠ .ins c fs ∧ x ≠ .exn c fs) → Post G σ η (fun B _ v x => Dt X.K X.mg B v x) B1 ((if pl = true then R.ok (D.bl false) else R.bad), p1) Q → rIsi X.K [v, tv] H1 Q := fun hx q1 => by
    by_cases hp : pl = true
    · rw [if_pos hp] at q1
      refine ⟨v, tv, _, u, false, rfl, hu, tyX_of rl1.sub d1 hx, hP hp _ ?_, q1.lift rl1 (.bl _)⟩
      cases x with
      | ins c fs => exact absurd rfl (hx c fs).1
      | exn c fs => exact absurd rfl (hx c fs).2
      | _ => simp [tyName]
    · rw [if_neg hp] at q1
      exact q1.elim
  cases x with
  | ins c fs =>
    cases d1 with
    | @ins b C dx _ us _ h0 h1 h2 =>
      have q1 : Post G σ η (fun B _ v x => Dt X.K X.mg B v x) B1 ((match cs.lookup c with | some b => R.ok (D.bl b) | none => R.bad), p1) Q := q1
      cases el : cs.lookup c with
      | none => rw [el] at q1; exact q1.elim
      | some bb =>
        rw [el] at q1
        obtain ⟨t1, t2, t3, t4, t5⟩ := hT c bb el C h0
        exact ⟨.ref b, tv, .ref C, u, bb, rfl, hu, .base (.ins (rl1.sub _ _ h1) t1 t2 t3 t4 t5), hC c bb el C h0, q1.lift rl1 (.bl _)⟩
  | exn c fs => exact q1.elim
  | _ => exact plain (fun _ _ => by simp) q1
/-- .. of exceptions -/
theorem dx_isaX {T : Str} {cs : List (Str × Bool)} {ra : M D} {tv : V} {u : Value} (hg : Gl X "isinstance") (hm : X.mg "isinstance" = none) (ha : DX X G η a ra) (hb : PE X (.Name T p2) (tC tv)) (hu : ClsV tv u)
    (hC : ∀ c b, cs.lookup c = some b → ∀ C, X.mg c = some (.ref C) → PySem.W.kitOne X.K (.ref C) u = some b ∧ L2.ExcC X.K C)
    (hs : starEach [a, .Name T p2] X.env = (false, eval a X.env) :: starEach [.Name T p2] X.env := by rfl) (hs2 : starEach [.Name T p2] X.env = (false, eval (.Name T p2) X.env) :: starEach [] X.env := by rfl)
    (hpl : (backTo pos (starEach [.Name T p2] X.env)).any (·.1) = false := by rfl) : DX X G η (.Call (.Name "isinstance" p1) [a, .Name T p2] [] pos) (ra >>= fun x => M.lift (isaE cs x)) := by
  refine PE.pre (pe_callB call_isiG hg hm (by decide +kernel) (pa_cons ha (pa_cons hb pa_nil hs2) hs) (by decide) (by decide) hs hpl) fun σ H Q ⟨B, p, rl, q⟩ => ⟨B, p, rl, q.bind.imp ?_⟩
  rintro v H1 ⟨B1, p1, x, s1, rl1, d1, q1⟩
  rw [M.lift_def] at q1
  cases d1 with
  | @exn b C dx c us xs h0 h1 h2 h3 =>
    have q1 : Post G σ η (fun B _ v x => Dt X.K X.mg B v x) B1 ((match cs.lookup c with | some b => R.ok (D.bl b) | none => R.bad), p1) Q := q1
    cases el : cs.lookup c with
    | none => rw [el] at q1; exact q1.elim
    | some bb =>
      rw [el] at q1
      obtain ⟨t1, t2⟩ := hC c bb el C h0
      exact ⟨.ref b, tv, .ref C, u, bb, rfl, hu, .inr ⟨b, C, dx, us, rfl, rfl, rl1.sub _ _ h1, rl1.sub _ _ h2, t2⟩, t1, q1.lift rl1 (.bl _)⟩
  | _ => exact q1.elim

/-! ### repr -/
mutual
theorem noDict_py : ∀ d : D, d.plain = true → PyData.hasDict d.py = false
  | .non, _ => rfl
  | .bl _, _ => rfl
  | .int _, _ => rfl
  | .str _, _ => rfl
  | .tup xs, h => by
    show PyData.hasDictAll (pyAll xs) = false
    exact noDictAll_py xs h
  | .lst xs, h => by
    show PyData.hasDictAll (pyAll xs) = false
    exact noDictAll_py xs h
  | .dct _, h => by cases h
  | .ins _ _, h => by cases h
  | .exn _ _, h => by cases h
theorem noDictAll_py : ∀ xs : List D, plainAll xs = true → PyData.hasDictAll (pyAll xs) = false
  | [], _ => rfl
  | x :: xs, h => by
    have h' : x.plain = true ∧ plainAll xs = true := by simpa [plainAll] using h
    show (PyData.hasDict x.py || PyData.hasDictAll (pyAll xs)) = false
    rw [noDict_py x h'.1, noDictAll_py xs h'.2]
    rfl
end
def okRepr (x : D) : Bool := x.plain && PyData.showable x.py && decide (x.py.shown.length ≤ sizeLine) && decide (x.depth ≤ 100)
def reprD : D → R D
  | .tup xs => if okRepr (.tup xs) = true then .ok (.str (D.tup xs).py.shown) else .bad
  | .lst xs => if okRepr (.lst xs) = true then .ok (.str (D.lst xs).py.shown) else .bad
  | _ => .bad
def rRepr (X : Cx) : List V → Hp → VK → Prop := fun xs H Q => ∃ (a : Addr) (d : D), xs = [.ref a] ∧ Dp X.K H (.ref a) d.py ∧ okRepr d = true ∧ Q (.str d.py.shown) H
theorem call_reprO (hu : X.A.units + 200 < cLine) (hg : X.A.guards = some []) : CallR X (.builtin "repr") (rRepr X) := by
  intro pins s σ H xs us Q I r h
  obtain ⟨a, d, rfl, hd, ok, q⟩ := h
  obtain rfl := Vals.ref1 r
  obtain ⟨⟨⟨k1, k2⟩, k3⟩, k4⟩ : ((d.plain = true ∧ PyData.showable d.py = true) ∧ d.py.shown.length ≤ sizeLine) ∧ d.depth ≤ 100 := by simpa [okRepr] using ok
  obtain ⟨as, rd⟩ := Dp.reads I d.py _ _ hd (show RelV (.ref a) (Value.ref a) from rfl)
  have hdp := depth_py d
  exact repr_of_reads' rd k2 (fun z => by rw [noDict_py d k1] at z; cases z) hg (by omega) (fun _ _ e => e) (fun h' u tk hk => ⟨.str d.py.shown, H, I.kept (t' := tk) hk, ⟨u, rfl⟩, q⟩) k3
theorem call_reprD (hu : X.A.units + 200 < cLine) (hg : X.A.guards = some []) : CallS1 X (.builtin "repr") reprD := by
  refine ⟨_, call_reprO hu hg, fun G η σ B H p v x Q rl h q => ?_⟩
  cases x with
  | tup xs =>
    have q : Post G σ η (rD X.K X.mg) B ((if okRepr (.tup xs) = true then R.ok (.str (D.tup xs).py.shown) else R.bad), p) Q := q
    by_cases hk : okRepr (.tup xs) = true
    · rw [if_pos hk] at q
      have pl : (D.tup xs).plain = true := by
        have z := hk
        simp only [okRepr, Bool.and_eq_true] at z
        exact z.1.1.1
      have dp := Dt.dp rl.sub _ _ pl h
      cases h with
      | tup h1 h2 => exact ⟨_, .tup xs, rfl, dp, hk, q.lift rl (.str _)⟩
    · rw [if_neg hk] at q
      exact q.elim
  | lst xs =>
    have q : Post G σ η (rD X.K X.mg) B ((if okRepr (.lst xs) = true then R.ok (.str (D.lst xs).py.shown) else R.bad), p) Q := q
    by_cases hk : okRepr (.lst xs) = true
    · rw [if_pos hk] at q
      have pl : (D.lst xs).plain = true := by
        have z := hk
        simp only [okRepr, Bool.and_eq_true] at z
        exact z.1.1.1
      have dp := Dt.dp rl.sub _ _ pl h
      cases h with
      | lst h1 h2 => exact ⟨_, .lst xs, rfl, dp, hk, q.lift rl (.str _)⟩
    · rw [if_neg hk] at q
      exact q.elim
  | _ => exact q.elim
end
end L2.Ly

set_option Elab.async false
set_option linter.all false
set_option maxRecDepth 100000
set_option maxHeartbeats 4000000
/-! Ly16: *, **, -, int, abs; the pen's three places. -/
namespace L2.Ly
open PySem PySem.Spec PyProof.Rows

def powD (a b : D) : R D := match a, b with
  | .int i, .int j => if 0 ≤ j ∧ j ≤ 1000000 ∧ i.natAbs < 2 ^ 64 then .ok (.int (i ^ j.toNat)) else .bad
  | _, _ => .bad
def negD : D → R D
  | .int i => .ok (.int (-i))
  | _ => .bad
def intD : D → R D
  | .int i => .ok (.int i)
  | .bl b => .ok (.int (if b then 1 else 0))
  | _ => .bad
def absD : D → R D
  | .int i => .ok (.int (if i < 0 then -i else i))
  | _ => .bad
section
variable {X : Cx} {G : Gam X.K X.mg} {η : List LV} {e a b : Expr} {pos p1 p2 p3 : Pos}
theorem op_powP : OpS X (binaryOp .Pow) powD := by
  refine ⟨_, op_pow, fun G η σ B H p v w x y Q rl h1 h2 q => ?_⟩
  cases h1 with
  | int i =>
    cases h2 with
    | int j =>
      have q : Post G σ η (rD X.K X.mg) B ((if 0 ≤ j ∧ j ≤ 1000000 ∧ i.natAbs < 2 ^ 64 then R.ok (D.int (i ^ j.toNat)) else R.bad), p) Q := q
      by_cases hj : 0 ≤ j ∧ j ≤ 1000000 ∧ i.natAbs < 2 ^ 64
      · rw [if_pos hj] at q
        exact ⟨i, j, rfl, rfl, hj, q.lift rl (.int _)⟩
      · rw [if_neg hj] at q
        exact q.elim
    | _ => exact q.elim
  | _ => exact q.elim
theorem DtAll.rep {K : PySem.W.Frag} {mg : Str → Option Value} {B : Hp} {us : List V} {xs : List D} (h : DtAll K mg B us xs) : ∀ n : Nat, DtAll K mg B (List.replicate n us).flatten (List.replicate n xs).flatten
  | 0 => .nil
  | n + 1 => by
    simp only [List.replicate_succ, List.flatten_cons]
    exact DtAll.append h (DtAll.rep h n)
theorem op_mulP : OpS X (binaryOp .Mult) mulD := by
  refine ⟨_, op_mul.or op_rep, fun G η σ B H p v w x y Q rl h1 h2 q => ?_⟩
  cases h1 with
  | int i =>
    cases h2 with
    | int j =>
      have q : Post G σ η (rD X.K X.mg) B ((if -(2 ^ 64) < i ∧ i < 2 ^ 64 then R.ok (D.int (i * j)) else R.bad), p) Q := q
      by_cases hj : -(2 ^ 64) < i ∧ i < 2 ^ 64
      · rw [if_pos hj] at q
        exact .inl ⟨i, j, rfl, rfl, .inl hj, q.lift rl (.int _)⟩
      · rw [if_neg hj] at q
        exact q.elim
    | _ => exact q.elim
  | @lst l us xs t1 t2 =>
    cases h2 with
    | int k =>
      have q : Post G σ η (rD X.K X.mg) B ((if -(2 ^ 63) ≤ k ∧ k < 2 ^ 63 ∧ xs.length * k.toNat ≤ sizeLine then R.ok (D.lst (List.replicate k.toNat xs).flatten) else R.bad), p) Q := q
      by_cases hk : -(2 ^ 63) ≤ k ∧ k < 2 ^ 63 ∧ xs.length * k.toNat ≤ sizeLine
      · rw [if_pos hk] at q
        refine .inr ⟨l, k, us, rfl, rfl, rl.sub _ _ t1, hk.1, hk.2.1, by rw [t2.length]; exact hk.2.2, fun m hm => ?_⟩
        have dl := t2.rep k.toNat
        have len : (List.replicate k.toNat us).flatten.length ≤ sizeLine := by
          rw [List.length_flatten, List.map_replicate, List.sum_replicate_nat, t2.length, Nat.mul_comm]
          exact hk.2.2
        have s2 := same_upd (o := HO.lst (List.replicate k.toNat us).flatten) (rl.none_of hm)
        exact q (.ref m) _ _ s2 (rl.born (o := HO.lst (List.replicate k.toNat us).flatten) len hm) (.lst upd_same (DtAll.mono s2 _ _ dl))
      · rw [if_neg hk] at q
        exact q.elim
    | _ => exact q.elim
  | _ => exact q.elim
theorem dx_neg {ra : M D} (ha : DX X G η a ra) : DX X G η (.UnaryOp .USub a pos) (ra >>= fun x => M.lift (negD x)) := by
  refine PE.pre (pe_un un_neg ha) fun σ H Q ⟨B, p, rl, q⟩ => ⟨B, p, rl, q.bind.imp ?_⟩
  rintro v H1 ⟨B1, p1, x, s1, rl1, d1, q1⟩
  cases d1 with
  | int i => exact ⟨i, rfl, q1.lift rl1 (.int _)⟩
  | _ => exact q1.elim
theorem call_intP : CallS1 X (.type "int") intD := by
  refine ⟨_, call_int1, fun G η σ B H p v x Q rl h q => ?_⟩
  cases h with
  | int i => exact .inl ⟨i, rfl, q.lift rl (.int _)⟩
  | bl b => exact .inr ⟨b, rfl, q.lift rl (.int _)⟩
  | _ => exact q.elim
theorem call_absP : CallS1 X (.builtin "abs") absD := by
  refine ⟨_, call_abs, fun G η σ B H p v x Q rl h q => ?_⟩
  cases h with
  | int i => exact ⟨i, rfl, q.lift rl (.int _)⟩
  | _ => exact q.elim
end

/-! ### the pen -/
def penCells : M D := fun p => (.ok (.lst (p.cells.map D.int)), p)
def penPos : M D := fun p => (.ok (.int p.pos), p)
def penRest : M D := fun p => (.ok (.int p.rest), p)
def setPos (d : D) : M Unit := fun p => match d with
  | .int i => (.ok (), { p with pos := i })
  | _ => (.bad, p)
def setRest (d : D) : M Unit := fun p => match d with
  | .int i => (.ok (), { p with rest := i })
  | _ => (.bad, p)
theorem Rel.setPen {K : PySem.W.Frag} {mg : Str → Option Value} {G : Gam K mg} {H B : Hp} {σ : St} {η : List LV} {p : Pen} {a c : Addr} {n m : Int} (r : Rel G H B σ η p) (ha : G.pa = some a) (ba : B a = none) (hc : B c = some (.lst (p.cells.map V.int))) (hH : ∃ o, H a = some o) :
    Rel G (L2.upd H a (.lst [.ref c, .int n, .int m])) B σ η { p with pos := n, rest := m } := by
  refine ⟨r.len, fun b u e => ?_, r.sz, fun b u e z => ?_, fun b e => ?_, fun j lv e => ?_, r.dj, fun b h => ⟨(r.nf b h).1, ?_⟩, r.fresh⟩
  · rw [upd_ne (by rintro rfl; rw [ba] at e; cases e)]
    exact r.sub b u e
  · rw [upd_ne (by rintro rfl; exact z ha)]
    exact r.fr b u e z
  · rw [ha] at e
    cases e
    exact ⟨c, upd_same, ba, hc⟩
  · refine (r.sl j lv e).mono (Same.refl _) fun b ho hv => ?_
    rw [upd_ne]
    rintro rfl
    exact (r.fresh j b ⟨hv, lv, e, ho⟩).2.2.1 ha
  · by_cases hb : b = a
    · subst hb
      exact ⟨_, upd_same⟩
    · rw [upd_ne hb]
      exact (r.nf b h).2
theorem dt_ints {K : PySem.W.Frag} {mg : Str → Option Value} {B : Hp} : ∀ ns : List Int, DtAll K mg B (ns.map V.int) (ns.map D.int)
  | [] => .nil
  | n :: ns => .cons (.int n) (dt_ints ns)
section
variable {X : Cx} {G : Gam X.K X.mg} {η : List LV} {β : Type} {I : β → Fl} {e : Expr} {rest : List Stmt} {pos p1 p2 p3 p4 : Pos} {x : Str} {i j : Nat}
theorem at0 {α : Type} {a b c : α} : atI [a, b, c] 0 = some a := rfl
theorem at1 {α : Type} {a b c : α} : atI [a, b, c] 1 = some b := rfl
theorem at2 {α : Type} {a b c : α} : atI [a, b, c] 2 = some c := rfl
theorem pen_read {r : M D} {n : Int} {v : Addr → Pen → V} (h : PE X (.Name x p1) (tVar i)) (hi : η[i]? = some .pen) (hs : PlainIx (.Constant (.int n) j p2) := by intro _ _; rfl) (hv : ∀ c (p : Pen), atI [V.ref c, .int p.pos, .int p.rest] n = some (v c p))
    (hr : ∀ B c p, B c = some (.lst (p.cells.map V.int)) → ∃ d, r p = (.ok d, p) ∧ Dt X.K X.mg B (v c p) d) : DX X G η (.Subscript (.Name x p1) (.Constant (.int n) j p2) pos) r := by
  refine PE.pre (pe_ix ix_list h pe_int hs) fun σ H Q ⟨B, p, rl, q⟩ => ?_
  obtain ⟨b, e, e2⟩ := rl.sl i _ hi
  obtain ⟨c, h1, h2, h3⟩ := rl.pen b e2
  obtain ⟨d, e3, dt⟩ := hr B c p h3
  rw [e3] at q
  exact ⟨.ref b, e, b, _, n, v c p, rfl, rfl, SqL.of h1, hv c p, q.lift rl dt⟩
theorem dx_pen0 (h : PE X (.Name x p1) (tVar i)) (hi : η[i]? = some .pen := by rfl) (hs : PlainIx (.Constant (.int 0) j p2) := by intro _ _; rfl) : DX X G η (.Subscript (.Name x p1) (.Constant (.int 0) j p2) pos) penCells :=
  pen_read (v := fun c _ => .ref c) h hi hs (fun _ _ => at0) fun B c p hc => ⟨_, rfl, .lst hc (dt_ints _)⟩
theorem dx_pen1 (h : PE X (.Name x p1) (tVar i)) (hi : η[i]? = some .pen := by rfl) (hs : PlainIx (.Constant (.int 1) j p2) := by intro _ _; rfl) : DX X G η (.Subscript (.Name x p1) (.Constant (.int 1) j p2) pos) penPos :=
  pen_read (v := fun _ p => .int p.pos) h hi hs (fun _ _ => at1) fun B c p hc => ⟨_, rfl, .int _⟩
theorem dx_pen2 (h : PE X (.Name x p1) (tVar i)) (hi : η[i]? = some .pen := by rfl) (hs : PlainIx (.Constant (.int 2) j p2) := by intro _ _; rfl) : DX X G η (.Subscript (.Name x p1) (.Constant (.int 2) j p2) pos) penRest :=
  pen_read (v := fun _ p => .int p.rest) h hi hs (fun _ _ => at2) fun B c p hc => ⟨_, rfl, .int _⟩
theorem db_pen1 {re : M D} {rr : M β} (h : PE X (.Name x p1) (tVar i)) (he : DX X G η e re) (hk : DB X G η rest rr I) (hi : η[i]? = some .pen := by rfl)
    (ha : ∀ v, assign (.Subscript (.Name x p1) (.Constant (.int 1) j p2) p3) X.env v = (do
      let ov ← holding [v] (eval (.Name x p1) X.env)
      let iv ← holding [v, ov] (eval (.Constant (.int 1) j p2) X.env)
      standAt p3
      holding [v, ov, iv] (setItem ov iv v)
      release [v, ov, iv] []) := by intro _; rfl)
    (hs : swapsWithSole [.Subscript (.Name x p1) (.Constant (.int 1) j p2) p3] e pos.line X.env = pure false := by rfl) (hw : swappedStores [.Subscript (.Name x p1) (.Constant (.int 1) j p2) p3] e X.env = pure none := by rfl)
    (h1 : (assignEach [.Subscript (.Name x p1) (.Constant (.int 1) j p2) p3] X.env).map (·.2) = [assign (.Subscript (.Name x p1) (.Constant (.int 1) j p2) p3) X.env] := by rfl) :
    DB X G η (.Assign [.Subscript (.Name x p1) (.Constant (.int 1) j p2) p3] e pos :: rest) (re >>= fun d => setPos d >>= fun _ => rr) I := by
  refine db_of (ps_asg he (pg_sub h pe_int set_list ha) hs hw h1) hk fun σ H B p E rl q => ⟨B, p, rl, q.bind.imp ?_⟩
  rintro v H2 ⟨B2, p2, y, s2, rl2, d2, q2⟩
  obtain ⟨b, e1, e2⟩ := rl2.sl i _ hi
  obtain ⟨c, h1, h2, h3⟩ := rl2.pen b e2
  cases d2 with
  | int n => exact ⟨.ref b, e1, b, _, 1, 1, rfl, rfl, h1, rfl, B2, _, rl2.setPen e2 h2 h3 ⟨_, h1⟩, q2⟩
  | _ => exact q2.elim
theorem db_pen2 {re : M D} {rr : M β} (h : PE X (.Name x p1) (tVar i)) (he : DX X G η e re) (hk : DB X G η rest rr I) (hi : η[i]? = some .pen := by rfl)
    (ha : ∀ v, assign (.Subscript (.Name x p1) (.Constant (.int 2) j p2) p3) X.env v = (do
      let ov ← holding [v] (eval (.Name x p1) X.env)
      let iv ← holding [v, ov] (eval (.Constant (.int 2) j p2) X.env)
      standAt p3
      holding [v, ov, iv] (setItem ov iv v)
      release [v, ov, iv] []) := by intro _; rfl)
    (hs : swapsWithSole [.Subscript (.Name x p1) (.Constant (.int 2) j p2) p3] e pos.line X.env = pure false := by rfl) (hw : swappedStores [.Subscript (.Name x p1) (.Constant (.int 2) j p2) p3] e X.env = pure none := by rfl)
    (h1 : (assignEach [.Subscript (.Name x p1) (.Constant (.int 2) j p2) p3] X.env).map (·.2) = [assign (.Subscript (.Name x p1) (.Constant (.int 2) j p2) p3) X.env] := by rfl) :
    DB X G η (.Assign [.Subscript (.Name x p1) (.Constant (.int 2) j p2) p3] e pos :: rest) (re >>= fun d => setRest d >>= fun _ => rr) I := by
  refine db_of (ps_asg he (pg_sub h pe_int set_list ha) hs hw h1) hk fun σ H B p E rl q => ⟨B, p, rl, q.bind.imp ?_⟩
  rintro v H2 ⟨B2, p2, y, s2, rl2, d2, q2⟩
  obtain ⟨b, e1, e2⟩ := rl2.sl i _ hi
  obtain ⟨c, h1, h2, h3⟩ := rl2.pen b e2
  cases d2 with
  | int n => exact ⟨.ref b, e1, b, _, 2, 2, rfl, rfl, h1, rfl, B2, _, rl2.setPen e2 h2 h3 ⟨_, h1⟩, q2⟩
  | _ => exact q2.elim
end
end L2.Ly

set_option Elab.async false
set_option linter.all false
set_option maxRecDepth 100000
set_option maxHeartbeats 4000000
/-! Ly17: an __init__ keeps its promise: with a star parameter; with super(). -/
namespace L2.Ly
open PySem PySem.Spec PyProof.Rows NdefX

section
variable {X : Cx} {C : Addr} {m : List (Str × D) → List D → R (List (Str × D))} {body : List Stmt} {vs : List V} {H : Hp} {Q : VK} {E : XK} {k n : Nat}
/-- the end of such a body -/
theorem post_end {G : Gam X.K X.mg} {B : Hp} {p : Pen} {r : M (List (Str × D))} {s : List (Str × D) → List LV} {fs' : List (Str × D)} {D0 : Ends} (hr : (r p).1 = .ok fs') (h : ∀ σ H' B', Same B B' → Rel G H' B' σ (s fs') (r p).2 → D0.nx σ H') : PostB G B (r p) (fun f => Fl.nx (s f)) D0 := by
  revert hr h
  cases r p with
  | mk x p' =>
    intro hr h
    have hr : x = .ok fs' := hr
    subst hr
    exact h
/-- a body from its entry on -/
theorem init_run {r : List (Str × D) → List D → M (List (Str × D))} (tk : Takes X (fun cls d _ H => E cls d H)) (h : spI X.K X.mg C m vs H Q E) (hm : ∀ fs ds fs', m fs ds = .ok fs' → ds.length = n) (hr : ∀ fs ds p, (r fs ds p).1 = m fs ds)
    (hb : ∀ (G : Gam X.K X.mg), Takes X G.W → ∀ (x : Addr) (fs : List (Str × D)) (ds : List D), ds.length = n → ∃ s : List (Str × D) → List LV, (∀ f, (s f)[0]? = some (.mi x C f)) ∧ DB X G (.mi x C fs :: (ds.map LV.d ++ List.replicate k .no)) body (r fs ds) (fun f => Fl.nx (s f))) :
    ∃ t, PSs X body t ∧ t { nx := fun _ H' => Q .non H', rt := Q } (vs.map some ++ List.replicate k none) H := by
  obtain ⟨B, x, dx, ws, ds, us, fs, rfl, hx, bx, s0, z, hf, hd, fs', em, q⟩ := h
  obtain ⟨s, hs, db⟩ := hb (Gam.atX X.K X.mg H B x E) tk x fs ds (hm _ _ _ em)
  refine ⟨_, db, B, ⟨[], 0, 0⟩, Rel.entryI s0 z hx bx hf hd, post_end ((hr _ _ _).trans em) fun σ H' B' s' r' => ?_⟩
  obtain ⟨g, dx', us', e1, e2⟩ := r'.leavesI s' s0 bx (hs fs')
  exact q H' B' dx' us' g e1 e2
end

section
variable {P : Program} {w : World} {K : PySem.W.Frag} {mg : Str → Option Value} {base : Heap} {k : Nat} {f : Addr} {name qual : Str} {params : Arguments} {body : List Stmt} {scope : Scope} {dV kV doc pm cdv ct oc : Value} {an od : Option Addr}
  {osl : Array (Option Value)} {N : List Str} {C : Addr} {m : List (Str × D) → List D → R (List (Str × D))}
theorem cxUp_x {P : Program} {w : World} : StX.CXUp (L2.CX P w) := StX.cxUp
def starM (n0 : Nat) (m : List (Str × D) → List D → R (List (Str × D))) (fs : List (Str × D)) (ds : List D) : R (List (Str × D)) := if n0 ≤ ds.length ∧ ds.length ≤ 100 then m fs (ds.take n0 ++ [.tup (ds.drop n0)]) else .bad
/-- def __init__(self, a, .., *v) -/
theorem fnR_star {ps : List Str} {pv : Str} {n0 : Nat} {r : List (Str × D) → List D → M (List (Str × D))} (lk : K.lookup f = some ⟨oc, od, .func (PySem.W.fnOf name qual params body scope dV kV doc pm an cdv ct), osl⟩) (hcd : PySem.W.codeIn K cdv qual = true) (S : FnScope N (ps ++ [pv]) scope) (hn0 : ps.length = n0 + 1)
    (hb : ∀ us rest : List Value, us.length = ps.length → bindArgs (PySem.W.fnOf name qual params body scope dV kV doc pm an cdv ct) ⟨us ++ rest, []⟩ = (newTuple rest >>= fun t => pure (ps.zip us ++ [(pv, t)])))
    (hm : ∀ fs ds fs', m fs ds = .ok fs' → ds.length = n0 + 1) (hr : ∀ fs ds p, (r fs ds p).1 = m fs ds)
    (hbody : ∀ (A : Around) (outer : List Env) (s : Shared) (H : Hp) (E : XK), Room k (A.deeper (envOfC qual scope s.heap.objs.size f cdv)) → ∀ (G : Gam K mg), Takes (cxOf (L2.CX P w) P w K mg base N qual scope f cdv A outer s H E) G.W → ∀ (x : Addr) (fs : List (Str × D)) (ds : List D), ds.length = n0 + 1 →
      ∃ s' : List (Str × D) → List LV, (∀ f, (s' f)[0]? = some (.mi x C f)) ∧ DB (cxOf (L2.CX P w) P w K mg base N qual scope f cdv A outer s H E) G (.mi x C fs :: (ds.map LV.d ++ List.replicate (N.length - (n0 + 2)) .no)) body (r fs ds) (fun f => Fl.nx (s' f))) :
    FnR P w K mg base (L2.CX P w) (k + 1) f (spI K mg C (starM n0 m)) := by
  have F := StX.fn_star (CX := L2.CX P w) (base := base) (mg := mg) (k := k) (sp := spI K mg C m) lk hcd S cxUp_x hb fun A outer s H vs Q E hr' h => by
    have hl : vs.length = n0 + 2 := by
      obtain ⟨B, x, dx, ws, ds, us, fs, rfl, _, _, _, _, _, hd, fs', em, _⟩ := id h
      have := hm _ _ _ em
      rw [List.length_cons, hd.length, this]
    have z := init_run (X := cxOf (L2.CX P w) P w K mg base N qual scope f cdv A outer s H E) (k := N.length - (n0 + 2)) (n := n0 + 1) (r := r) (body := body) takes_at h hm hr (fun G tk x fs ds hl => hbody A outer s H E hr' G tk x fs ds hl)
    unfold start
    rw [hl]
    exact z
  refine fun A outer s H us vs Q E hr' e0 rv h => F A outer s H us vs Q E hr' e0 rv ?_
  obtain ⟨B, x, dx, ws, ds, us, fs, rfl, hx, bx, s0, z, hf, hd, fs', em, q⟩ := h
  unfold starM at em
  by_cases hc : n0 ≤ ds.length ∧ ds.length ≤ 100
  · rw [if_pos hc] at em
    have lw := hd.length
    have hsz : (ws.drop n0).length ≤ sizeLine := by
      rw [List.length_drop, sizeLine_eq]
      omega
    refine ⟨.ref x :: ws.take n0, ws.drop n0, by rw [List.cons_append, List.take_append_drop], ?_, hsz, fun a ha => ?_⟩
    · rw [List.length_cons, List.length_take, hn0]
      omega
    · have nxa : x ≠ a := ne_of_none hx ha
      have ba : B a = none := by
        cases e : B a with
        | none => rfl
        | some u =>
          have y := s0 a u e
          rw [ha] at y
          cases y
      have s2 := same_upd (o := HO.tup (ws.drop n0)) ba
      refine ⟨upd B a (.tup (ws.drop n0)), x, dx, ws.take n0 ++ [.ref a], ds.take n0 ++ [.tup (ds.drop n0)], us, fs, rfl, by rw [upd_ne nxa]; exact hx, by rw [upd_ne nxa]; exact bx, fun b o e => ?_, fun b o e => ?_, DtFs.mono s2 _ _ hf, DtAll.append (DtAll.mono s2 _ _ (hd.take n0)) (.cons (.tup (.inl (.inl upd_same)) (DtAll.mono s2 _ _ (hd.drop n0))) .nil), fs', em, fun H' B' dx' us' g e1 e2 => q H' B' dx' us' ?_ e1 e2⟩
      · by_cases hb : b = a
        · subst hb
          rw [upd_same] at e ⊢
          exact e
        · rw [upd_ne hb] at e ⊢
          exact s0 b o e
      · by_cases hb : b = a
        · subst hb
          rw [upd_same] at e
          cases e
          exact hsz
        · rw [upd_ne hb] at e
          exact z b o e
      · refine ⟨s2.trans g.bb, g.sub, g.sz, fun b o e n => g.fr b o (by rw [upd_ne (ne_of_none e ha)]; exact e) n, fun b o e => ?_⟩
        rw [g.nb b o (by rw [upd_ne (ne_of_none e ha)]; exact e), upd_ne (ne_of_none e ha)]
  · rw [if_neg hc] at em
    cases em
end

/-- n names from the i-th slot on -/
def tV (i : Nat) : Nat → TA
  | 0 => tNil
  | n + 1 => tCons (tVar i) (tV (i + 1) n)
theorem tV_ok {σ : St} {H : Hp} {Q : List V → Hp → Prop} : ∀ (ws : List V) (i : Nat), (∀ j v, ws[j]? = some v → σ[i + j]? = some (some v)) → Q ws H → tV i ws.length σ H Q
  | [], _, _, q => q
  | v :: ws, i, h, q => ⟨v, h 0 v rfl, tV_ok (Q := fun r H => Q (v :: r) H) ws (i + 1) (fun j u e => by
      have z := h (j + 1) u (by simpa using e)
      rw [show i + 1 + j = i + (j + 1) by omega]
      exact z) q⟩
section
variable {P : Program} {w : World} {K : PySem.W.Frag} {mg : Str → Option Value} {base : Heap} {N ps : List Str} {F : NF} {f cc Dc g : Addr} {k kg n : Nat} {fd : FuncData} {par : Str} {C : Addr} {wd : Str} {m mP m2 : List (Str × D) → List D → R (List (Str × D))} {rest : List Stmt} {p0 p1 apos pos pos' p2 : Pos} {j : Nat} {es : List Expr}
/-- super().__init__('word', a, ..); rest -/
theorem fn_supI {r2 : List (Str × D) → List D → M (List (Str × D))} (S : SupD P K mg F f cc Dc fd par N ps) (hps : ps.length = n + 1) (hp0 : N[0]? = some par) (hN : N.length = n + 2 + j)
    (hB : F.body = .Expr (.Call (.Attribute (.Call (.Name "super" p0) [] [] p1) "__init__" apos) (.Constant (.str wd) 0 p2 :: es) [] pos) pos' :: rest)
    (hm : ∀ L : Addr, SupEval (envF F f L) p0 p1 apos pos (.Constant (.str wd) 0 p2 :: es))
    (hsub : PySem.W.mroIn K C (.ref Dc) = some true) (hsup : PySem.W.ks_superIn K C Dc "__init__" = some (some (.ref g))) (ht : PySem.W.typeIn K (.ref g) = some (.type "function")) (hfn : PySem.W.fnIn K g = true)
    (Fg : FnR P w K mg base (L2.CX P w) kg g (spI K mg C mP)) (hk : kg ≤ k)
    (ha : ∀ (A : Around) (outer : List Env) (s : Shared) (H : Hp) (E : XK), PA (ncx (L2.CX P w) P w K mg base N F f A outer s H E) es (tV 1 n))
    (hn2 : ∀ fs ds fs', m2 fs ds = .ok fs' → ds.length = n) (hr2 : ∀ fs ds p, (r2 fs ds p).1 = m2 fs ds)
    (hbody : ∀ (A : Around) (outer : List Env) (s : Shared) (H : Hp) (E : XK), ∀ (G : Gam K mg) (x : Addr) (fs : List (Str × D)) (ds : List D), ds.length = n →
      ∃ s' : List (Str × D) → List LV, (∀ f, (s' f)[0]? = some (.mi x C f)) ∧ DB (ncx (L2.CX P w) P w K mg base N F f A outer s H E) G (.mi x C fs :: (ds.map LV.d ++ List.replicate (1 + j) .no)) rest (r2 fs ds) (fun f => Fl.nx (s' f)))
    (hpl : ∀ env : Env, (backTo pos (starEach es env)).any (·.1) = false := by intro _; rfl) :
    FnOk P w K mg base (L2.CX P w) (k + 1) f fd ps (spI K mg C fun fs ds => mP fs (.str wd :: ds) >>= fun fs1 => m2 fs1 ds) := by
  have len : ∀ {fs : List (Str × D)} {ds : List D} {fs' : List (Str × D)}, (mP fs (.str wd :: ds) >>= fun fs1 => m2 fs1 ds) = .ok fs' → ∃ fs1, mP fs (.str wd :: ds) = .ok fs1 ∧ m2 fs1 ds = .ok fs' := fun {fs ds fs'} e => by
    cases e1 : mP fs (.str wd :: ds) with
    | ok fs1 => rw [e1] at e; exact ⟨fs1, rfl, e⟩
    | err z => rw [e1] at e; cases e
    | bad => rw [e1] at e; cases e
  refine S.fn (fun vs H Q E ⟨B, x, dx, ws, ds, us, fs, e, _, _, _, _, _, hd, fs', em, _⟩ => ?_) fun A outer s H vs Q E hr h => ?_
  · obtain ⟨fs1, _, e2⟩ := len em
    rw [e, List.length_cons, hd.length, hn2 _ _ _ e2, hps]
  obtain ⟨pl, hm⟩ := hm s.heap.objs.size
  obtain ⟨B, x, dx, ws, ds, us, fs, rfl, hx, bx, s0, z, hf, hd, fs', em, q⟩ := h
  obtain ⟨fs1, e1, e2⟩ := len em
  have hl : ws.length = n := hd.length.trans (hn2 _ _ _ e2)
  let G := Gam.atX K mg H B x E
  obtain ⟨s', hs', db⟩ := hbody A outer s H E G x fs1 ds (hn2 _ _ _ e2)
  have W := ws_sup (X := ncx (L2.CX P w) P w K mg base N F f A outer s H E) (F := F) (g := g) (sp := spI K mg C mP) (E := fun _ _ _ => False) (p0 := p0) (p1 := p1) (apos := apos) (pos := pos) (pos' := pos') S.S rfl hp0 S.top ht hfn Fg (hr.mono hk) (passF fun _ _ _ z => z) (pa_cons (pe_str (x := wd) (pos := p2)) (ha A outer s H E)) db hm rfl (hpl _)
  rw [hB] at W ⊢
  have eσ : startF N (V.ref x :: ws) [none] = (V.ref x :: ws).map some ++ List.replicate (1 + j) none := by
    unfold startF
    rw [List.length_cons, hl, hN, List.length_singleton, show n + 2 + j - (n + 1) - 1 = j by omega, Nat.add_comm 1 j, List.replicate_succ]
    rfl
  refine ⟨_, W, ?_⟩
  rw [eσ]
  have ent := Rel.entryI (K := K) (mg := mg) (C := C) (E := E) (p := ⟨[], 0, 0⟩) (k := 1 + j) s0 z hx bx hf hd
  refine ⟨x, C, dx, us, rfl, hx, hsub, hsup, fun q0 hq0 => ?_⟩
  have nxq : x ≠ q0 := ne_of_none hx hq0
  have up : ∀ {a o}, H a = some o → upd H q0 (.met g x) a = some o := fun {a o} e => by rw [upd_ne (ne_of_none e hq0)]; exact e
  show tV 1 n _ (upd H q0 (.met g x)) fun vs H2 => H2 q0 = some (.met g x) ∧ spI K mg C mP (.ref x :: .str wd :: vs) H2 _ _
  rw [← hl]
  refine tV_ok ws 1 (fun i v e => ?_) ⟨upd_same, B, x, dx, .str wd :: ws, .str wd :: ds, us, fs, rfl, up hx, bx, fun a o e => up (s0 a o e), z, hf, .cons (.str wd) hd, fs1, e1, fun H3 B3 dx' us' g3 ex df => ?_⟩
  · show (some (V.ref x) :: (ws.map some ++ List.replicate (1 + j) none))[1 + i]? = _
    rw [Nat.add_comm 1 i, List.getElem?_cons_succ, List.getElem?_append_left (by rw [List.length_map]; exact (List.getElem?_eq_some_iff.mp e).1), List.getElem?_map, e]
    rfl
  · have r3 := ent.calledO rfl hq0 g3 ex df
    refine ⟨B3, _, r3, post_end (X := ncx (L2.CX P w) P w K mg base N F f A outer s H E) (G := G) ((hr2 _ _ _).trans e2) fun σ H' B' s1 r' => ?_⟩
    obtain ⟨gg, dx2, us2, k1, k2⟩ := r'.leavesI (g3.bb.trans s1) s0 bx (hs' fs')
    exact q H' B' dx2 us2 gg k1 k2
end
end L2.Ly

set_option Elab.async false
set_option linter.all false
set_option maxRecDepth 100000
set_option maxHeartbeats 4000000
/-! Ly18: the pen is made; a law's own def; the law's end. -/
namespace L2.Ly
open PySem PySem.Spec PyProof.Rows

section
variable {X : Cx} {G : Gam X.K X.mg} {η : List LV} {x : Str} {j : Nat} {p1 p2 p3 pos : Pos} {a : Addr} {ns : List Int}
theorem seqL_same {K : PySem.W.Frag} {H H' : Hp} {a : Addr} {xs : List V} (h : SqL K H a xs) (k : ∀ o, H a = some o → H' a = some o) : SqL K H' a xs := by
  rcases h with (h | ⟨o, h⟩) | h
  · exact .inl (.inl (k _ h))
  · exact .inl (.inr ⟨o, k _ h⟩)
  · exact .inr h
/-- script[:63] -/
theorem dx_script (h : PE X (.Name x p1) (tVar 0)) (hi : η[0]? = some (.is (.ref a))) (hs : SqL X.K G.H0 a (ns.map V.int)) (hp : G.pa = none) (hl : ns.length ≤ 63) :
    DX X G η (.Subscript (.Name x p1) (.Slice none (some (.Constant (.int 63) j p2)) none p3) pos) (pure (.lst (ns.map D.int))) := by
  have ho : PO X (some (.Constant (.int 63) j p2)) _ := (dxo_some (X := X) (G := G) (η := η) dx_int)
  refine PE.pre (pe_slice sl_list h (dxo_none (G := G) (η := η)) ho) fun σ H Q ⟨B, p, rl, q⟩ => ?_
  have e := rl.sl 0 _ hi
  refine ⟨.ref a, e, B, p, rl, fun v H1 B1 s1 rl1 d1 => ?_⟩
  subst d1
  refine ⟨B1, p, rl1, fun v2 H2 B2 s2 rl2 d2 => ?_⟩
  subst d2
  refine ⟨a, _, rfl, seqL_same (H' := H2) hs fun o eo => rl2.fr a o eo (by rw [hp]; intro z; cases z), fun t hn => ?_⟩
  have cut : cutV (ns.map V.int) none (some 63) = ns.map V.int := by
    refine cut_whole (α := V) ⟨rfl, ?_⟩
    rw [List.length_map]
    show min 63 ns.length = ns.length
    omega
  rw [cut]
  have s3 := same_upd (o := HO.lst (ns.map V.int)) (rl2.none_of hn)
  exact q (.ref t) _ _ (s1.trans (s2.trans s3)) (rl2.born (o := HO.lst (ns.map V.int)) (show (ns.map V.int).length ≤ sizeLine by rw [List.length_map, sizeLine_eq]; omega) hn) (.lst upd_same (dt_ints ns))
end
theorem lc_ints : ∀ (ns : List Int) (p : Pen), lcM R.ok (fun _ => pure true) (fun d => (pure d : M D) >>= fun x => M.lift (intD x)) (ns.map D.int) p = (.ok (ns.map D.int), p)
  | [], _ => rfl
  | n :: ns, p => by
    show ((M.lift (R.ok (D.int n))).q >>= fun a => (pure true : M Bool).q >>= fun b => if b then ((pure a : M D) >>= fun x => M.lift (intD x)).q >>= fun y => lcM R.ok (fun _ => pure true) (fun d => (pure d : M D) >>= fun x => M.lift (intD x)) (ns.map D.int) >>= fun ys => pure (y :: ys) else lcM R.ok (fun _ => pure true) (fun d => (pure d : M D) >>= fun x => M.lift (intD x)) (ns.map D.int)) p = _
    have ih := lc_ints ns p
    have e : (lcM R.ok (fun _ => pure true) (fun d => (pure d : M D) >>= fun x => M.lift (intD x)) (ns.map D.int) >>= fun ys => pure (D.int n :: ys)) p = (.ok (D.int n :: ns.map D.int), p) := by
      rw [M.bind_def, ih]
      rfl
    exact e

/-! ### _law_pen -/
/-- what it gives -/
def spPen (K : PySem.W.Frag) : Sp := fun vs H Q E => ∃ (a : Addr) (ns : List Int), vs = [.ref a] ∧ SqL K H a (ns.map V.int) ∧ ns.length ≤ 63 ∧ ∀ p c H', Same H H' → H p = none → H c = none → p ≠ c → H' p = some (.lst [.ref c, .int 0, .int 0]) → H' c = some (.lst (ns.map V.int)) → Q (.ref p) H'
theorem ints_dt {K : PySem.W.Frag} {mg : Str → Option Value} {B : Hp} : ∀ {us : List V} {ns : List Int}, DtAll K mg B us (ns.map D.int) → us = ns.map V.int
  | _, [], h => by cases h; rfl
  | _, n :: ns, h => by
    cases h with
    | cons a t =>
      cases a
      rw [ints_dt t]
      rfl
section
variable {P : Program} {w : World} {K : PySem.W.Frag} {mg : Str → Option Value} {base : Heap}
theorem fn_pen {x qual : Str} {st : Stmt} {f : Addr} {fd : FuncData} {N : List Str} {k : Nat} {m : List Int → M D} {par : Str} (F : Fun K x qual st f fd) (S : FnScope N [par] (defScope st)) (hN : 1 ≤ N.length)
    (hm : ∀ ns p, (m ns p).1 = .ok (.lst [.lst (ns.map D.int), .int 0, .int 0]))
    (hbody : ∀ (cdv : Value) (A : Around) (outer : List Env) (s : Shared) (H : Hp) (E : XK), Room k (A.deeper (envOfC qual (defScope st) s.heap.objs.size f cdv)) → ∀ (G : Gam K mg) (a : Addr) (ns : List Int), SqL K G.H0 a (ns.map V.int) → G.pa = none → ns.length ≤ 63 →
      DB (cxOf (L2.CX P w) P w K mg base N qual (defScope st) f cdv A outer s H E) G (.is (.ref a) :: List.replicate (N.length - 1) .no) (defBody st) (m ns) Fl.rt) :
    FnOk P w K mg base (L2.CX P w) (k + 1) f fd [par] (spPen K) := by
  refine F.okX S (fun vs H Q E ⟨a, ns, e, _⟩ => by rw [e]; rfl) (fun cdv A outer s H vs Q E hr h => ?_)
  obtain ⟨a, ns, rfl, hs, hl, q⟩ := h
  let G : Gam K mg := ⟨H, none, fun _ _ _ _ => False, fun b => ∃ o, H b = some o⟩
  have nown : ∀ i b, ¬ Own (start N [.ref a]) (LV.is (.ref a) :: List.replicate (N.length - 1) .no) i b := by
    rintro i b ⟨_, lv, h2, h3⟩
    match i with
    | 0 =>
      have h2 : some (LV.is (.ref a)) = some lv := h2
      cases h2
      cases h3
    | i + 1 =>
      have h2 : (List.replicate (N.length - 1) LV.no)[i]? = some lv := h2
      rw [List.getElem?_replicate] at h2
      split at h2
      · cases h2; cases h3
      · cases h2
  have rel : Rel G H (fun _ => none) (start N [.ref a]) (LV.is (.ref a) :: List.replicate (N.length - 1) .no) ⟨[], 0, 0⟩ := by
    refine ⟨by unfold start; simp, fun b o e => (by cases e), fun b o e => (by cases e), fun b o e _ => e, fun b e => (by cases e), fun i lv e => ?_, fun i j b o _ => (nown i b o).elim, fun b h => ⟨rfl, h⟩, fun i b o => (nown i b o).elim⟩
    match i with
    | 0 =>
      have e : some (LV.is (.ref a)) = some lv := e
      cases e
      rfl
    | i + 1 =>
      have e : (List.replicate (N.length - 1) LV.no)[i]? = some lv := e
      rw [List.getElem?_replicate] at e
      split at e
      · cases e; trivial
      · cases e
  refine ⟨_, hbody cdv A outer s H E hr G a ns hs rfl hl, _, _, rel, ?_⟩
  have em := hm ns ⟨[], 0, 0⟩
  revert em
  cases m ns ⟨[], 0, 0⟩ with
  | mk r p' =>
    intro em
    have em : r = _ := em
    subst em
    intro v σ η H' B' _ r' dt
    cases dt with
    | @lst p us xs h1 h2 =>
      cases h2 with
      | cons d1 t1 =>
        cases t1 with
        | cons d2 t2 =>
          cases t2 with
          | cons d3 t3 =>
            cases t3
            cases d2
            cases d3
            cases d1 with
            | @lst c vs ys k1 k2 =>
              have ei := ints_dt k2
              subst ei
              have fresh : ∀ {b o}, B' b = some o → H b = none := fun {b o} e => by
                cases e2 : H b with
                | none => rfl
                | some u =>
                  have z := (r'.nf b ⟨u, e2⟩).1
                  rw [e] at z
                  cases z
              have ne : p ≠ c := by
                rintro rfl
                rw [h1] at k1
                cases ns with
                | nil => cases k1
                | cons n ns => cases k1
              exact q p c H' (fun b o e => r'.fr b o e (by intro z; cases z)) (fresh h1) (fresh k1) ne (r'.sub _ _ h1) (r'.sub _ _ k1)
end

/-! ### the law's own def -/
section
variable {P : Program} {w : World} {K : PySem.W.Frag} {mg : Str → Option Value} {base : Heap}
theorem law_at {st : Stmt} {f fP : Addr} {fd fdP : FuncData} {N N' : List Str} {k : Nat} {m : M D} {q1 q2 q3 q4 q5 : Pos} {rest : List Stmt} (F : Fun K "law" "law" st f fd) (S : FnScope N ["script"] (defScope st)) (hN : N = ("script" : Str) :: ("pen" : Str) :: N')
    (hB : defBody st = .Assign [.Name "pen" q1] (.Call (.Name "_law_pen" q2) [.Name "script" q3] [] q4) q5 :: rest) (hr : Room (k + 1) callerA) (lp : Loc (defScope st) "pen") (lg : (defScope st).names.lookup ("_law_pen" : Str) = some .globalImplicit)
    (FP : FnOk P w K mg base (L2.CX P w) k fP fdP ["script"] (spPen K)) (mP : mg "_law_pen" = some (.ref fP)) (kP : PySem.W.keepIn K (.ref fP) = true) (bP : Binds K fdP ["script"] []) (hb : ∀ (s : Shared) (v : Value), BindsTo s fd ⟨[v], []⟩ [("script", v)])
    (hbody : ∀ (cdv : Value) (s : Shared) (H : Hp), Room k (callerA.deeper (envOfC "law" (defScope st) s.heap.objs.size f cdv)) → (callerA.deeper (envOfC "law" (defScope st) s.heap.objs.size f cdv)).guards = some [] → ∀ (G : Gam K mg), Takes (cxOf (L2.CX P w) P w K mg base N "law" (defScope st) f cdv callerA [] s H (fun _ _ _ => False)) G.W →
      DB (cxOf (L2.CX P w) P w K mg base N "law" (defScope st) f cdv callerA [] s H (fun _ _ _ => False)) G (.no :: .pen :: List.replicate N'.length .no) rest m Fl.rt)
    {s : Shared} {H : Hp} {a : Addr} {ns : List Int} (e0 : Env0 P w K mg base callerA [] s H) (hs : SqL K H a (ns.map V.int)) (hl : ns.length ≤ 63) (hm : (m ⟨ns, 0, 0⟩).1 = .ok (.bl true)) :
    codeAny (model P w) callerA (.call (.ref f) ⟨[.ref a], []⟩) (CR (L2.CX P w) [] P w H s (fun v _ => v = .bl true) (fun _ _ _ => False)) s := by
  obtain ⟨oc, od, kV, doc, pm, an, cdv, ct, osl, rfl, lk, hcd⟩ := F.ex
  subst hN
  have KX : K.In s.heap := e0.mod.kin.keeps fun b o e => (e0.bs b o e).1
  have lim : s.heap.NoLimit := e0.mod.nolimit.keeps fun b o e => (e0.bs b o e).1
  have r : Vals [V.ref a] [Value.ref a] := .cons rfl .nil
  have kinds : ∀ y ∈ [(("script" : Str), Value.ref a)], (defScope st).names.lookup y.1 = some .local ∨ ((defScope st).names.lookup y.1 = some .cell ∧ ((cellsFrom (s.heap.objs.size + 1) (defScope st).names []).lookup y.1).isSome = true) := fun y hy => by
    obtain rfl := List.mem_singleton.mp hy
    rcases S.par "script" (by simp) with q | q
    · exact .inl q
    · exact .inr ⟨q, PySem.W.cellsFrom_some _ _ _ (.inl q)⟩
  refine codeAny_call_function (hr.mono (Nat.le_succ k)).depth (KX _ _ lk) rfl S.co S.gen rfl (PySem.W.codeRec_of KX hcd) (hb s (.ref a) _ _ _ _ ?_)
  refine wpAny_newFunctionEnv_cells (s := s) S.kind kinds fun env he s1 x => ?_
  subst he
  refine ⟨lim.keeps x.toInCall.keep, codeAny_func ?_⟩
  have hrd := hr.deeper (envOfC "law" (defScope st) s.heap.objs.size f cdv)
  have I : Inv (cxOf (L2.CX P w) P w K mg base (("script" : Str) :: ("pen" : Str) :: N') "law" (defScope st) f cdv callerA [] s H (fun _ _ _ => False)) [] (start (("script" : Str) :: ("pen" : Str) :: N') [.ref a]) H s1 := inv_start S hr.hd e0 rfl r x
  have two := fun (G : Gam K mg) (tk : Takes (cxOf (L2.CX P w) P w K mg base (("script" : Str) :: ("pen" : Str) :: N') "law" (defScope st) f cdv callerA [] s H (fun _ _ _ => False)) G.W) => hbody cdv s H hrd rfl G tk
  -- the pen, then the rest
  have first : PS (cxOf (L2.CX P w) P w K mg base (("script" : Str) :: ("pen" : Str) :: N') "law" (defScope st) f cdv callerA [] s H (fun _ _ _ => False)) (.Assign [.Name "pen" q1] (.Call (.Name "_law_pen" q2) [.Name "script" q3] [] q4) q5) (tAsg (tCall (spPen K) [] (fun _ _ _ => False) (tCons (tVar 0) tNil)) (gName 1)) :=
    ps_set (i := 1) S.nd rfl lp (pe_call FP hrd lg mP kP bP .nil (passF fun _ _ _ z => z) (pa_cons (pe_var (i := 0) rfl (by
      rcases S.par "script" (by simp) with q | q
      · exact .inl q
      · exact .inr (.inl q))) pa_nil))
  have body := PSs.mk (X := cxOf (L2.CX P w) P w K mg base (("script" : Str) :: ("pen" : Str) :: N') "law" (defScope st) f cdv callerA [] s H (fun _ _ _ => False)) (st := rest) (t := fun D σ H5 => ∃ G : Gam K mg, Takes (cxOf (L2.CX P w) P w K mg base (("script" : Str) :: ("pen" : Str) :: N') "law" (defScope st) f cdv callerA [] s H (fun _ _ _ => False)) G.W ∧ tB G (.no :: .pen :: List.replicate N'.length .no) m Fl.rt D σ H5)
    fun pins s5 σ H5 D Iv ⟨G, tk, h⟩ => (two G tk).run pins s5 σ H5 D Iv h
  have whole := pss_cons first body
  rw [← hB] at whole
  refine wpAny_mono (whole.run [] s1 _ H { nx := fun _ _ => False, rt := fun v _ => v = .bl true } I ?_) (fun fl s' hs' => ?_) fun e s' hs' => hs'
  · refine ⟨.ref a, rfl, a, ns, rfl, hs, hl, fun p c H' sm hp hc ne h1 h2 => ⟨⟨H', some p, fun cls d _ H => False, fun _ => False⟩, takes0, fun b => if b = c then some (.lst (ns.map V.int)) else none, ⟨ns, 0, 0⟩, ?_, ?_⟩⟩
    · have nown : ∀ i b, ¬ Own ((start (("script" : Str) :: ("pen" : Str) :: N') [V.ref a]).set 1 (some (.ref p))) (LV.no :: .pen :: List.replicate N'.length .no) i b := by
        rintro i b ⟨_, lv, h2, h3⟩
        match i with
        | 0 =>
          have h2 : some LV.no = some lv := h2
          cases h2
          cases h3
        | 1 =>
          have h2 : some LV.pen = some lv := h2
          cases h2
          cases h3
        | i + 2 =>
          have h2 : (List.replicate N'.length LV.no)[i]? = some lv := h2
          rw [List.getElem?_replicate] at h2
          split at h2
          · cases h2; cases h3
          · cases h2
      refine ⟨by unfold start; simp, fun b o e => ?_, fun b o e => ?_, fun b o e _ => e, fun b e => ?_, fun i lv e => ?_, fun i j b o _ => (nown i b o).elim, fun b h => h.elim, fun i b o => (nown i b o).elim⟩
      · by_cases hb : b = c
        · subst hb
          rw [if_pos rfl] at e
          cases e
          exact h2
        · rw [if_neg hb] at e
          cases e
      · by_cases hb : b = c
        · subst hb
          rw [if_pos rfl] at e
          cases e
          show (ns.map V.int).length ≤ sizeLine
          rw [List.length_map, sizeLine_eq]
          omega
        · rw [if_neg hb] at e
          cases e
      · cases e
        exact ⟨c, h1, if_neg ne, if_pos rfl⟩
      · match i with
        | 0 =>
          have e : some LV.no = some lv := e
          cases e
          trivial
        | 1 =>
          have e : some LV.pen = some lv := e
          cases e
          exact ⟨p, rfl, rfl⟩
        | i + 2 =>
          have e : (List.replicate N'.length LV.no)[i]? = some lv := e
          rw [List.getElem?_replicate] at e
          split at e
          · cases e; trivial
          · cases e
    · revert hm
      cases m ⟨ns, 0, 0⟩ with
      | mk r p' =>
        intro hm
        have hm : r = _ := hm
        subst hm
        intro v σ η H2 B2 _ _ dt
        cases dt
        rfl
  · have fin : ∀ {σ' : St} {H' : Hp} {v : V} {u : Value}, Inv (cxOf (L2.CX P w) P w K mg base (("script" : Str) :: ("pen" : Str) :: N') "law" (defScope st) f cdv callerA [] s H (fun _ _ _ => False)) [] σ' H' s' → RelV v u → v = .bl true → CE [] P w H s (fun v _ => v = .bl true) u s' :=
      fun {σ' H' v u} J rv q => ⟨v, H', J.os, J.bare, J.base, J.hok, rv, q⟩
    cases fl with
    | ret u =>
      obtain ⟨v, σ', H', J, rv, q⟩ := hs'
      exact fin J rv q
    | next =>
      obtain ⟨_, _, _, q⟩ := hs'
      exact False.elim q
    | brk =>
      obtain ⟨_, _, _, q⟩ := hs'
      exact False.elim q
    | cont =>
      obtain ⟨_, _, _, q⟩ := hs'
      exact False.elim q
end
end L2.Ly

set_option Elab.async false
set_option linter.all false
set_option maxRecDepth 100000
set_option maxHeartbeats 4000000
/-! Ly19: the law's end from its own def's run; facts of the top, defs with super() among them. -/
namespace L2.Ly
open PySem PySem.Spec PyProof.Rows

section
variable {P : Program} {w : World} {K : PySem.W.Frag} {mg mb : Str → Option Value} {fa a : Addr} {s : Shared} {vs : List Value} {ns : List Int}
/-- the run of the law's def, from the heap behind the top -/
def LawRun (P : Program) (w : World) (K : PySem.W.Frag) (mg : Str → Option Value) (fa a : Addr) (ns : List Int) (s : Shared) : Prop := ∀ (base : Heap) (H : Hp), Env0 P w K mg base callerA [] s H → SqL K H a (ns.map V.int) →
  codeAny (model P w) callerA (.call (.ref fa) ⟨[.ref a], []⟩) (CR (L2.CX P w) [] P w H s (fun v _ => v = .bl true) (fun _ _ _ => False)) s
abbrev scriptO (vs : List Value) : Obj := { cls := .type "list", data := .seq vs.toArray }
theorem law_from {H : Hp} (run : LawRun P w K mg fa a ns s) (KX : K.In s.heap) (hns : s.heap.Ns mainGlobals mg) (hb : s.heap.Ns builtinsNs mb) (hbb : ∀ x : Str, x ≠ "__name__" → mb x = bootBuiltins x) (hlim : s.heap.NoLimit) (hg : s.gens = #[]) (ha : s.heap.get? a = some (scriptO vs))
    (hH : ∀ b u, H b = some u → b = a ∧ K.lookup a = none ∧ u = .frz (scriptO vs) (.lst (ns.map V.int))) (hs : SqL K H a (ns.map V.int)) (hok : HOk P w H s.heap) :
    codeAny (model P w) callerA (.call (.ref fa) ⟨[.ref a], []⟩) (fun r s' => r = .ok (.ret (.bool true)) ∧ OldK s.heap s'.heap ∧ s'.os = s.os ∧ AllBare s'.gens) s := by
  have seen : ∀ {b : Addr} {o : Obj}, s.heap.get? b = some o → o ≠ scriptO vs → (hidT s.heap H).get? b = some o := fun {b o} e n => hidT_get e (by
    cases q : H b with
    | none => rfl
    | some u =>
      obtain ⟨rfl, _⟩ := hH b u q
      rw [ha] at e
      exact absurd (Option.some.inj e).symm n)
  have names : ∀ {b : Addr} {m : Str → Option Value}, s.heap.Ns b m → (hidT s.heap H).Ns b m := fun {b m} ⟨o, es, ep, e, d, r⟩ => ⟨o, es, ep, seen e (by
    rintro rfl
    cases d), d, r⟩
  have kin : K.In (hidT s.heap H) := fun b o e => hidT_get (KX b o e) (by
    cases q : H b with
    | none => rfl
    | some u =>
      obtain ⟨rfl, k, _⟩ := hH b u q
      rw [k] at e
      cases e)
  have md : Mod K mg (hidT s.heap H) := by
    obtain ⟨mc, l1, l2⟩ := hlim
    exact ⟨kin, names hns, ⟨mb, names hb, hbb⟩, ⟨mc, names l1, l2⟩⟩
  have e0 : Env0 P w K mg (hidT s.heap H) callerA [] s H := by
    refine ⟨rfl, md, fun b o e => of_hidT e, ?_, trivial, fun b q => ?_, hok, .of_eq hg⟩
    · rw [hidT_size]
      exact Nat.le_refl _
    · cases q
  refine codeAny_mono (run _ H e0 hs) fun r s' h => ?_
  match r, h with
  | .error e, h => exact (let ⟨_, _, _, _, _, _, _, _, _, _, _, _, z⟩ := h; z.elim)
  | .ok (.ret u), h =>
    obtain ⟨v, H', os, bare, un, hok', rv, ev⟩ := h
    have ev : v = .bl true := ev
    subst ev
    obtain rfl : u = Value.bool true := rv
    refine ⟨rfl, OldK.of_keep fun b o e => ?_, os, bare⟩
    cases q : H b with
    | none => exact un.keep b o e q (fun z => by cases z) (by simp)
    | some u =>
      obtain ⟨rfl, _, rfl⟩ := hH b u q
      have z := hok' _ _ (un.frzs _ _ _ q)
      rw [ha] at e
      cases e
      exact z.1
theorem law_end (run : LawRun P w K mg fa a ns s) (KX : K.In s.heap) (hns : s.heap.Ns mainGlobals mg) (hb : s.heap.Ns builtinsNs mb) (hbb : ∀ x : Str, x ≠ "__name__" → mb x = bootBuiltins x) (hlim : s.heap.NoLimit) (hg : s.gens = #[]) (ha : s.heap.get? a = some (scriptO vs))
    (hi : IntsAre vs ns) (hl : ns.length ≤ sizeLine) : codeAny (model P w) callerA (.call (.ref fa) ⟨[.ref a], []⟩) (fun r s' => r = .ok (.ret (.bool true)) ∧ OldK s.heap s'.heap ∧ s'.os = s.os ∧ AllBare s'.gens) s := by
  have rv := vals_ints hi
  have lv : vs.length = ns.length := hi.length
  by_cases hk : K.lookup a = none
  · let H : Hp := fun b => if b = a then some (.frz (scriptO vs) (.lst (ns.map V.int))) else none
    have hH : ∀ b u, H b = some u → b = a ∧ u = .frz (scriptO vs) (.lst (ns.map V.int)) := fun b u e => by
      by_cases q : b = a
      · have z : (if b = a then some (HO.frz (scriptO vs) (.lst (ns.map V.int))) else none) = some u := e
        rw [if_pos q] at z
        exact ⟨q, (Option.some.inj z).symm⟩
      · have z : (if b = a then some (HO.frz (scriptO vs) (.lst (ns.map V.int))) else none) = some u := e
        rw [if_neg q] at z
        cases z
    refine law_from (H := H) run KX hns hb hbb hlim hg ha (fun b u e => ⟨(hH b u e).1, hk, (hH b u e).2⟩) (.inl (.inr ⟨scriptO vs, if_pos rfl⟩)) fun b u e => ?_
    obtain ⟨rfl, rfl⟩ := hH b u e
    exact ⟨ha, by rw [List.length_map]; exact hl, vs, _, rv, ha⟩
  · obtain ⟨o, ho⟩ := Option.ne_none_iff_exists'.mp hk
    have e := KX a o ho
    rw [ha] at e
    have e := Option.some.inj e
    subst e
    refine law_from (H := fun _ => none) run KX hns hb hbb hlim hg ha (fun b u e => by cases e) (.inr ⟨_, vs.toArray, _, ho, rfl, rfl, rfl, ?_, ?_⟩) fun b u e => by cases e
    · rw [List.size_toArray, lv]
      exact hl
    · simpa using rv
/-- the goal that the head leaves -/
theorem walk_law {l : PySem.W.OpenLaw} {q : Program} {loose : List Str} {XP : (Str → Option Value) → Heap → Prop} {YP : World → Heap → Prop} {d : DefRec} (hn : l.most = some 63) (hdf : d.params.defaults = [])
    (F : ∀ (w : World) (mg : Str → Option Value) (fa : Addr) (h : Heap), YP w h → h.Ns mainGlobals mg → mg d.name = some (.ref fa) → ∃ K : PySem.W.Frag, K.In h ∧ ∀ (a : Addr) (ns : List Int) (s : Shared), ns.length ≤ 63 → LawRun l.prog w K mg fa a ns s) :
    PySem.W.WalkO q loose XP YP l.row.toRowW d [] (fun f vs => PySem.call f vs) := by
  refine Att.attach_call hn hdf fun w s₀ s₁ mg mb fa o pm cd doc a vs ns G Y ho hd hcd hmg hobj hints hlen hg => ?_
  obtain ⟨K, KX, run⟩ := F w mg fa _ Y G.T.g hmg
  exact law_end (run a ns s₁ hlen) KX G.T.g G.T.b G.T.builtins G.T.nolimit hg hobj hints (Nat.le_trans hlen (by decide))
end

/-! ### the facts of the top -/
theorem Fun.ofD {K : PySem.W.Frag} {x qual : Str} {st : Stmt} {f : Addr} {fd : FuncData} {kws : List (Str × V)} (F : FunD K x qual (defArgs st) (defBody st) (defScope st) [] kws f fd) : Fun K x qual st f fd := by
  obtain ⟨oc, od, dV, kV, doc, pm, an, cdv, ct, osl, rfl, lk, hcd, hD, hK⟩ := F.ex
  rcases hD with ⟨_, rfl⟩ | ⟨e, _⟩
  · exact ⟨⟨oc, od, kV, doc, pm, an, cdv, ct, osl, rfl, lk, hcd⟩, F.kp⟩
  · exact absurd rfl e
/-- a def with super(): where it stands (class, name), its words; the class whose cell it holds -/
structure SupF where
  cls : Str
  name : Str
  qual : Str
  params : Arguments
  body : List Stmt
  scope : Scope
abbrev SupW : Type := Option (Str × Str × Arguments × FuncBody × Scope × Addr × List Str × Addr)
def supW (K : PySem.W.Frag) (d : SupF) : SupW := match K.lookup (He.fAd K (d.cls, some d.name)) with
  | some ⟨_, _, .func fd, _⟩ => some (fd.name, fd.qualname, fd.params, fd.body, fd.scope, fd.globals, fd.closure.map (·.1), fd.builtins)
  | _ => none
def SupF.val (d : SupF) : SupW := some (d.name, d.qual, d.params, .stmts d.body, d.scope, mainGlobals, [("__class__" : Str)], builtinsNs)
/-- its cell, its code -/
def supC (K : PySem.W.Frag) (d : SupF) : Addr := match K.lookup (He.fAd K (d.cls, some d.name)) with
  | some ⟨_, _, .func fd, _⟩ => (match fd.closure with
    | [(_, c)] => c
    | _ => 0)
  | _ => 0
def supD (K : PySem.W.Frag) (d : SupF) : Addr := match K.lookup (He.fAd K (d.cls, some d.name)) with
  | some ⟨_, _, .func fd, _⟩ => (match fd.code with
    | .ref c => c
    | _ => 0)
  | _ => 0
def isNoneV : Value → Bool
  | .none => true
  | _ => false
def supOk (file : Str) (K : PySem.W.Frag) (d : SupF) : Bool := (match K.lookup (He.fAd K (d.cls, some d.name)) with
    | some ⟨_, _, .func fd, _⟩ => (match fd.code with
      | .ref c => isNoneV fd.defaults && PySem.W.codeIn K (.ref c) d.qual && (match K.lookup c with
        | some ⟨_, _, .fields vs, _⟩ => (match (vs[2]? : Option Value) with
          | some (.str f _) => file == f
          | _ => false)
        | _ => false)
      | _ => false)
    | _ => false) && (match K.lookup (supC K d) with
    | some ⟨_, _, .cell (some (.ref D)), _⟩ => decide (D = He.ga K d.cls)
    | _ => false) && (PySem.W.clsIn K (He.ga K d.cls)).isSome
def NFof (K : PySem.W.Frag) (d : SupF) : NdefX.NF := ⟨d.name, d.qual, d.params, d.body, d.scope, [(("__class__" : Str), supC K d)], supD K d⟩
theorem supD_of {P : Program} {K : PySem.W.Frag} {mg : Str → Option Value} {d : SupF} {par : Str} {N ps : List Str} (e : supW K d = d.val) (c : supOk P.main.file K d = true) (hp : ∃ ar, (d.params.posonlyargs ++ d.params.args).head? = some ar ∧ ar.arg = par) (sc : NdefX.NScope N ps ["__class__"] d.scope)
    (ks : d.scope.names.lookup ("super" : Str) = some .globalImplicit) (kp : d.scope.names.lookup par = some .local) (top : (P.main.scope.names.lookup ("super" : Str)).isSome = false) (ns : mg "super" = none) (nst : PySem.W.nsIn K PySem.cStatics "thirdparty.any" = some none) :
    ∃ fd : FuncData, fd.params = d.params ∧ SupD P K mg (NFof K d) (He.fAd K (d.cls, some d.name)) (supC K d) (He.ga K d.cls) fd par N ps ∧ ∃ kV doc pm an ct, fd = PySem.W.ksFn d.name d.qual d.params d.body d.scope .none kV doc pm an (.ref (supD K d)) ct (supC K d) := by
  obtain ⟨c12, c3⟩ := Bool.and_eq_true_iff.mp c
  obtain ⟨c1, c2⟩ := Bool.and_eq_true_iff.mp c12
  unfold supW at e
  cases q : K.lookup (He.fAd K (d.cls, some d.name)) with
  | none =>
    rw [q] at c1
    cases c1
  | some o =>
    obtain ⟨oc, od, dt, osl⟩ := o
    cases dt with
    | func fd =>
      rw [q] at c1 e
      obtain ⟨n1, n2, n3, n4, n5, n6, n7, n8, n9, n10, n11, n12, n13, n14, n15⟩ := fd
      have e2 : (some (n1, n2, n3, n4, n5, n6, n7.map (·.1), n15) : SupW) = some (d.name, d.qual, d.params, .stmts d.body, d.scope, mainGlobals, [("__class__" : Str)], builtinsNs) := e
      simp only [Option.some.injEq, Prod.mk.injEq] at e2
      obtain ⟨h1, h2, h3, h4, h5, h6, h7, h8⟩ := e2
      subst h1 h2 h3 h4 h5 h6 h8
      match n7, h7, q, c1 with
      | [(y, cc)], h7, q, c1 =>
        have h7 : y = ("__class__" : Str) := by simpa using h7
        subst h7
        cases n13 with
        | ref cd =>
          have eC : supC K d = cc := by
            unfold supC
            rw [q]
          have eD : supD K d = cd := by
            unfold supD
            rw [q]
          have c1 : (isNoneV n8 && PySem.W.codeIn K (.ref cd) d.qual && (match K.lookup cd with
            | some ⟨_, _, .fields vs, _⟩ => (match (vs[2]? : Option Value) with
              | some (.str f _) => P.main.file == f
              | _ => false)
            | _ => false)) = true := c1
          obtain ⟨k01, k2⟩ := Bool.and_eq_true_iff.mp c1
          obtain ⟨k0, k1⟩ := Bool.and_eq_true_iff.mp k01
          have e8 : n8 = .none := by
            cases n8 with
            | none => rfl
            | _ => cases k0
          subst e8
          have code : ∃ ccl cdd vs ccs file tf, K.lookup cd = some ⟨ccl, cdd, .fields vs, ccs⟩ ∧ vs[2]? = some (.str file tf) ∧ ((P.main.file : Str) == file) = true := by
            split at k2
            · rename_i ccl cdd vs ccs ho
              split at k2
              · rename_i file tf hv
                exact ⟨_, _, _, _, _, _, ho, hv, k2⟩
              · cases k2
            · cases k2
          have cell : ∃ cl cld csl, K.lookup cc = some ⟨cl, cld, .cell (some (.ref (He.ga K d.cls))), csl⟩ := by
            rw [eC] at c2
            split at c2
            · rename_i cl cld D csl ho
              have z := of_decide_eq_true c2
              subst z
              exact ⟨_, _, _, ho⟩
            · cases c2
          refine ⟨_, rfl, ⟨⟨⟨oc, od, osl, q⟩, hp, ?_, by unfold NFof; rfl, by rw [eC]; exact cell, Option.isSome_iff_exists.mp c3, ks, sc.frk _ (by simp), kp, sc.kind, top, ns⟩, ?_, ?_, sc, nst⟩, ?_⟩
          · unfold NFof
            rw [eD]
            exact code
          · exact ⟨.none, n9, n10, n11, n12, n14, by unfold NFof; rw [eC, eD]⟩
          · unfold NFof
            rw [eD]
            exact k1
          · exact ⟨n9, n10, n11, n12, n14, by rw [eC, eD]⟩
        | _ => cases c1
      | [], h7, q, c1 => simp at h7
      | _ :: _ :: _, h7, q, c1 => simp at h7
    | _ =>
      rw [q] at c1
      cases c1
abbrev AlL : Type := He.AlD × List SupW × Bool
def obsL (fa : List He.Fa) (fn : List He.DefD) (fs : List SupF) (ex : PySem.W.Frag → Bool) (K : PySem.W.Frag) : AlL := (He.obsD fa fn K, fs.map (supW K), ex K)
def valL (fn : List He.DefD) (fs : List SupF) : AlL := (He.valD fn, fs.map SupF.val, true)
def SaysL (fa : List He.Fa) (fn : List He.DefD) (fs : List SupF) (ex : PySem.W.Frag → Bool) (K : PySem.W.Frag) : Prop := obsL fa fn fs ex K = valL fn fs
def obsLG (n : Nat) (fa : List He.Fa) (fn : List He.DefD) (fs : List SupF) (ex : PySem.W.Frag → Bool) (g : Addr → Option Obj) : AlL := obsL fa fn fs ex (He.frG g (PySem.cStatics :: He.asD g n))
def hookL (n : Nat) (fa : List He.Fa) (fn : List He.DefD) (fs : List SupF) (ex : PySem.W.Frag → Bool) : PySem.W.Hook where
  α := AlL
  obs := fun s => obsLG n fa fn fs ex s.heap.get?
  val := fun _ => valL fn fs
  says := fun _ h => ∃ K : PySem.W.Frag, K.In h ∧ SaysL fa fn fs ex K
  of := fun _ _ e => ⟨_, He.frG_in, e⟩
  keeps := fun _ _ _ ⟨K, hK, c⟩ k => ⟨K, PySem.W.Frag.In.keeps hK k, c⟩
theorem obsLG_eq {n : Nat} {fa : List He.Fa} {fn : List He.DefD} {fs : List SupF} {ex : PySem.W.Frag → Bool} {g : Addr → Option Obj} {s : Shared} (h : ∀ a, g a = s.heap.get? a) : obsLG n fa fn fs ex g = (hookL n fa fn fs ex).obs s := by
  have e : g = s.heap.get? := funext h
  rw [e] <;> rfl
section
variable {fa : List He.Fa} {fn : List He.DefD} {fs : List SupF} {ex : PySem.W.Frag → Bool} {K : PySem.W.Frag}
theorem SaysL.d (c : SaysL fa fn fs ex K) : He.SaysD fa fn K := congrArg (fun z : AlL => z.1) c
theorem SaysL.ex_ (c : SaysL fa fn fs ex K) : ex K = true := congrArg (fun z : AlL => z.2.2) c
theorem SaysL.sup (c : SaysL fa fn fs ex K) (i : Nat) {d : SupF} (h : fs[i]? = some d := by rfl) : supW K d = d.val := by
  have e : fs.map (supW K) = fs.map SupF.val := congrArg (fun z : AlL => z.2.1) c
  have z := congrArg (fun l => l[i]?) e
  simp only [List.getElem?_map, h] at z
  exact Option.some.inj z
end
end L2.Ly

set_option Elab.async false
set_option linter.all false
set_option maxRecDepth 100000
set_option maxHeartbeats 4000000
/-! Ly20: classes made by keywords, told in the parameters' order from the last one. -/
namespace L2.Ly
open PySem PySem.Spec PyProof.Rows

section
variable {X : Cx} {G : Gam X.K X.mg} {η : List LV} {e : Expr} {kws : List Keyword} {pos p1 kpos : Pos} {nm : Option Str} {C f : Addr} {cn : Str} {k : Nat}
theorem PK.pre {kws : List Keyword} {t t' : TA} (h : PK X kws t) (i : ∀ σ H Q, t' σ H Q → t σ H Q) : PK X kws t' := ⟨fun pos pins s σ H Q I w => h.run pos pins s σ H Q I (i _ _ _ w)⟩
/-- the keywords' values, from the left -/
def DXk (X : Cx) (G : Gam X.K X.mg) (η : List LV) (kws : List Keyword) (r : M (List D)) : Prop := PK X kws (tXa G η r) ∧ ∀ p xs p', r p = (R.ok xs, p') → xs.length = kws.length
theorem dxk_nil : DXk X G η [] (pure []) :=
  ⟨PK.pre pk_nil fun σ H Q ⟨B, p, rl, q⟩ => q.lift rl .nil, fun p xs p' e => by cases e; rfl⟩
theorem dxk_cons {r : M D} {rs : M (List D)} (he : DX X G η e r) (hr : DXk X G η kws rs) : DXk X G η (⟨nm, e, kpos⟩ :: kws) (r >>= fun x => rs >>= fun xs => pure (x :: xs)) := by
  refine ⟨PK.pre (pk_cons he hr.1) fun σ H Q ⟨B, p, rl, q⟩ => ⟨B, p, rl, q.bind.imp ?_⟩, fun p xs p' e => ?_⟩
  · rintro v H1 ⟨B1, p1, x, s1, rl1, d1, q1⟩
    refine ⟨B1, p1, rl1, q1.bind.imp ?_⟩
    rintro vs H2 ⟨B2, p2, xs, s2, rl2, d2, q2⟩
    exact q2.lift rl2 (.cons (Dt.mono s2 _ _ d1) d2)
  · rw [M.bind_def] at e
    revert e
    cases r p with
    | mk y p1 =>
      cases y with
      | ok x =>
        intro e
        have e : (rs >>= fun xs => pure (x :: xs)) p1 = (R.ok xs, p') := e
        rw [M.bind_def] at e
        revert e
        cases e1 : rs p1 with
        | mk z p2 =>
          cases z with
          | ok ys =>
            intro e
            cases e
            rw [List.length_cons, List.length_cons, hr.2 _ _ _ e1]
          | err z => exact fun e => by cases e
          | bad => exact fun e => by cases e
      | err z => exact fun e => by cases e
      | bad => exact fun e => by cases e
theorem kbn_rev {K : PySem.W.Frag} {fd : FuncData} {ps ks : List Str} (h : ∀ us ws : List Value, us.length = 1 → ws.length = ks.length → bindArgs fd ⟨us, ks.zip ws⟩ = pure (ps.zip (us ++ ws.reverse))) : KBn K fd ps 1 ks (fun us ws => us ++ ws.reverse) (fun vs zs => vs ++ zs.reverse) := by
  refine ⟨fun s us ws X l1 l2 => .of_eq (h us ws l1 l2), fun r1 r2 => r1.append ?_⟩
  have rev : ∀ {zs : List V} {ws : List Value}, Vals zs ws → Vals zs.reverse ws.reverse := by
    intro zs ws r
    induction r with
    | nil => exact .nil
    | cons a _ ih =>
      simp only [List.reverse_cons]
      exact ih.append (.cons a .nil)
  exact rev r2
/-- C(k = v, ..), the keywords from the last parameter to the first -/
theorem dx_makeK {m : List (Str × D) → List D → R (List (Str × D))} {rs : M (List D)} {fd : FuncData} {ps ks : List Str} (Mm : Mk X.K C f) (F : FnOk X.prog X.w X.K X.mg X.base (L2.CX X.prog X.w) k f fd ps (spI X.K X.mg C m)) (hne : ∀ ds e, m [] ds ≠ .err e) (hr : Room (k + 1) X.A) (hg : Gl X cn) (hm : X.mg cn = some (.ref C))
    (hb : KBn X.K fd ps 1 ks (fun us ws => us ++ ws.reverse) (fun vs zs => vs ++ zs.reverse)) (ha : DXk X G η kws rs) (hl : kws.length = ks.length := by rfl)
    (hall : (backToKw pos (keywordEach kws X.env)).all (·.1.isSome) = true := by rfl) (hks : (backToKw pos (keywordEach kws X.env)).filterMap (·.1) = ks := by rfl) (hdb : (cn == ("__debug__" : Str)) = false := by decide)
    (hpl : ((backTo pos (starEach [] X.env)).any (·.1) || (backToKw pos (keywordEach kws X.env)).any (·.1.isNone)) = false := by rfl) :
    DX X G η (.Call (.Name cn p1) [] kws pos) (rs >>= fun ds => M.lift (mkD cn m ds.reverse)) := by
  refine PE.pre (pe_makeK0 Mm F hr hg hm hb (passF (E := fun _ _ _ => False) fun _ _ _ z => z) ha.1 hall hks hdb hpl) fun σ H Q ⟨B, p, rl, q⟩ => ?_
  show tXa G η rs σ H fun zs H2 => _
  refine ⟨B, p, rl, ?_⟩
  have key : ∀ xs p', rs p = (R.ok xs, p') → xs.length = kws.length := fun xs p' e => ha.2 p xs p' e
  revert q
  rw [M.bind_def]
  cases e1 : rs p with
  | mk r p1 =>
    cases r with
    | ok ds =>
      intro q zs H1 B1 s1 rl1 d1
      refine ⟨rfl, by rw [d1.length, key _ _ e1, hl], fun x dx hx hdx ne => ?_⟩
      exact mk_ok hm hne rl1 d1.reverse (q.mono s1) x dx hx hdx ne
    | err z => exact fun q => q
    | bad => exact fun q => q
end
end L2.Ly

set_option Elab.async false
set_option linter.all false
set_option maxRecDepth 100000
set_option maxHeartbeats 4000000
/-! Ly21: what classes are asked, as tests of the written part. -/
namespace L2.Ly
open PySem PySem.Spec PyProof.Rows

/-- a class whose instances are plain -/
abbrev InsC (K : PySem.W.Frag) (C : Addr) : Prop := Cls K C ∧ PySem.W.findIn K (.ref C) "__class__" = some (some (.builtin "object.__class__")) ∧ PySem.W.specialIn K (.builtin "object.__class__") "__get__" = some (some (.builtin "getset_descriptor.__get__")) ∧ PySem.W.takesIn K (.builtin "object.__class__") = some true ∧ PySem.W.mroIn K C (.type "object") = some true
def clsB (K : PySem.W.Frag) (C : Addr) : Bool := PySem.W.plainGet K C Str.empty && PySem.W.hasDictIn K C && PySem.W.plainOver K C && decide (PySem.W.findIn K (.ref C) "__setattr__" = some (some (.builtin "object.__setattr__")))
theorem clsB_ok {K : PySem.W.Frag} {C : Addr} (h : clsB K C = true) : Cls K C := by
  unfold clsB at h
  simp only [Bool.and_eq_true, decide_eq_true_eq] at h
  exact ⟨h.1.1.1, h.1.1.2, h.1.2, h.2⟩
def insB (K : PySem.W.Frag) (C : Addr) : Bool := clsB K C && decide (PySem.W.findIn K (.ref C) "__class__" = some (some (.builtin "object.__class__"))) && decide (PySem.W.specialIn K (.builtin "object.__class__") "__get__" = some (some (.builtin "getset_descriptor.__get__"))) && decide (PySem.W.takesIn K (.builtin "object.__class__") = some true) && decide (PySem.W.mroIn K C (.type "object") = some true)
theorem insB_ok {K : PySem.W.Frag} {C : Addr} (h : insB K C = true) : InsC K C := by
  unfold insB at h
  simp only [Bool.and_eq_true, decide_eq_true_eq] at h
  exact ⟨clsB_ok h.1.1.1.1, h.1.1.1.2, h.1.1.2, h.1.2, h.2⟩
def mkB (K : PySem.W.Frag) (C f : Addr) : Bool := PySem.W.makesIn K C && decide (PySem.W.findIn K (.ref C) "__init__" = some (some (.ref f))) && PySem.W.isFn K (.ref f) && PySem.W.keepIn K (.ref C)
theorem mkB_ok {K : PySem.W.Frag} {C f : Addr} (h : mkB K C f = true) : Mk K C f := by
  unfold mkB at h
  simp only [Bool.and_eq_true, decide_eq_true_eq] at h
  exact ⟨h.1.1.1, h.1.1.2, h.1.2, h.2⟩
def noB (K : PySem.W.Frag) (C : Addr) (f : Str) : Bool := decide (PySem.W.findIn K (.ref C) f = some none)
theorem noB_ok {K : PySem.W.Frag} {C : Addr} {f : Str} (h : noB K C f = true) : NoAttr K C f := by
  unfold noB at h
  have z : PySem.W.findIn K (.ref C) f = some none := of_decide_eq_true h
  exact z
def metB (K : PySem.W.Frag) (C : Addr) (m : Str) (f : Addr) : Bool := decide (PySem.W.findIn K (.ref C) m = some (some (.ref f))) && PySem.W.isFn K (.ref f)
theorem metB_ok {K : PySem.W.Frag} {C f : Addr} {m : Str} (h : metB K C m f = true) : PySem.W.findIn K (.ref C) m = some (some (.ref f)) ∧ PySem.W.isFn K (.ref f) = true := by
  unfold metB at h
  simp only [Bool.and_eq_true, decide_eq_true_eq] at h
  exact h
/-- C's __init__ says super().__init__, which is g -/
def supB (K : PySem.W.Frag) (C g : Addr) : Bool := decide (PySem.W.mroIn K C (.ref C) = some true) && decide (PySem.W.ks_superIn K C C "__init__" = some (some (.ref g)))
theorem supB_ok {K : PySem.W.Frag} {C g : Addr} (h : supB K C g = true) : PySem.W.mroIn K C (.ref C) = some true ∧ PySem.W.ks_superIn K C C "__init__" = some (some (.ref g)) := by
  unfold supB at h
  simp only [Bool.and_eq_true, decide_eq_true_eq] at h
  exact h
def kitIs (K : PySem.W.Frag) (t u : Value) (b : Bool) : Bool := decide (PySem.W.kitOne K t u = some b)
def plainTys : List String := ["NoneType", "bool", "int", "str", "tuple", "list", "dict"]
/-! ### exceptions -/
def oexB (K : PySem.W.Frag) (C : Addr) : Bool := (match K.lookup C with
  | some ⟨.type t, _, .cls cd, sl⟩ => (match cd.mro, sl.toList with
    | .ref C' :: bm, [_, _, _, _, some (.builtin n), _] => decide (t = "type") && C' == C && n == "ValueError.__new__" && !cd.hasDel && cd.hasDict && PySem.HandSPX.refsVE bm
    | _, _ => false)
  | _ => false) && decide (PySem.W.findIn K (.ref C) "__setattr__" = some (some (.builtin "object.__setattr__"))) && decide (PySem.W.subIn K (.ref C) (.type "BaseException") = some true) && decide (PySem.W.typeIn K (.ref C) = some (.type "type")) && PySem.W.keepIn K (.ref C)
theorem oexB_ok {K : PySem.W.Frag} {C : Addr} (h : oexB K C = true) : OexC K C := by
  unfold oexB at h
  simp only [Bool.and_eq_true, decide_eq_true_eq] at h
  obtain ⟨⟨⟨⟨h1, h2⟩, h3⟩, h4⟩, h5⟩ := h
  refine ⟨?_, h2, h3, h4, h5⟩
  split at h1
  · rename_i t dd cd sl ho
    split at h1
    · rename_i C' bm k0 k1 k2 k3 n k5 hm hs
      simp only [Bool.and_eq_true, decide_eq_true_eq, beq_iff_eq, Bool.not_eq_true'] at h1
      obtain ⟨⟨⟨⟨⟨rfl, rfl⟩, rfl⟩, nd⟩, hd⟩, tl⟩ := h1
      obtain ⟨nm, bs, mro, ns, qn, dc, sn, sub, ab, col, del⟩ := cd
      dsimp only at hm nd hd
      subst hm nd hd
      obtain ⟨l⟩ := sl
      simp only at hs
      subst hs
      exact ⟨nm, qn, ns, bs, bm, sn, sub, ab, col, dd, k0, k1, k2, k3, k5, ho, tl⟩
    · cases h1
  · cases h1
def excB (K : PySem.W.Frag) (C : Addr) : Bool := xfB K C && decide (PySem.W.findIn K (.ref C) "__class__" = some (some (.builtin "object.__class__"))) && decide (PySem.W.specialIn K (.builtin "object.__class__") "__get__" = some (some (.builtin "getset_descriptor.__get__"))) && decide (PySem.W.takesIn K (.builtin "object.__class__") = some true) && decide (PySem.W.mroIn K C (.type "object") = some true)
theorem excB_ok {K : PySem.W.Frag} {C : Addr} (h : excB K C = true) : XfC K C ∧ L2.ExcC K C := by
  unfold excB at h
  simp only [Bool.and_eq_true, decide_eq_true_eq] at h
  obtain ⟨⟨⟨⟨h1, h2⟩, h3⟩, h4⟩, h5⟩ := h
  have x := xfB_ok h1
  exact ⟨x, x.ga, x.gg, x.exC, x.hdC, h2, h3, h4, h5⟩
/-- .. made by its own __init__ f -/
def xmkB (K : PySem.W.Frag) (C f : Addr) : Bool := oexB K C && excB K C && decide (PySem.W.findIn K (.ref C) "__init__" = some (some (.ref f))) && decide (PySem.W.typeIn K (.ref f) = some (.type "function")) && decide (PySem.W.mroIn K C (.ref C) = some true) && decide (PySem.W.ks_superIn K C C "__init__" = some (some (.builtin iVE))) && decide (PySem.W.subIn K (.ref C) (.type "ValueError") = some true)
theorem xmkB_ok {K : PySem.W.Frag} {C f : Addr} (h : xmkB K C f = true) : XcK K C C ∧ XfC K C ∧ L2.ExcC K C ∧ PySem.W.findIn K (.ref C) "__init__" = some (some (.ref f)) ∧ PySem.W.typeIn K (.ref f) = some (.type "function") := by
  unfold xmkB at h
  simp only [Bool.and_eq_true, decide_eq_true_eq] at h
  obtain ⟨⟨⟨⟨⟨⟨h1, h2⟩, h3⟩, h4⟩, h5⟩, h6⟩, h7⟩ := h
  obtain ⟨x1, x2⟩ := excB_ok h2
  exact ⟨⟨oexB_ok h1, h5, h6, h7⟩, x1, x2, h3, h4⟩
/-- the i-th of some tests -/
theorem all_at {l : List Bool} (h : l.all id = true) (i : Nat) {b : Bool} (e : l[i]? = some b) : b = true := List.all_eq_true.mp h b (List.mem_of_getElem? e)
end L2.Ly

set_option Elab.async false
set_option linter.all false
set_option maxRecDepth 100000
set_option maxHeartbeats 4000000
/-! Ly22: a comprehension over one name; shorter words for a printer. -/
namespace L2.Ly
open PySem PySem.Spec PyProof.Rows

section
variable {X : Cx} {G : Gam X.K X.mg} {η : List LV} {elt iter : Expr} {ifs : List Expr} {scope : Scope} {pos p1 : Pos} {x : Str} {i : Nat} {ri : M (List D)} {t : D → M Bool} {f : D → M D}
theorem set_set_no {η : List LV} {i : Nat} {a : LV} : wipeL ((wipeL η [i]).set i a) [i] = wipeL η [i] := by
  show ((η.set i .no).set i a).set i .no = η.set i .no
  rw [List.set_set, List.set_set]
/-- [elt for x in iter if ..] -/
theorem dxf_lc1 (hc : X.calm = true) (hN : X.N.Nodup) (hi : DXi X G η (.Name x p1) iter ri) (ok : blkC X.N X.env.scope scope [(x, i)] = true) (hno : ∀ lv, η[i]? = some lv → lv.own = false) (hx : X.N[i]? = some x) (hl : scope.names.lookup x = some .local)
    (ht : ∀ (a : D) (H0 : Hp) (fr : Addr → Prop) (s : Shared) (H : Hp) (C : Addr) (cl : List (Str × Addr)) (fp : List Addr), DXt (X.blk s H scope (compEnvC scope cl C X.env) fp) (G.blk H0 fr) ((wipeL η [i]).set i (.d a)) ifs (t a))
    (he : ∀ (a : D) (H0 : Hp) (fr : Addr → Prop) (s : Shared) (H : Hp) (C : Addr) (cl : List (Str × Addr)) (fp : List Addr), DX (X.blk s H scope (compEnvC scope cl C X.env) fp) (G.blk H0 fr) ((wipeL η [i]).set i (.d a)) elt (f a))
    (hs : ∀ x, foldedSetIterable iter X.env x = pure x := by intro _; rfl) : DXf X G η (.ListComp elt [⟨.Name x p1, iter, ifs, 0⟩] scope pos) (ri >>= fun xs => lcM R.ok t f xs) :=
  dxf_lc (own := [(x, i)]) (st := fun a => (wipeL η [i]).set i (.d a)) hc hN hi (blkOk_by ok) (fun j hj lv e => by
    obtain rfl : j = i := by simpa using hj
    exact hno lv e) (fun a => set_set_no) (fun H0 fr s H C cl fp => dg_name (pg_name (i := i) hN hx (.inl (lookup_relabel_local (env := X.env) hl)) (.inr (lookup_relabel_local (env := X.env) hl))) (by simp)) ht he hs
/-- y = [elt for x in iter if ..] -/
theorem ps_lc1 {y : Str} {j : Nat} {py spos : Pos} (hc : X.calm = true) (hN : X.N.Nodup) (hy : X.N[j]? = some y) (hyl : X.env.scope.names.lookup y = some .local) (hi : DXi X G η (.Name x p1) iter ri) (ok : blkC X.N X.env.scope scope [(x, i)] = true) (hno : ∀ lv, η[i]? = some lv → lv.own = false) (hx : X.N[i]? = some x) (hl : scope.names.lookup x = some .local)
    (ht : ∀ (a : D) (H0 : Hp) (fr : Addr → Prop) (s : Shared) (H : Hp) (C : Addr) (cl : List (Str × Addr)) (fp : List Addr), DXt (X.blk s H scope (compEnvC scope cl C X.env) fp) (G.blk H0 fr) ((wipeL η [i]).set i (.d a)) ifs (t a))
    (he : ∀ (a : D) (H0 : Hp) (fr : Addr → Prop) (s : Shared) (H : Hp) (C : Addr) (cl : List (Str × Addr)) (fp : List Addr), DX (X.blk s H scope (compEnvC scope cl C X.env) fp) (G.blk H0 fr) ((wipeL η [i]).set i (.d a)) elt (f a))
    (hsw : swapsWith (.ListComp elt [⟨.Name x p1, iter, ifs, 0⟩] scope pos) (some (.Name y py)) spos.line X.env = pure true) (hs : ∀ x, foldedSetIterable iter X.env x = pure x := by intro _; rfl) :
    PS X (.Assign [.Name y py] (.ListComp elt [⟨.Name x p1, iter, ifs, 0⟩] scope pos) spos) (tAsg (tXf G η (ri >>= fun xs => lcM R.ok t f xs)) (gName j)) :=
  ps_lcOf (own := [(x, i)]) (st := fun a => (wipeL η [i]).set i (.d a)) hc hN hy hyl hi (blkOk_by ok) (fun j hj lv e => by
    obtain rfl : j = i := by simpa using hj
    exact hno lv e) (fun a => set_set_no) (fun H0 fr s H C cl fp => dg_name (pg_name (i := i) hN hx (.inl (lookup_relabel_local (env := X.env) hl)) (.inr (lookup_relabel_local (env := X.env) hl))) (by simp)) ht he hsw hs
/-- less is told -/
theorem db_less {β : Type} {I : β → Fl} {η' : List LV} {sts : List Stmt} {r : M β} (l : LeL η η') (h : DB X G η' sts r I) : DB X G η sts r I :=
  PSs.pre h fun E σ H ⟨B, p, rl, q⟩ => ⟨B, p, rl.less l, q⟩
end

/-- how it goes on behind a turn, a branch -/
def Out.k {α β : Type} (k : α → M β) (j : D → β) : Out α → M β
  | .nx a => k a
  | .rt d => pure (j d)
  | .bk _ => fun p => (.bad, p)
section
variable {X : Cx} {G : Gam X.K X.mg} {η : List LV} {β : Type} {I : β → Fl} {rest : List Stmt} {pos : Pos}
theorem db_ifK {c : Expr} {sA sB : List Stmt} {rc : M Bool} {α : Type} {s : α → List LV} {rA rB : M (Out α)} {k : α → M β} {j : D → β} (hc : DXb X G η c rc) (hA : DB X G η sA rA (outF s)) (hB : DB X G η sB rB (outF s)) (h : ∀ a, DB X G (s a) rest (k a) I) (hj : ∀ d, I (j d) = .rt d) :
    DB X G η (.If c sA sB pos :: rest) (rc >>= fun b => (if b then rA else rB) >>= Out.k k j) I := by
  refine cast (congrArg (fun r => DB X G η (.If c sA sB pos :: rest) r I) ?_) (db_ifJ (pos := pos) hc hA hB h hj)
  refine congrArg (fun f => rc >>= f) (funext fun b => congrArg (fun f => (if b then rA else rB) >>= f) (funext fun o => ?_))
  cases o <;> rfl
theorem db_forK {α γ : Type} {tg iter : Expr} {body : List Stmt} {ri : M (List D)} {vs : List Nat} {u : D → R γ} {st : α → γ → List LV} {s : α → List LV} {a0 : α} {f : α → γ → M (Out α)} {k : α → M β} {j : D → β}
    (hp : PassesOwn (model X.prog X.w) X.A X.env X.xe) (hc : X.calm = true) (hi : DXi X G η tg iter ri) (h0 : s a0 = η) (hg : ∀ a, DG X G (s a) vs tg u (st a)) (hb : ∀ a y, DB X G (st a y) body (f a y) (outF s)) (h : ∀ a, DB X G (s a) rest (k a) I) (hj : ∀ d, I (j d) = .rt d)
    (hs : ∀ x, foldedSetIterable iter X.env x = pure x := by intro _; rfl) :
    DB X G η (.For tg iter body [] pos :: rest) (ri >>= fun xs => forM u f xs a0 >>= Out.k k j) I := by
  refine cast (congrArg (fun r => DB X G η (.For tg iter body [] pos :: rest) r I) ?_) (db_for (pos := pos) hp hc hi h0 hg hb h hj hs)
  refine congrArg (fun g => ri >>= g) (funext fun xs => congrArg (fun g => forM u f xs a0 >>= g) (funext fun o => ?_))
  cases o <;> rfl
end
end L2.Ly

set_option Elab.async false
set_option linter.all false
set_option maxRecDepth 100000
set_option maxHeartbeats 4000000
/-! Ly23: plain words about the mirrors: what draws nothing; lists. -/
namespace L2.Ly
open PySem PySem.Spec PyProof.Rows

def M.bad {α : Type} : M α := fun p => (R.bad, p)
theorem M.bad_lift {α : Type} : (M.bad : M α) = M.lift R.bad := rfl
theorem db_bad {X : Cx} {β : Type} {G : Gam X.K X.mg} {η : List LV} {sts : List Stmt} {I : β → Fl} : DB X G η sts (M.bad : M β) I := PSs.pre pss_never fun E σ H ⟨B, p, rl, q⟩ => q
def R.q {α : Type} : R α → R α
  | .ok a => .ok a
  | _ => .bad
@[simp] theorem R.q_ok {α : Type} (a : α) : (R.ok a).q = R.ok a := rfl
theorem M.q_lift' {α : Type} (r : R α) : (M.lift r).q = M.lift r.q := by
  funext p
  cases r <;> rfl
theorem M.pure_lift {α : Type} (a : α) : (pure a : M α) = M.lift (R.ok a) := rfl
def mapR {α : Type} (f : D → R α) : List D → R (List α)
  | [] => .ok []
  | x :: xs => (f x).q >>= fun y => mapR f xs >>= fun ys => .ok (y :: ys)
theorem lcM_lift (f : D → R D) : ∀ xs : List D, lcM R.ok (fun _ => pure true) (fun a => M.lift (f a)) xs = M.lift (mapR f xs)
  | [] => rfl
  | x :: xs => by
    show ((M.lift (R.ok x)).q >>= fun a => (pure true : M Bool).q >>= fun b => if b then (M.lift (f a)).q >>= fun y => lcM R.ok (fun _ => pure true) (fun a => M.lift (f a)) xs >>= fun ys => pure (y :: ys) else lcM R.ok (fun _ => pure true) (fun a => M.lift (f a)) xs) = _
    rw [lcM_lift f xs]
    funext p
    show ((M.lift (f x)).q >>= fun y => M.lift (mapR f xs) >>= fun ys => pure (y :: ys)) p = ((f x).q >>= fun y => mapR f xs >>= fun ys => R.ok (y :: ys), p)
    rw [M.q_lift']
    cases (f x).q with
    | ok y => cases mapR f xs <;> rfl
    | err e => rfl
    | bad => rfl
theorem mapR_ok {α : Type} {f : D → R α} {g : D → α} : ∀ {xs : List D}, (∀ x ∈ xs, f x = .ok (g x)) → mapR f xs = .ok (xs.map g)
  | [], _ => rfl
  | x :: xs, h => by
    show ((f x).q >>= fun y => mapR f xs >>= fun ys => R.ok (y :: ys)) = _
    rw [h x (by simp), mapR_ok fun y hy => h y (by simp [hy])]
    rfl
@[simp] theorem M.lift_bind' {α β : Type} (r : R α) (f : α → M β) (g : α → R β) (h : ∀ a, f a = M.lift (g a)) : (M.lift r >>= f) = M.lift (r >>= g) := by
  have e : f = fun a => M.lift (g a) := funext h
  rw [e, M.lift_bind]
end L2.Ly

set_option Elab.async false
set_option linter.all false
set_option maxRecDepth 100000
set_option maxHeartbeats 4000000
/-! Ly24: two or three names at once. -/
namespace L2.Ly
open PySem PySem.Spec PyProof.Rows

def par2 {β : Type} (rr : D → D → M β) : List D → M β
  | [x, y] => rr x y
  | _ => M.bad
def par3 {β : Type} (rr : D → D → D → M β) : List D → M β
  | [x, y, z] => rr x y z
  | _ => M.bad
section
variable {X : Cx} {G : Gam X.K X.mg} {η : List LV} {β : Type} {I : β → Fl} {rest : List Stmt} {a b c : Expr} {i j l : Nat} {x y z : Str} {px py pz pt pos pt2 : Pos} {kt k2 : Nat} {rs : M (List D)}
theorem db_par2 {rr : D → D → M β} (hc : X.calm = true) (hN : X.N.Nodup) (hi : X.N[i]? = some x) (hj : X.N[j]? = some y) (hij : i ≠ j) (hx : X.env.scope.names.lookup x = some .local) (hy : X.env.scope.names.lookup y = some .local) (he : DXa X G η [a, b] rs)
    (h : ∀ d1 d2, DB X G ((η.set i (.d d1)).set j (.d d2)) rest (rr d1 d2) I)
    (hw : swappedStores [.Tuple [.Name x px, .Name y py] kt pt] (.Tuple [a, b] k2 pt2) X.env = pure (some [x, y])) (hs : swapsWithSole [.Tuple [.Name x px, .Name y py] kt pt] (.Tuple [a, b] k2 pt2) pos.line X.env = pure false := by rfl) :
    DB X G η (.Assign [.Tuple [.Name x px, .Name y py] kt pt] (.Tuple [a, b] k2 pt2) pos :: rest) (rs >>= par2 rr) I := by
  have h' : PSs X rest (fun E σ H => ∃ d1 d2, tB G ((η.set i (.d d1)).set j (.d d2)) (rr d1 d2) I E σ H) := ⟨fun pins s σ H E Iv ⟨d1, d2, w⟩ => (h d1 d2).run pins s σ H E Iv w⟩
  refine db_of (ps_par hc hN hi hj hij hx hy he.1 hw hs) h' fun σ H B p E rl q => ⟨B, p, rl, q.bind.imp ?_⟩
  rintro vs H1 ⟨B1, p1, ds, s1, rl1, d1, q1⟩
  match ds, d1, q1 with
  | [u, v], .cons h1 (.cons h2 .nil), q1 => exact ⟨_, _, rfl, u, v, B1, p1, (rl1.putD h1).putD h2, q1⟩
  | [], _, q1 => exact q1.elim
  | [_], _, q1 => exact q1.elim
  | _ :: _ :: _ :: _, _, q1 => exact q1.elim
theorem db_par3 {rr : D → D → D → M β} (hc : X.calm = true) (hN : X.N.Nodup) (hi : X.N[i]? = some x) (hj : X.N[j]? = some y) (hl : X.N[l]? = some z) (hij : i ≠ j) (hil : i ≠ l) (hjl : j ≠ l) (hx : X.env.scope.names.lookup x = some .local) (hy : X.env.scope.names.lookup y = some .local) (hz : X.env.scope.names.lookup z = some .local) (he : DXa X G η [a, b, c] rs)
    (h : ∀ d1 d2 d3, DB X G (((η.set i (.d d1)).set j (.d d2)).set l (.d d3)) rest (rr d1 d2 d3) I)
    (hw : swappedStores [.Tuple [.Name x px, .Name y py, .Name z pz] kt pt] (.Tuple [a, b, c] k2 pt2) X.env = pure (some [x, y, z])) (hs : swapsWithSole [.Tuple [.Name x px, .Name y py, .Name z pz] kt pt] (.Tuple [a, b, c] k2 pt2) pos.line X.env = pure false := by rfl) :
    DB X G η (.Assign [.Tuple [.Name x px, .Name y py, .Name z pz] kt pt] (.Tuple [a, b, c] k2 pt2) pos :: rest) (rs >>= par3 rr) I := by
  have h' : PSs X rest (fun E σ H => ∃ d1 d2 d3, tB G (((η.set i (.d d1)).set j (.d d2)).set l (.d d3)) (rr d1 d2 d3) I E σ H) := ⟨fun pins s σ H E Iv ⟨d1, d2, d3, w⟩ => (h d1 d2 d3).run pins s σ H E Iv w⟩
  refine db_of (ps_par3 hc hN hi hj hl hij hil hjl hx hy hz he.1 hw hs) h' fun σ H B p E rl q => ⟨B, p, rl, q.bind.imp ?_⟩
  rintro vs H1 ⟨B1, p1, ds, s1, rl1, d1, q1⟩
  match ds, d1, q1 with
  | [u, v, w], .cons h1 (.cons h2 (.cons h3 .nil)), q1 => exact ⟨_, _, _, rfl, u, v, w, B1, p1, ((rl1.putD h1).putD h2).putD h3, q1⟩
  | [], _, q1 => exact q1.elim
  | [_], _, q1 => exact q1.elim
  | [_, _], _, q1 => exact q1.elim
  | _ :: _ :: _ :: _ :: _, _, q1 => exact q1.elim
end
end L2.Ly

set_option Elab.async false
set_option linter.all false
set_option maxRecDepth 100000
set_option maxHeartbeats 0
/-! K02a: the text's defs, the facts of the top. -/
namespace L2.Ly.K02
open PySem PySem.Spec PyProof.Rows L2

def top (i : Nat) : Stmt := PySem.Challenge.pw_leanon_k02_papers_and_errors.main.body.getD i (.Pass ⟨0, 0, 0, 0⟩)
def clsBody (s : Stmt) : List Stmt := match s with
  | .ClassDef (body := b) .. => b
  | _ => []
def inCls (s : Stmt) (j : Nat) : Stmt := (clsBody s).getD j (.Pass ⟨0, 0, 0, 0⟩)
abbrev sFixed : Stmt := top 1
abbrev sPaper : Stmt := inCls (top 2) 0
abbrev sEq : Stmt := inCls (top 2) 1
abbrev sBool : Stmt := inCls (top 2) 2
abbrev sBoolD : Stmt := inCls (top 3) 0
abbrev sPen : Stmt := top 40
abbrev sDraw : Stmt := top 41
abbrev sPick : Stmt := top 42
abbrev sAny : Stmt := top 43
abbrev sTuples : Stmt := top 44
abbrev sLaw : Stmt := top 45
/-- the papers with an __init__ of their own; the errors -/
def subs : List (Str × Nat) := [("Run", 18), ("Keeps", 20), ("Falls", 21), ("Fewest", 23), ("Again", 25), ("Never", 26), ("Answers", 28), ("Explained", 30), ("Unexplained", 31), ("Borne", 33), ("Together", 34), ("Relies", 36), ("Sure", 38)]
def errs : List (Str × Nat) := [("BadSystem", 6), ("BadValue", 7), ("BadNumber", 8), ("BadPaper", 9), ("Misfit", 10), ("Nothing", 11), ("BadRun", 12), ("BadText", 13), ("BadCommand", 14), ("NoName", 15), ("TooMany", 16)]
def mkD_ (x : Str) (st : Stmt) : He.DefD := ⟨(x, none), x, x, defArgs st, defBody st, defScope st, [], []⟩
def mkM_ (c m : Str) (st : Stmt) : He.DefD := ⟨(c, some m), m, c ++ "." ++ m, defArgs st, defBody st, defScope st, [], []⟩
def fn : List He.DefD := [mkD_ "fixed" sFixed, mkM_ "Paper" "__init__" sPaper, mkM_ "Paper" "__eq__" sEq, mkM_ "Paper" "__bool__" sBool, mkM_ "Denial" "__bool__" sBoolD, mkD_ "_law_pen" sPen, mkD_ "_law_draw" sDraw, mkD_ "_law_pick" sPick, mkD_ "_law_any" sAny, mkD_ "_law_tuples" sTuples, mkD_ "law" sLaw]
def supOf (p : Str × Nat) : SupF := ⟨p.1, "__init__", p.1 ++ "." ++ "__init__", defArgs (inCls (top p.2) 0), defBody (inCls (top p.2) 0), defScope (inCls (top p.2) 0)⟩
def fs : List SupF := (subs ++ errs).map supOf
def papers : List Str := ["Paper", "Denial", "Run", "Keeps", "Falls", "Fewest", "Again", "Never", "Answers", "Explained", "Unexplained", "Borne", "Together", "Relies", "Sure"]
def denials : List Str := ["Denial", "Falls", "Never", "Unexplained"]
def below : List (Str × Str) := [("Denial", "Paper"), ("Run", "Paper"), ("Keeps", "Paper"), ("Falls", "Paper"), ("Fewest", "Paper"), ("Again", "Paper"), ("Never", "Paper"), ("Answers", "Paper"), ("Explained", "Paper"), ("Unexplained", "Paper"), ("Borne", "Paper"), ("Together", "Paper"), ("Relies", "Paper"), ("Sure", "Paper"), ("Falls", "Denial"), ("Never", "Denial"), ("Unexplained", "Denial")]
def fields : List Str := ["word", "parts", "first", "events", "rows", "run", "number", "places", "falls", "bears", "breaks", "goes", "sketches", "records", "papers"]
def eFields : List Str := ["part", "at", "line", "word", "name", "what", "most"]
def frees : List Str := ["super", "isinstance", "tuple", "list", "len", "int", "abs", "bool", "repr", "range", "ValueError"]
def globs0 : List Str := ["fixed", "_law_pen", "_law_draw", "_law_pick", "_law_any", "_law_tuples", "law", "LeanError"]
def globs : List Str := globs0 ++ papers ++ errs.map (·.1)
def fa : List He.Fa := globs.map .glo ++ frees.map .free
def tests (K : PySem.W.Frag) : List Bool :=
  [decide (PySem.W.nsIn K PySem.cStatics "thirdparty.any" = some none),
   (fs.all fun d => supOk "/claim/cut.py" K d),
   (papers.all fun c => insB K (He.ga K c) && fields.all (fun f => noB K (He.ga K c) f) && metB K (He.ga K c) "__eq__" (He.ma K (He.ga K "Paper") "__eq__")),
   (papers.all fun c => metB K (He.ga K c) "__bool__" (if c ∈ denials then He.ma K (He.ga K "Denial") "__bool__" else He.ma K (He.ga K "Paper") "__bool__")),
   (papers.all fun c => kitIs K (.ref (He.ga K c)) (.ref (He.ga K "Paper")) true && kitIs K (.ref (He.ga K c)) (.ref (He.ga K "Denial")) (decide (c ∈ denials))),
   (plainTys.all fun t => kitIs K (.type t) (.ref (He.ga K "Paper")) false),
   (papers.all fun c => plainTys.all fun t => PySem.W.notFirst K (He.ga K c) (.type t)),
   (papers.all fun c => papers.all fun c' => if (c', c) ∈ below then decide (He.ga K c' ≠ He.ga K c) && decide (PySem.W.subIn K (.ref (He.ga K c')) (.ref (He.ga K c)) = some true) else PySem.W.notFirst K (He.ga K c) (.ref (He.ga K c'))),
   (mkB K (He.ga K "Paper") (He.ma K (He.ga K "Paper") "__init__") && mkB K (He.ga K "Denial") (He.ma K (He.ga K "Paper") "__init__") && decide (PySem.W.typeIn K (.ref (He.ma K (He.ga K "Paper") "__init__")) = some (.type "function")) && PySem.W.fnIn K (He.ma K (He.ga K "Paper") "__init__")),
   (subs.all fun p => mkB K (He.ga K p.1) (He.ma K (He.ga K p.1) "__init__") && supB K (He.ga K p.1) (He.ma K (He.ga K "Paper") "__init__")),
   (errs.all fun p => xmkB K (He.ga K p.1) (He.ma K (He.ga K p.1) "__init__") && eFields.all (fun f => noB K (He.ga K p.1) f) && kitIs K (.ref (He.ga K p.1)) (.ref (He.ga K "LeanError")) true && kitIs K (.ref (He.ga K p.1)) (.type "ValueError") true),
   kitIs K (.ref (He.ga K "BadText")) (.ref (He.ga K "BadValue")) false]
def ex (K : PySem.W.Frag) : Bool := (tests K).all id
abbrev Rw : PySem.W.OpenRow := PySem.W.OpenLaw.row PySem.Challenge.rw_leanon_k02_papers_and_errors
abbrev hk : PySem.W.Hook := hookL 6 fa fn fs ex
def ob (s : PySem.W.SharedT) : AlL := obsLG 6 fa fn fs ex (HandSHeadRun.getT s)
theorem ob_eq (s : PySem.W.SharedT) : ob s = hk.obs s.abs := obsLG_eq (HandSHeadRun.getT_eq s)
def loose1 : List Str := ["fixed", "Paper", "Denial", "LeanError", "BadSystem", "BadValue", "BadNumber", "BadPaper", "Misfit", "Nothing", "BadRun", "BadText"]
def loose2 : List Str := ["BadCommand", "NoName", "TooMany", "Run", "Keeps", "Falls", "Fewest", "Again", "Never", "Answers", "Explained", "Unexplained"]
def loose3 : List Str := ["Borne", "Together", "Relies", "Sure", "_law_pen", "_law_draw", "_law_pick", "_law_any", "_law_tuples"]
def loose : List Str := loose1 ++ loose2 ++ loose3
end L2.Ly.K02

set_option Elab.async false
set_option linter.all false
set_option maxRecDepth 100000
set_option maxHeartbeats 4000000
/-! K02b: the defs keep their promises. -/
namespace L2.Ly.K02
open PySem PySem.Spec PyProof.Rows L2

/-- what is known of the written part -/
structure Tp (K : PySem.W.Frag) (mg : Str → Option Value) : Prop where
  c : SaysL fa fn fs ex K
  gl : ∀ x ∈ globs, mg x = some (.ref (He.ga K x))
  fr : ∀ x ∈ frees, mg x = none
section
variable {P : Program} {w : World} {K : PySem.W.Frag} {mg : Str → Option Value} {base : Heap}
theorem Tp.fun_ (T : Tp K mg) (i : Nat) {x : Str} {st : Stmt} (h : fn[i]? = some (mkD_ x st) := by rfl) : ∃ fd, Fun K x x st (He.ga K x) fd := by
  obtain ⟨fd, F⟩ := T.c.d.def_ i h
  exact ⟨fd, Fun.ofD F⟩
theorem Tp.met_ (T : Tp K mg) (i : Nat) {c m : Str} {st : Stmt} (h : fn[i]? = some (mkM_ c m st) := by rfl) : ∃ fd, Fun K m (c ++ "." ++ m) st (He.ma K (He.ga K c) m) fd := by
  obtain ⟨fd, F⟩ := T.c.d.def_ i h
  exact ⟨fd, Fun.ofD F⟩
theorem Tp.test (T : Tp K mg) (i : Nat) {b : Bool} (h : (tests K)[i]? = some b := by rfl) : b = true := all_at T.c.ex_ i h

/-! ### fixed -/
def m_fixed : Nat → D → M D
  | 0, _ => fun p => (.bad, p)
  | n + 1, v => ((pure v >>= fun x => M.lift (isa2 x "list" "tuple")) >>= fun x => M.lift (truthy x)) >>= fun b => if b then (((pure v >>= fun x => M.lift (iterItems x)) >>= fun xs => lcM R.ok (fun _ => pure true) (fun a => pure a >>= fun x1 => M.c (m_fixed n x1)) xs) >>= fun xs => pure (D.lst xs)) >>= fun x => M.lift (tupleD x) else pure v
theorem sc_fixed : FnScope ["value", "one"] ["value"] (defScope sFixed) := ⟨rfl, rfl, rfl, by decide +kernel, rfl, by decide +kernel, by decide +kernel⟩
theorem ok_fixed (T : Tp K mg) : ∃ fd, mg "fixed" = some (.ref (He.ga K "fixed")) ∧ PySem.W.keepIn K (.ref (He.ga K "fixed")) = true ∧ Binds K fd ["value"] [] ∧ ∀ n, FnOk P w K mg base (L2.CX P w) (n + 1) (He.ga K "fixed") fd ["value"] (spD K mg (w_d (m_fixed n))) := by
  obtain ⟨fd, F⟩ := T.fun_ 0
  have g := T.gl "fixed" (by decide +kernel)
  have fi := T.fr "isinstance" (by decide +kernel)
  have ft := T.fr "tuple" (by decide +kernel)
  have fl := T.fr "list" (by decide +kernel)
  have b : Binds K fd ["value"] [] := F.binds fun _ _ _ _ _ _ us hl => match us, hl with | [_], _ => rfl
  refine ⟨fd, g, F.kp, b, fun n => ?_⟩
  induction n with
  | zero => exact fn_d F sc_fixed rfl (by decide) fun cdv A outer s H E hr G tk x1 => PSs.pre pss_never fun E σ H ⟨B, p, rl, q⟩ => q
  | succ n ih =>
    refine fn_d F sc_fixed rfl (by decide) fun cdv A outer s H E hr G tk x1 => ?_
    exact db_ifD (dxb_truth (dx_isa2 rfl fi (dx_var (pv 0)) (pe_bltn rfl fl rfl rfl) (pe_bltn rfl ft rfl rfl)))
      (db_retD (dx_callTy call_tupleP rfl ft rfl (dx_f (dxf_lc1 (i := 1) rfl sc_fixed.nd (dxi_any (dx_var (pv 0))) (by kernel_rfl) (by intro lv e; cases e; rfl) rfl rfl
        (fun a H0 fr s H C cl fp => dxt_nil)
        (fun a H0 fr s H C cl fp => dx_call_d takes0 ih hr rfl g F.kp b (dx_var (pv 1)))))))
      (db_retD (dx_var (pv 0)))
end
end L2.Ly.K02

set_option Elab.async false
set_option linter.all false
set_option maxRecDepth 100000
set_option maxHeartbeats 800000
/-! K02c: fixed in plain words; Paper's __init__, ==, bool. -/
namespace L2.Ly.K02
open PySem PySem.Spec PyProof.Rows L2

def fixR : Nat → D → R D
  | 0, _ => .bad
  | n + 1, v => isa2 v "list" "tuple" >>= fun x => truthy x >>= fun b => if b then iterItems v >>= fun xs => mapR (fixR n) xs >>= fun ys => .ok (.tup ys) else .ok v
theorem m_fixed_eq : ∀ (n : Nat) (v : D), m_fixed n v = M.lift (fixR n v)
  | 0, _ => rfl
  | n + 1, v => by
    have ih : (fun a : D => (pure a : M D) >>= fun x1 => M.c (m_fixed n x1)) = fun a => M.lift (fixR n a) := by
      funext a
      show M.c (m_fixed n a) = _
      rw [m_fixed_eq n a]
      rfl
    show (((pure v >>= fun x => M.lift (isa2 x "list" "tuple")) >>= fun x => M.lift (truthy x)) >>= fun b => if b then (((pure v >>= fun x => M.lift (iterItems x)) >>= fun xs => lcM R.ok (fun _ => pure true) (fun a => pure a >>= fun x1 => M.c (m_fixed n x1)) xs) >>= fun xs => pure (D.lst xs)) >>= fun x => M.lift (tupleD x) else pure v) = _
    rw [ih]
    simp only [lcM_lift, M.pure_bind]
    funext p
    show _ = ((isa2 v "list" "tuple" >>= fun x => truthy x >>= fun b => if b then iterItems v >>= fun xs => mapR (fixR n) xs >>= fun ys => .ok (.tup ys) else .ok v), p)
    cases isa2 v "list" "tuple" with
    | err e => rfl
    | bad => rfl
    | ok x =>
      cases e1 : truthy x with
      | err e => simp only [M.bind_def, M.lift_def, R.ok_bind, e1]; rfl
      | bad => simp only [M.bind_def, M.lift_def, R.ok_bind, e1]; rfl
      | ok b =>
        cases b with
        | false => simp only [M.bind_def, M.lift_def, R.ok_bind, e1]; rfl
        | true =>
          cases e2 : iterItems v with
          | err e => simp only [M.bind_def, M.lift_def, R.ok_bind, e1, e2, if_true]; rfl
          | bad => simp only [M.bind_def, M.lift_def, R.ok_bind, e1, e2, if_true]; rfl
          | ok xs =>
            cases e3 : mapR (fixR n) xs with
            | err e => simp only [M.bind_def, M.lift_def, R.ok_bind, e1, e2, e3, if_true]; rfl
            | bad => simp only [M.bind_def, M.lift_def, R.ok_bind, e1, e2, e3, if_true]; rfl
            | ok ys => simp only [M.bind_def, M.lift_def, R.ok_bind, e1, e2, e3, if_true]; rfl
/-! ### Paper -/
def papR (n : Nat) (fs : List (Str × D)) : List D → R (List (Str × D))
  | [wd, ps] => if fs.length < 800 then iterItems ps >>= fun xs => mapR (fixR n) xs >>= fun ys => .ok (putD "parts" (.tup ys) (putD "word" wd fs)) else .bad
  | _ => .bad
def papM (n : Nat) (fs : List (Str × D)) : List D → M (List (Str × D))
  | [wd, ps] => if fs.length < 800 then pure wd >>= fun d1 => ((((pure ps >>= fun x => M.lift (iterItems x)) >>= fun xs => lcM R.ok (fun _ => pure true) (fun a => pure a >>= fun x1 => M.c (m_fixed n x1)) xs) >>= fun xs => pure (D.lst xs)) >>= fun x => M.lift (tupleD x)) >>= fun d2 => pure (putD "parts" d2 (putD "word" d1 fs)) else M.bad
  | _ => M.bad
theorem pap_in (n : Nat) (wd ps : D) (g : D → D → List (Str × D)) : (pure wd >>= fun d1 => ((((pure ps >>= fun x => M.lift (iterItems x)) >>= fun xs => lcM R.ok (fun _ => pure true) (fun a => pure a >>= fun x1 => M.c (m_fixed n x1)) xs) >>= fun xs => pure (D.lst xs)) >>= fun x => M.lift (tupleD x)) >>= fun d2 => pure (g d1 d2) : M (List (Str × D))) = M.lift (iterItems ps >>= fun xs => mapR (fixR n) xs >>= fun ys => R.ok (g wd (.tup ys))) := by
  have ih : (fun a : D => (pure a : M D) >>= fun x1 => M.c (m_fixed n x1)) = fun a => M.lift (fixR n a) := by
    funext a
    show M.c (m_fixed n a) = _
    rw [m_fixed_eq n a]
    rfl
  rw [ih]
  simp only [lcM_lift, M.pure_bind]
  funext p
  cases e2 : iterItems ps with
  | err e => simp only [M.bind_def, M.lift_def, e2]; rfl
  | bad => simp only [M.bind_def, M.lift_def, e2]; rfl
  | ok xs =>
    cases e3 : mapR (fixR n) xs with
    | err e => simp only [M.bind_def, M.lift_def, R.ok_bind, e2, e3]; rfl
    | bad => simp only [M.bind_def, M.lift_def, R.ok_bind, e2, e3]; rfl
    | ok ys => simp only [M.bind_def, M.lift_def, R.ok_bind, e2, e3]; rfl
theorem papM_eq (n : Nat) (fs : List (Str × D)) (ds : List D) (p : Pen) : (papM n fs ds p).1 = papR n fs ds := by
  match ds with
  | [] => rfl
  | [_] => rfl
  | _ :: _ :: _ :: _ => rfl
  | [wd, ps] =>
    unfold papM papR
    dsimp only
    rw [pap_in n wd ps (fun d1 d2 => putD "parts" d2 (putD "word" d1 fs))]
    by_cases hz : fs.length < 800
    · rw [if_pos hz, if_pos hz]
      rfl
    · rw [if_neg hz, if_neg hz]
      rfl
section
variable {P : Program} {w : World} {K : PySem.W.Frag} {mg : Str → Option Value} {base : Heap}
theorem sc_paper : FnScope ["self", "word", "parts", "part"] (([("self" : Str), ("word" : Str)] : List Str) ++ [("parts" : Str)]) (defScope sPaper) := ⟨rfl, rfl, rfl, by decide +kernel, rfl, by decide +kernel, by decide +kernel⟩
theorem Tp.ins (T : Tp K mg) {c : Str} (h : c ∈ papers) : mg c = some (.ref (He.ga K c)) ∧ InsC K (He.ga K c) ∧ (∀ f ∈ fields, NoAttr K (He.ga K c) f) ∧ PySem.W.findIn K (.ref (He.ga K c)) "__eq__" = some (some (.ref (He.ma K (He.ga K "Paper") "__eq__"))) ∧ PySem.W.isFn K (.ref (He.ma K (He.ga K "Paper") "__eq__")) = true := by
  have z := List.all_eq_true.mp (T.test 2) c h
  simp only [Bool.and_eq_true, List.all_eq_true] at z
  obtain ⟨⟨z1, z2⟩, z3⟩ := z
  obtain ⟨z4, z5⟩ := metB_ok z3
  refine ⟨T.gl c ?_, insB_ok z1, fun f hf => noB_ok (z2 f hf), z4, z5⟩
  unfold globs
  simp [h]
/-- Paper's __init__, for the class at C -/
theorem ok_paper (T : Tp K mg) {c : Str} (hc : c ∈ papers) (n : Nat) : FnR P w K mg base (L2.CX P w) (n + 2) (He.ma K (He.ga K "Paper") "__init__") (spI K mg (He.ga K c) (starM 1 (papR n))) := by
  obtain ⟨fd, F⟩ := T.met_ 1
  obtain ⟨fdx, gx, kx, bx, Fx⟩ := ok_fixed (P := P) (w := w) (base := base) T
  obtain ⟨gc, ic, no, _, _⟩ := T.ins hc
  have ft := T.fr "tuple" (by decide +kernel)
  obtain ⟨oc, od, kV, doc, pm, an, cdv, ct, osl, rfl, lk, hcd⟩ := F.ex
  refine fnR_star (r := papM n) lk hcd sc_paper rfl (StX.bind_star2 (p1 := "self") (p2 := "word") (pv := "parts") (B := fun l => bindArgs (PySem.W.fnOf "__init__" (("Paper" : Str) ++ "." ++ "__init__") (defArgs sPaper) (defBody sPaper) (defScope sPaper) .none kV doc pm an cdv ct) ⟨l, []⟩) (fun a b => rfl) fun a b r rs => rfl) (fun fs ds fs' e => ?_) (fun fs ds p => papM_eq n fs ds p) fun A outer s H E hr G tk x fs ds hl => ?_
  · match ds, e with
    | [], e => cases e
    | [_], e => cases e
    | [_, _], e => rfl
    | _ :: _ :: _ :: _, e => cases e
  · match ds, hl with
    | [wd, ps], _ =>
      refine ⟨fun f => [.mi x (He.ga K c) f, .d wd, .d ps, .no], fun f => rfl, ?_⟩
      unfold papM
      dsimp only
      by_cases hz : fs.length < 800
      · rw [if_pos hz]
        exact db_fld (i := 0) (f := "word") rfl ic.1 (no _ (by decide +kernel)) (by omega) (pv 0) (dx_var (pv 1)) fun d1 => db_fld (i := 0) (f := "parts") rfl ic.1 (no _ (by decide +kernel)) (by
            have := length_putD "word" d1 fs
            omega) (pv 0)
          (dx_callTy call_tupleP rfl ft rfl (dx_f (dxf_lc1 (i := 3) rfl sc_paper.nd (dxi_any (dx_var (pv 2))) (by kernel_rfl) (by intro lv e; cases e; rfl) rfl rfl (fun a H0 fr s H C cl fp => dxt_nil) (fun a H0 fr s H C cl fp => dx_call_d takes0 (Fx n) hr rfl gx kx bx (dx_var (pv 3)))))) fun d2 => db_nil rfl
      · rw [if_neg hz]
        exact db_bad
end
end L2.Ly.K02

set_option Elab.async false
set_option linter.all false
set_option maxRecDepth 100000
set_option maxHeartbeats 800000
/-! K02d: ==, bool of papers. -/
namespace L2.Ly.K02
open PySem PySem.Spec PyProof.Rows L2

theorem lift_ite {r : R D} {a b : R D} : (M.lift r >>= fun x => M.lift (toB x) >>= fun c => if c then M.lift a else M.lift b) = M.lift (r >>= fun x => toB x >>= fun c => if c then a else b) := by
  funext p
  cases r with
  | err e => rfl
  | bad => rfl
  | ok x =>
    show ((M.lift (toB x) >>= fun c => if c then M.lift a else M.lift b) p) = (toB x >>= fun c => if c then a else b, p)
    cases toB x with
    | err e => rfl
    | bad => rfl
    | ok c => cases c <;> rfl
def pTrue : List (Str × Bool) := papers.map fun c => (c, true)
def eqF (f : Str) (x y : D) : R D := fldD papers f x >>= fun u => fldD papers f y >>= fun v => eqD u v
def eqR (x y : D) : R D := isaI pTrue true y >>= fun a => toB a >>= fun c => if c then (eqF "word" x y >>= fun a => toB a >>= fun c => if c then eqF "parts" x y else .ok (.bl false)) else .ok (.bl false)
def eqFM (f : Str) (x y : D) : M D := (pure x >>= fun d => M.lift (fldD papers f d)) >>= fun u => (pure y >>= fun d => M.lift (fldD papers f d)) >>= fun v => M.lift (eqD u v)
def m_eq (x y : D) : M D := (pure y >>= fun z => M.lift (isaI pTrue true z)) >>= fun a => M.lift (toB a) >>= fun c => if c then (eqFM "word" x y >>= fun a => M.lift (toB a) >>= fun c => if c then eqFM "parts" x y else pure (.bl false)) else pure (.bl false)
theorem eqFM_eq (f : Str) (x y : D) : eqFM f x y = M.lift (eqF f x y) := by
  unfold eqFM eqF
  rw [M.pure_bind, M.pure_bind]
  funext p
  cases fldD papers f x with
  | err e => rfl
  | bad => rfl
  | ok u => cases fldD papers f y <;> rfl
theorem m_eq_eq (x y : D) : m_eq x y = M.lift (eqR x y) := by
  unfold m_eq eqR
  rw [eqFM_eq, eqFM_eq, M.pure_bind]
  have e1 : (M.lift (eqF "word" x y) >>= fun a => M.lift (toB a) >>= fun c => if c then M.lift (eqF "parts" x y) else pure (.bl false)) = M.lift (eqF "word" x y >>= fun a => toB a >>= fun c => if c then eqF "parts" x y else .ok (.bl false)) := lift_ite (b := .ok (.bl false))
  rw [e1]
  exact lift_ite (b := .ok (.bl false))
theorem eqF_bl {f : Str} {x y d : D} (h : eqF f x y = .ok d) : ∃ b, d = .bl b := by
  unfold eqF at h
  cases h1 : fldD papers f x with
  | err e => rw [h1] at h; cases h
  | bad => rw [h1] at h; cases h
  | ok u =>
    rw [h1] at h
    cases h2 : fldD papers f y with
    | err e => rw [h2] at h; cases h
    | bad => rw [h2] at h; cases h
    | ok v =>
      rw [h2] at h
      have h : eqD u v = .ok d := h
      unfold eqD at h
      split at h
      · cases h; exact ⟨_, rfl⟩
      · cases h
theorem fldL_noerr {fs : List (Str × D)} {f : Str} {e : Ex} : fldL fs f ≠ .err e := by
  unfold fldL
  intro h
  split at h <;> cases h
theorem fldD_noerr {cs : List Str} {f : Str} {x : D} {e : Ex} : fldD cs f x ≠ .err e := by
  intro h
  cases x with
  | ins c fs =>
    have h : (if c ∈ cs then fldL fs f else .bad) = R.err e := h
    split at h
    · exact fldL_noerr h
    · cases h
  | _ => cases h
theorem eqF_noerr {f : Str} {x y : D} {e : Ex} : eqF f x y ≠ .err e := by
  intro h
  unfold eqF at h
  cases h1 : fldD papers f x with
  | err e => exact fldD_noerr h1
  | bad => rw [h1] at h; cases h
  | ok u =>
    rw [h1] at h
    cases h2 : fldD papers f y with
    | err e => exact fldD_noerr h2
    | bad => rw [h2] at h; cases h
    | ok v =>
      rw [h2] at h
      have h : eqD u v = .err e := h
      unfold eqD at h
      split at h <;> cases h
theorem isaI_cases (cs : List (Str × Bool)) (y : D) : (∃ b, isaI cs true y = .ok (.bl b)) ∨ isaI cs true y = .bad := by
  cases y with
  | ins c fs =>
    show (∃ b, (match cs.lookup c with | some b => R.ok (D.bl b) | none => R.bad) = .ok (.bl b)) ∨ (match cs.lookup c with | some b => R.ok (D.bl b) | none => R.bad) = .bad
    cases cs.lookup c with
    | none => exact .inr rfl
    | some b => exact .inl ⟨b, rfl⟩
  | exn c fs => exact .inr rfl
  | _ => exact .inl ⟨false, rfl⟩
theorem eqR_bl {x y d : D} (h : eqR x y = .ok d) : ∃ b, d = .bl b := by
  unfold eqR at h
  rcases isaI_cases pTrue y with ⟨b, e⟩ | e
  · rw [e] at h
    cases b with
    | false => cases h; exact ⟨_, rfl⟩
    | true =>
      have h : (eqF "word" x y >>= fun a => toB a >>= fun c => if c then eqF "parts" x y else R.ok (.bl false)) = .ok d := h
      cases h1 : eqF "word" x y with
      | err e => rw [h1] at h; cases h
      | bad => rw [h1] at h; cases h
      | ok a =>
        obtain ⟨b, rfl⟩ := eqF_bl h1
        rw [h1] at h
        cases b with
        | false => cases h; exact ⟨_, rfl⟩
        | true => exact eqF_bl h
  · rw [e] at h
    cases h
theorem eqR_noerr {x y : D} {e : Ex} : eqR x y ≠ .err e := by
  intro h
  unfold eqR at h
  rcases isaI_cases pTrue y with ⟨b, e1⟩ | e1
  · rw [e1] at h
    cases b with
    | false => cases h
    | true =>
      have h : (eqF "word" x y >>= fun a => toB a >>= fun c => if c then eqF "parts" x y else R.ok (.bl false)) = .err e := h
      cases h1 : eqF "word" x y with
      | err e => exact eqF_noerr h1
      | bad => rw [h1] at h; cases h
      | ok a =>
        obtain ⟨b, rfl⟩ := eqF_bl h1
        rw [h1] at h
        cases b with
        | false => cases h
        | true => exact eqF_noerr h
  · rw [e1] at h
    cases h
section
variable {P : Program} {w : World} {K : PySem.W.Frag} {mg : Str → Option Value} {base : Heap}
theorem sc_eq : FnScope ["self", "other"] ["self", "other"] (defScope sEq) := ⟨rfl, rfl, rfl, by decide +kernel, rfl, by decide +kernel, by decide +kernel⟩
theorem sc_b1 : FnScope ["self"] ["self"] (defScope sBool) := ⟨rfl, rfl, rfl, by decide +kernel, rfl, by decide +kernel, by decide +kernel⟩
theorem sc_b2 : FnScope ["self"] ["self"] (defScope sBoolD) := ⟨rfl, rfl, rfl, by decide +kernel, rfl, by decide +kernel, by decide +kernel⟩
theorem pTrue_mem {c : Str} {b : Bool} (h : pTrue.lookup c = some b) : c ∈ papers ∧ b = true := by
  have m := PySem.mem_of_lookup h
  obtain ⟨c', h1, h2⟩ := List.mem_map.mp m
  cases h2
  exact ⟨h1, rfl⟩
theorem Tp.kitP (T : Tp K mg) {c : Str} (h : c ∈ papers) : PySem.W.kitOne K (.ref (He.ga K c)) (.ref (He.ga K "Paper")) = some true ∧ PySem.W.kitOne K (.ref (He.ga K c)) (.ref (He.ga K "Denial")) = some (decide (c ∈ denials)) := by
  have z := List.all_eq_true.mp (T.test 4) c h
  simp only [Bool.and_eq_true] at z
  exact ⟨of_decide_eq_true z.1, of_decide_eq_true z.2⟩
theorem ref_inj {a b : Addr} (h : some (Value.ref a) = some (Value.ref b)) : b = a := by
  cases h
  rfl
theorem Tp.fldP (T : Tp K mg) {f : Str} (hf : f ∈ fields) : ∀ c ∈ papers, ∀ C, mg c = some (.ref C) → Cls K C ∧ NoAttr K C f := fun c hc C e => by
  obtain ⟨g, i, n, _⟩ := T.ins hc
  rw [g] at e
  cases ref_inj e
  exact ⟨i.1, n f hf⟩
theorem Tp.isaP (T : Tp K mg) : ∀ c b, pTrue.lookup c = some b → ∀ C, mg c = some (.ref C) → PySem.W.kitOne K (.ref C) (.ref (He.ga K "Paper")) = some b := fun c b h C e => by
  obtain ⟨hc, rfl⟩ := pTrue_mem h
  rw [(T.ins hc).1] at e
  cases ref_inj e
  exact (T.kitP hc).1
theorem Tp.insP (T : Tp K mg) : ∀ c b, pTrue.lookup c = some b → ∀ C, mg c = some (.ref C) → InsC K C := fun c b h C e => by
  obtain ⟨hc, _⟩ := pTrue_mem h
  rw [(T.ins hc).1] at e
  cases ref_inj e
  exact (T.ins hc).2.1
theorem Tp.plainP (T : Tp K mg) : ∀ t ∈ ["NoneType", "bool", "int", "str", "tuple", "list", "dict"], PySem.W.kitOne K (.type t) (.ref (He.ga K "Paper")) = some false := fun t ht => of_decide_eq_true (List.all_eq_true.mp (T.test 5) t ht)
theorem ok_eq (T : Tp K mg) : ∃ fd, Binds K fd ["self", "other"] [] ∧ FnOk P w K mg base (L2.CX P w) 1 (He.ma K (He.ga K "Paper") "__eq__") fd ["self", "other"] (spD K mg (w_dd m_eq)) := by
  obtain ⟨fd, F⟩ := T.met_ 2
  have fi := T.fr "isinstance" (by decide +kernel)
  refine ⟨fd, F.binds fun _ _ _ _ _ _ us hl => match us, hl with | [_, _], _ => rfl, fn_dd F sc_eq rfl (by decide) fun cdv A outer s H E hr G tk x1 x2 => ?_⟩
  have hu : (A.deeper (envOfC (("Paper" : Str) ++ "." ++ "__eq__") (defScope sEq) s.heap.objs.size (He.ma K (He.ga K "Paper") "__eq__") cdv)).units + 200 < cLine := by
    have := hr.un
    omega
  have gP := T.gl "Paper" (by decide +kernel)
  exact db_retD (dx_and (dx_isaO (cs := pTrue) (pl := true) rfl fi (dx_var (pv 1)) (pe_glob (v := .ref (He.ga K "Paper")) rfl gP rfl) (.own _) T.isaP T.insP (fun _ => T.plainP))
    (dx_and (dx_cmp (op_eqP hu) (dx_fld (cs := papers) (T.fldP (by decide +kernel)) (dx_var (pv 0))) (dx_fld (cs := papers) (T.fldP (by decide +kernel)) (dx_var (pv 1))) rfl)
      (dx_one (dx_cmp (op_eqP hu) (dx_fld (cs := papers) (T.fldP (by decide +kernel)) (dx_var (pv 0))) (dx_fld (cs := papers) (T.fldP (by decide +kernel)) (dx_var (pv 1))) rfl))))
theorem ok_b1 (T : Tp K mg) : ∃ fd, Binds K fd ["self"] [] ∧ FnOk P w K mg base (L2.CX P w) 1 (He.ma K (He.ga K "Paper") "__bool__") fd ["self"] (spD K mg (w_d fun _ => pure (.bl true))) := by
  obtain ⟨fd, F⟩ := T.met_ 3
  exact ⟨fd, F.binds fun _ _ _ _ _ _ us hl => match us, hl with | [_], _ => rfl, fn_d F sc_b1 rfl (by decide) fun cdv A outer s H E hr G tk x1 => db_retD dx_bl⟩
theorem ok_b2 (T : Tp K mg) : ∃ fd, Binds K fd ["self"] [] ∧ FnOk P w K mg base (L2.CX P w) 1 (He.ma K (He.ga K "Denial") "__bool__") fd ["self"] (spD K mg (w_d fun _ => pure (.bl false))) := by
  obtain ⟨fd, F⟩ := T.met_ 4
  exact ⟨fd, F.binds fun _ _ _ _ _ _ us hl => match us, hl with | [_], _ => rfl, fn_d F sc_b2 rfl (by decide) fun cdv A outer s H E hr G tk x1 => db_retD dx_bl⟩
end
end L2.Ly.K02

set_option Elab.async false
set_option linter.all false
set_option maxRecDepth 100000
set_option maxHeartbeats 800000
/-! K02e (printed by prk02e.py): the papers' own __init__s. -/
namespace L2.Ly.K02
open PySem PySem.Spec PyProof.Rows L2

def sub2 (ns : List Str) (fs1 : List (Str × D)) (ds : List D) : R (List (Str × D)) := if fs1.length < 800 ∧ ds.length = ns.length then fldL fs1 "parts" >>= fun d => unpT ns.length d >>= fun vs => .ok (putDs ns vs fs1) else .bad
def sub2M (ns : List Str) (fs1 : List (Str × D)) (ds : List D) : M (List (Str × D)) := if fs1.length < 800 ∧ ds.length = ns.length then M.lift (fldL fs1 "parts") >>= fun d => M.lift (unpT ns.length d) >>= fun vs => pure (putDs ns vs fs1) else M.bad
theorem sub2_eq (ns : List Str) (fs1 : List (Str × D)) (ds : List D) (p : Pen) : (sub2M ns fs1 ds p).1 = sub2 ns fs1 ds := by
  unfold sub2M sub2
  by_cases hz : fs1.length < 800 ∧ ds.length = ns.length
  · rw [if_pos hz, if_pos hz]
    cases e : fldL fs1 "parts" with
    | err e => rfl
    | bad => rfl
    | ok d =>
      simp only [M.bind_def, M.lift_def, R.ok_bind]
      cases e2 : unpT ns.length d <;> rfl
  · rw [if_neg hz, if_neg hz]
    rfl
def sub1 (f : Str) (fs1 : List (Str × D)) (ds : List D) : R (List (Str × D)) := if fs1.length < 800 ∧ ds.length = 1 then fldL fs1 "parts" >>= fun d => ixD d (.int 0) >>= fun v => .ok (putD f v fs1) else .bad
def sub1M (f : Str) (fs1 : List (Str × D)) (ds : List D) : M (List (Str × D)) := if fs1.length < 800 ∧ ds.length = 1 then (M.lift (fldL fs1 "parts") >>= fun x => pure (D.int 0) >>= fun y => M.lift (ixD x y)) >>= fun v => pure (putD f v fs1) else M.bad
theorem sub1_eq (f : Str) (fs1 : List (Str × D)) (ds : List D) (p : Pen) : (sub1M f fs1 ds p).1 = sub1 f fs1 ds := by
  unfold sub1M sub1
  by_cases hz : fs1.length < 800 ∧ ds.length = 1
  · rw [if_pos hz, if_pos hz]
    cases e : fldL fs1 "parts" with
    | err e => rfl
    | bad => rfl
    | ok d =>
      simp only [M.bind_def, M.lift_def, R.ok_bind, M.pure_def]
      cases e2 : ixD d (.int 0) <;> rfl
  · rw [if_neg hz, if_neg hz]
    rfl
def subR (n : Nat) (wd : Str) (m2 : List (Str × D) → List D → R (List (Str × D))) (fs : List (Str × D)) (ds : List D) : R (List (Str × D)) := starM 1 (papR n) fs (.str wd :: ds) >>= fun fs1 => m2 fs1 ds
section
variable {P : Program} {w : World} {K : PySem.W.Frag} {mg : Str → Option Value} {base : Heap}
theorem Tp.sub (T : Tp K mg) {p : Str × Nat} (h : p ∈ subs) : Mk K (He.ga K p.1) (He.ma K (He.ga K p.1) "__init__") ∧ PySem.W.mroIn K (He.ga K p.1) (.ref (He.ga K p.1)) = some true ∧ PySem.W.ks_superIn K (He.ga K p.1) (He.ga K p.1) "__init__" = some (some (.ref (He.ma K (He.ga K "Paper") "__init__"))) := by
  have z := List.all_eq_true.mp (T.test 9) p h
  simp only [Bool.and_eq_true] at z
  exact ⟨mkB_ok z.1, supB_ok z.2⟩
theorem Tp.papF (T : Tp K mg) : Mk K (He.ga K "Paper") (He.ma K (He.ga K "Paper") "__init__") ∧ Mk K (He.ga K "Denial") (He.ma K (He.ga K "Paper") "__init__") ∧ PySem.W.typeIn K (.ref (He.ma K (He.ga K "Paper") "__init__")) = some (.type "function") ∧ PySem.W.fnIn K (He.ma K (He.ga K "Paper") "__init__") = true := by
  have z := T.test 8
  simp only [Bool.and_eq_true, decide_eq_true_eq] at z
  exact ⟨mkB_ok z.1.1.1, mkB_ok z.1.1.2, z.1.2, z.2⟩
theorem Tp.sup_ (T : Tp K mg) (i : Nat) {d : SupF} {par : Str} {N ps : List Str} (h : fs[i]? = some d := by rfl) (hp : ∃ ar, (d.params.posonlyargs ++ d.params.args).head? = some ar ∧ ar.arg = par) (sc : NdefX.NScope N ps ["__class__"] d.scope)
    (ks : d.scope.names.lookup ("super" : Str) = some .globalImplicit) (kp : d.scope.names.lookup par = some .local) :
    ∃ fd : FuncData, fd.params = d.params ∧ SupD PySem.Challenge.pw_leanon_k02_papers_and_errors K mg (NFof K d) (He.fAd K (d.cls, some d.name)) (supC K d) (He.ga K d.cls) fd par N ps ∧ ∃ kV doc pm an ct, fd = PySem.W.ksFn d.name d.qual d.params d.body d.scope .none kV doc pm an (.ref (supD K d)) ct (supC K d) :=
  supD_of (T.c.sup i h) (List.all_eq_true.mp (T.test 1) d (List.mem_of_getElem? h)) hp sc ks kp (by kernel_rfl) (T.fr "super" (by decide +kernel)) (of_decide_eq_true (T.test 0))

theorem ok_Run (T : Tp K mg) (n : Nat) : ∃ fd, Binds K fd ["self", "first", "events"] [] ∧ KBn K fd ["self", "first", "events"] 1 ["events", "first"] (fun us ws => us ++ ws.reverse) (fun vs zs => vs ++ zs.reverse) ∧
    FnOk PySem.Challenge.pw_leanon_k02_papers_and_errors w K mg base (L2.CX PySem.Challenge.pw_leanon_k02_papers_and_errors w) (n + 3) (He.ma K (He.ga K "Run") "__init__") fd ["self", "first", "events"] (spI K mg (He.ga K "Run") (subR n "run" (sub2 ["first", "events"]))) := by
  obtain ⟨fd, _, S, kV, doc, pm, an, ct, e⟩ := T.sup_ 0 (par := "self") (N := ["self", "first", "events", "__class__"]) (ps := ["self", "first", "events"]) rfl ⟨_, rfl, rfl⟩ (NdefX.nscope_by (by decide +kernel)) rfl rfl
  obtain ⟨gc, ic, no, _, _⟩ := T.ins (c := "Run") (by decide +kernel)
  obtain ⟨_, h1, h2⟩ := T.sub (p := ("Run", 18)) (by decide +kernel)
  obtain ⟨_, _, tI, fI⟩ := T.papF
  refine ⟨fd, .all (by rw [e]; exact fun us hl => match us, hl with | [_, _, _], _ => rfl), kbn_rev (by rw [e]; exact fun us ws l1 l2 => match us, ws, l1, l2 with | [_], [_, _], _, _ => rfl), ?_⟩
  refine fn_supI (j := 0) (n := 2) (mP := starM 1 (papR n)) (m2 := (sub2 ["first", "events"])) (r2 := (sub2M ["first", "events"])) (wd := "run") S rfl rfl rfl rfl (fun L => ⟨_, by rfl⟩) h1 h2 tI fI (ok_paper T (by decide +kernel) n) (Nat.le_refl _) (fun A outer s H E => (pa_cons (pv 1) (pa_cons (pv 2) pa_nil))) (fun fs ds fs' e => ?_) (fun fs ds p => sub2_eq ["first", "events"] fs ds p) fun A outer s H E G x fs ds hl => ?_
  · unfold sub2 at e
    split at e
    · rename_i hz
      exact hz.2
    · cases e
  · match ds, hl with
    | [d1, d2], _ =>
      refine ⟨fun f => [.mi x (He.ga K "Run") f, .d d1, .d d2, .no], fun f => rfl, ?_⟩
      unfold sub2M
      by_cases hz : fs.length < 800 ∧ [d1, d2].length = (["first", "events"] : List Str).length
      · rw [if_pos hz]
        have hz1 := hz.1
        exact db_unF (i := 0) (ns := ["first", "events"]) rfl rfl ic.1 (fun f hf => no _ (by revert f hf; decide +kernel)) (by simp only [List.length_cons, List.length_nil]; omega) (pgs_cons (pg_fld (f := "first") (pv 0)) (pgs_cons (pg_fld (f := "events") (pv 0)) pgs_nil)) (dx_fldS (i := 0) (f := "parts") rfl ic.1 (no _ (by decide +kernel)) (pv 0)) fun vs => db_nil rfl
      · rw [if_neg hz]
        exact db_bad

theorem ok_Keeps (T : Tp K mg) (n : Nat) : ∃ fd, Binds K fd ["self", "rows"] [] ∧ KBn K fd ["self", "rows"] 1 ["rows"] (fun us ws => us ++ ws.reverse) (fun vs zs => vs ++ zs.reverse) ∧
    FnOk PySem.Challenge.pw_leanon_k02_papers_and_errors w K mg base (L2.CX PySem.Challenge.pw_leanon_k02_papers_and_errors w) (n + 3) (He.ma K (He.ga K "Keeps") "__init__") fd ["self", "rows"] (spI K mg (He.ga K "Keeps") (subR n "keeps" (sub1 "rows"))) := by
  obtain ⟨fd, _, S, kV, doc, pm, an, ct, e⟩ := T.sup_ 1 (par := "self") (N := ["self", "rows", "__class__"]) (ps := ["self", "rows"]) rfl ⟨_, rfl, rfl⟩ (NdefX.nscope_by (by decide +kernel)) rfl rfl
  obtain ⟨gc, ic, no, _, _⟩ := T.ins (c := "Keeps") (by decide +kernel)
  obtain ⟨_, h1, h2⟩ := T.sub (p := ("Keeps", 20)) (by decide +kernel)
  obtain ⟨_, _, tI, fI⟩ := T.papF
  refine ⟨fd, .all (by rw [e]; exact fun us hl => match us, hl with | [_, _], _ => rfl), kbn_rev (by rw [e]; exact fun us ws l1 l2 => match us, ws, l1, l2 with | [_], [_], _, _ => rfl), ?_⟩
  refine fn_supI (j := 0) (n := 1) (mP := starM 1 (papR n)) (m2 := (sub1 "rows")) (r2 := (sub1M "rows")) (wd := "keeps") S rfl rfl rfl rfl (fun L => ⟨_, by rfl⟩) h1 h2 tI fI (ok_paper T (by decide +kernel) n) (Nat.le_refl _) (fun A outer s H E => (pa_cons (pv 1) pa_nil)) (fun fs ds fs' e => ?_) (fun fs ds p => sub1_eq "rows" fs ds p) fun A outer s H E G x fs ds hl => ?_
  · unfold sub1 at e
    split at e
    · rename_i hz
      exact hz.2
    · cases e
  · match ds, hl with
    | [d1], _ =>
      refine ⟨fun f => [.mi x (He.ga K "Keeps") f, .d d1, .no], fun f => rfl, ?_⟩
      unfold sub1M
      by_cases hz : fs.length < 800 ∧ [d1].length = 1
      · rw [if_pos hz]
        have hz1 := hz.1
        exact db_fld (i := 0) (f := "rows") rfl ic.1 (no _ (by decide +kernel)) (by omega) (pv 0) (dx_ix (dx_fldS (i := 0) (f := "parts") rfl ic.1 (no _ (by decide +kernel)) (pv 0)) dx_int) fun v => db_nil rfl
      · rw [if_neg hz]
        exact db_bad

theorem ok_Falls (T : Tp K mg) (n : Nat) : ∃ fd, Binds K fd ["self", "run"] [] ∧ KBn K fd ["self", "run"] 1 ["run"] (fun us ws => us ++ ws.reverse) (fun vs zs => vs ++ zs.reverse) ∧
    FnOk PySem.Challenge.pw_leanon_k02_papers_and_errors w K mg base (L2.CX PySem.Challenge.pw_leanon_k02_papers_and_errors w) (n + 3) (He.ma K (He.ga K "Falls") "__init__") fd ["self", "run"] (spI K mg (He.ga K "Falls") (subR n "falls" (sub1 "run"))) := by
  obtain ⟨fd, _, S, kV, doc, pm, an, ct, e⟩ := T.sup_ 2 (par := "self") (N := ["self", "run", "__class__"]) (ps := ["self", "run"]) rfl ⟨_, rfl, rfl⟩ (NdefX.nscope_by (by decide +kernel)) rfl rfl
  obtain ⟨gc, ic, no, _, _⟩ := T.ins (c := "Falls") (by decide +kernel)
  obtain ⟨_, h1, h2⟩ := T.sub (p := ("Falls", 21)) (by decide +kernel)
  obtain ⟨_, _, tI, fI⟩ := T.papF
  refine ⟨fd, .all (by rw [e]; exact fun us hl => match us, hl with | [_, _], _ => rfl), kbn_rev (by rw [e]; exact fun us ws l1 l2 => match us, ws, l1, l2 with | [_], [_], _, _ => rfl), ?_⟩
  refine fn_supI (j := 0) (n := 1) (mP := starM 1 (papR n)) (m2 := (sub1 "run")) (r2 := (sub1M "run")) (wd := "falls") S rfl rfl rfl rfl (fun L => ⟨_, by rfl⟩) h1 h2 tI fI (ok_paper T (by decide +kernel) n) (Nat.le_refl _) (fun A outer s H E => (pa_cons (pv 1) pa_nil)) (fun fs ds fs' e => ?_) (fun fs ds p => sub1_eq "run" fs ds p) fun A outer s H E G x fs ds hl => ?_
  · unfold sub1 at e
    split at e
    · rename_i hz
      exact hz.2
    · cases e
  · match ds, hl with
    | [d1], _ =>
      refine ⟨fun f => [.mi x (He.ga K "Falls") f, .d d1, .no], fun f => rfl, ?_⟩
      unfold sub1M
      by_cases hz : fs.length < 800 ∧ [d1].length = 1
      · rw [if_pos hz]
        have hz1 := hz.1
        exact db_fld (i := 0) (f := "run") rfl ic.1 (no _ (by decide +kernel)) (by omega) (pv 0) (dx_ix (dx_fldS (i := 0) (f := "parts") rfl ic.1 (no _ (by decide +kernel)) (pv 0)) dx_int) fun v => db_nil rfl
      · rw [if_neg hz]
        exact db_bad

theorem ok_Fewest (T : Tp K mg) (n : Nat) : ∃ fd, Binds K fd ["self", "number", "run", "rows"] [] ∧ KBn K fd ["self", "number", "run", "rows"] 1 ["rows", "run", "number"] (fun us ws => us ++ ws.reverse) (fun vs zs => vs ++ zs.reverse) ∧
    FnOk PySem.Challenge.pw_leanon_k02_papers_and_errors w K mg base (L2.CX PySem.Challenge.pw_leanon_k02_papers_and_errors w) (n + 3) (He.ma K (He.ga K "Fewest") "__init__") fd ["self", "number", "run", "rows"] (spI K mg (He.ga K "Fewest") (subR n "fewest" (sub2 ["number", "run", "rows"]))) := by
  obtain ⟨fd, _, S, kV, doc, pm, an, ct, e⟩ := T.sup_ 3 (par := "self") (N := ["self", "number", "run", "rows", "__class__"]) (ps := ["self", "number", "run", "rows"]) rfl ⟨_, rfl, rfl⟩ (NdefX.nscope_by (by decide +kernel)) rfl rfl
  obtain ⟨gc, ic, no, _, _⟩ := T.ins (c := "Fewest") (by decide +kernel)
  obtain ⟨_, h1, h2⟩ := T.sub (p := ("Fewest", 23)) (by decide +kernel)
  obtain ⟨_, _, tI, fI⟩ := T.papF
  refine ⟨fd, .all (by rw [e]; exact fun us hl => match us, hl with | [_, _, _, _], _ => rfl), kbn_rev (by rw [e]; exact fun us ws l1 l2 => match us, ws, l1, l2 with | [_], [_, _, _], _, _ => rfl), ?_⟩
  refine fn_supI (j := 0) (n := 3) (mP := starM 1 (papR n)) (m2 := (sub2 ["number", "run", "rows"])) (r2 := (sub2M ["number", "run", "rows"])) (wd := "fewest") S rfl rfl rfl rfl (fun L => ⟨_, by rfl⟩) h1 h2 tI fI (ok_paper T (by decide +kernel) n) (Nat.le_refl _) (fun A outer s H E => (pa_cons (pv 1) (pa_cons (pv 2) (pa_cons (pv 3) pa_nil)))) (fun fs ds fs' e => ?_) (fun fs ds p => sub2_eq ["number", "run", "rows"] fs ds p) fun A outer s H E G x fs ds hl => ?_
  · unfold sub2 at e
    split at e
    · rename_i hz
      exact hz.2
    · cases e
  · match ds, hl with
    | [d1, d2, d3], _ =>
      refine ⟨fun f => [.mi x (He.ga K "Fewest") f, .d d1, .d d2, .d d3, .no], fun f => rfl, ?_⟩
      unfold sub2M
      by_cases hz : fs.length < 800 ∧ [d1, d2, d3].length = (["number", "run", "rows"] : List Str).length
      · rw [if_pos hz]
        have hz1 := hz.1
        exact db_unF (i := 0) (ns := ["number", "run", "rows"]) rfl rfl ic.1 (fun f hf => no _ (by revert f hf; decide +kernel)) (by simp only [List.length_cons, List.length_nil]; omega) (pgs_cons (pg_fld (f := "number") (pv 0)) (pgs_cons (pg_fld (f := "run") (pv 0)) (pgs_cons (pg_fld (f := "rows") (pv 0)) pgs_nil))) (dx_fldS (i := 0) (f := "parts") rfl ic.1 (no _ (by decide +kernel)) (pv 0)) fun vs => db_nil rfl
      · rw [if_neg hz]
        exact db_bad

theorem ok_Again (T : Tp K mg) (n : Nat) : ∃ fd, Binds K fd ["self", "rows"] [] ∧ KBn K fd ["self", "rows"] 1 ["rows"] (fun us ws => us ++ ws.reverse) (fun vs zs => vs ++ zs.reverse) ∧
    FnOk PySem.Challenge.pw_leanon_k02_papers_and_errors w K mg base (L2.CX PySem.Challenge.pw_leanon_k02_papers_and_errors w) (n + 3) (He.ma K (He.ga K "Again") "__init__") fd ["self", "rows"] (spI K mg (He.ga K "Again") (subR n "again" (sub1 "rows"))) := by
  obtain ⟨fd, _, S, kV, doc, pm, an, ct, e⟩ := T.sup_ 4 (par := "self") (N := ["self", "rows", "__class__"]) (ps := ["self", "rows"]) rfl ⟨_, rfl, rfl⟩ (NdefX.nscope_by (by decide +kernel)) rfl rfl
  obtain ⟨gc, ic, no, _, _⟩ := T.ins (c := "Again") (by decide +kernel)
  obtain ⟨_, h1, h2⟩ := T.sub (p := ("Again", 25)) (by decide +kernel)
  obtain ⟨_, _, tI, fI⟩ := T.papF
  refine ⟨fd, .all (by rw [e]; exact fun us hl => match us, hl with | [_, _], _ => rfl), kbn_rev (by rw [e]; exact fun us ws l1 l2 => match us, ws, l1, l2 with | [_], [_], _, _ => rfl), ?_⟩
  refine fn_supI (j := 0) (n := 1) (mP := starM 1 (papR n)) (m2 := (sub1 "rows")) (r2 := (sub1M "rows")) (wd := "again") S rfl rfl rfl rfl (fun L => ⟨_, by rfl⟩) h1 h2 tI fI (ok_paper T (by decide +kernel) n) (Nat.le_refl _) (fun A outer s H E => (pa_cons (pv 1) pa_nil)) (fun fs ds fs' e => ?_) (fun fs ds p => sub1_eq "rows" fs ds p) fun A outer s H E G x fs ds hl => ?_
  · unfold sub1 at e
    split at e
    · rename_i hz
      exact hz.2
    · cases e
  · match ds, hl with
    | [d1], _ =>
      refine ⟨fun f => [.mi x (He.ga K "Again") f, .d d1, .no], fun f => rfl, ?_⟩
      unfold sub1M
      by_cases hz : fs.length < 800 ∧ [d1].length = 1
      · rw [if_pos hz]
        have hz1 := hz.1
        exact db_fld (i := 0) (f := "rows") rfl ic.1 (no _ (by decide +kernel)) (by omega) (pv 0) (dx_ix (dx_fldS (i := 0) (f := "parts") rfl ic.1 (no _ (by decide +kernel)) (pv 0)) dx_int) fun v => db_nil rfl
      · rw [if_neg hz]
        exact db_bad

theorem ok_Never (T : Tp K mg) (n : Nat) : ∃ fd, Binds K fd ["self", "run", "events"] [] ∧ KBn K fd ["self", "run", "events"] 1 ["events", "run"] (fun us ws => us ++ ws.reverse) (fun vs zs => vs ++ zs.reverse) ∧
    FnOk PySem.Challenge.pw_leanon_k02_papers_and_errors w K mg base (L2.CX PySem.Challenge.pw_leanon_k02_papers_and_errors w) (n + 3) (He.ma K (He.ga K "Never") "__init__") fd ["self", "run", "events"] (spI K mg (He.ga K "Never") (subR n "never" (sub2 ["run", "events"]))) := by
  obtain ⟨fd, _, S, kV, doc, pm, an, ct, e⟩ := T.sup_ 5 (par := "self") (N := ["self", "run", "events", "__class__"]) (ps := ["self", "run", "events"]) rfl ⟨_, rfl, rfl⟩ (NdefX.nscope_by (by decide +kernel)) rfl rfl
  obtain ⟨gc, ic, no, _, _⟩ := T.ins (c := "Never") (by decide +kernel)
  obtain ⟨_, h1, h2⟩ := T.sub (p := ("Never", 26)) (by decide +kernel)
  obtain ⟨_, _, tI, fI⟩ := T.papF
  refine ⟨fd, .all (by rw [e]; exact fun us hl => match us, hl with | [_, _, _], _ => rfl), kbn_rev (by rw [e]; exact fun us ws l1 l2 => match us, ws, l1, l2 with | [_], [_, _], _, _ => rfl), ?_⟩
  refine fn_supI (j := 0) (n := 2) (mP := starM 1 (papR n)) (m2 := (sub2 ["run", "events"])) (r2 := (sub2M ["run", "events"])) (wd := "never") S rfl rfl rfl rfl (fun L => ⟨_, by rfl⟩) h1 h2 tI fI (ok_paper T (by decide +kernel) n) (Nat.le_refl _) (fun A outer s H E => (pa_cons (pv 1) (pa_cons (pv 2) pa_nil))) (fun fs ds fs' e => ?_) (fun fs ds p => sub2_eq ["run", "events"] fs ds p) fun A outer s H E G x fs ds hl => ?_
  · unfold sub2 at e
    split at e
    · rename_i hz
      exact hz.2
    · cases e
  · match ds, hl with
    | [d1, d2], _ =>
      refine ⟨fun f => [.mi x (He.ga K "Never") f, .d d1, .d d2, .no], fun f => rfl, ?_⟩
      unfold sub2M
      by_cases hz : fs.length < 800 ∧ [d1, d2].length = (["run", "events"] : List Str).length
      · rw [if_pos hz]
        have hz1 := hz.1
        exact db_unF (i := 0) (ns := ["run", "events"]) rfl rfl ic.1 (fun f hf => no _ (by revert f hf; decide +kernel)) (by simp only [List.length_cons, List.length_nil]; omega) (pgs_cons (pg_fld (f := "run") (pv 0)) (pgs_cons (pg_fld (f := "events") (pv 0)) pgs_nil)) (dx_fldS (i := 0) (f := "parts") rfl ic.1 (no _ (by decide +kernel)) (pv 0)) fun vs => db_nil rfl
      · rw [if_neg hz]
        exact db_bad

theorem ok_Answers (T : Tp K mg) (n : Nat) : ∃ fd, Binds K fd ["self", "places", "rows", "falls"] [] ∧ KBn K fd ["self", "places", "rows", "falls"] 1 ["falls", "rows", "places"] (fun us ws => us ++ ws.reverse) (fun vs zs => vs ++ zs.reverse) ∧
    FnOk PySem.Challenge.pw_leanon_k02_papers_and_errors w K mg base (L2.CX PySem.Challenge.pw_leanon_k02_papers_and_errors w) (n + 3) (He.ma K (He.ga K "Answers") "__init__") fd ["self", "places", "rows", "falls"] (spI K mg (He.ga K "Answers") (subR n "answers" (sub2 ["places", "rows", "falls"]))) := by
  obtain ⟨fd, _, S, kV, doc, pm, an, ct, e⟩ := T.sup_ 6 (par := "self") (N := ["self", "places", "rows", "falls", "__class__"]) (ps := ["self", "places", "rows", "falls"]) rfl ⟨_, rfl, rfl⟩ (NdefX.nscope_by (by decide +kernel)) rfl rfl
  obtain ⟨gc, ic, no, _, _⟩ := T.ins (c := "Answers") (by decide +kernel)
  obtain ⟨_, h1, h2⟩ := T.sub (p := ("Answers", 28)) (by decide +kernel)
  obtain ⟨_, _, tI, fI⟩ := T.papF
  refine ⟨fd, .all (by rw [e]; exact fun us hl => match us, hl with | [_, _, _, _], _ => rfl), kbn_rev (by rw [e]; exact fun us ws l1 l2 => match us, ws, l1, l2 with | [_], [_, _, _], _, _ => rfl), ?_⟩
  refine fn_supI (j := 0) (n := 3) (mP := starM 1 (papR n)) (m2 := (sub2 ["places", "rows", "falls"])) (r2 := (sub2M ["places", "rows", "falls"])) (wd := "answers") S rfl rfl rfl rfl (fun L => ⟨_, by rfl⟩) h1 h2 tI fI (ok_paper T (by decide +kernel) n) (Nat.le_refl _) (fun A outer s H E => (pa_cons (pv 1) (pa_cons (pv 2) (pa_cons (pv 3) pa_nil)))) (fun fs ds fs' e => ?_) (fun fs ds p => sub2_eq ["places", "rows", "falls"] fs ds p) fun A outer s H E G x fs ds hl => ?_
  · unfold sub2 at e
    split at e
    · rename_i hz
      exact hz.2
    · cases e
  · match ds, hl with
    | [d1, d2, d3], _ =>
      refine ⟨fun f => [.mi x (He.ga K "Answers") f, .d d1, .d d2, .d d3, .no], fun f => rfl, ?_⟩
      unfold sub2M
      by_cases hz : fs.length < 800 ∧ [d1, d2, d3].length = (["places", "rows", "falls"] : List Str).length
      · rw [if_pos hz]
        have hz1 := hz.1
        exact db_unF (i := 0) (ns := ["places", "rows", "falls"]) rfl rfl ic.1 (fun f hf => no _ (by revert f hf; decide +kernel)) (by simp only [List.length_cons, List.length_nil]; omega) (pgs_cons (pg_fld (f := "places") (pv 0)) (pgs_cons (pg_fld (f := "rows") (pv 0)) (pgs_cons (pg_fld (f := "falls") (pv 0)) pgs_nil))) (dx_fldS (i := 0) (f := "parts") rfl ic.1 (no _ (by decide +kernel)) (pv 0)) fun vs => db_nil rfl
      · rw [if_neg hz]
        exact db_bad

theorem ok_Explained (T : Tp K mg) (n : Nat) : ∃ fd, Binds K fd ["self", "run"] [] ∧ KBn K fd ["self", "run"] 1 ["run"] (fun us ws => us ++ ws.reverse) (fun vs zs => vs ++ zs.reverse) ∧
    FnOk PySem.Challenge.pw_leanon_k02_papers_and_errors w K mg base (L2.CX PySem.Challenge.pw_leanon_k02_papers_and_errors w) (n + 3) (He.ma K (He.ga K "Explained") "__init__") fd ["self", "run"] (spI K mg (He.ga K "Explained") (subR n "explained" (sub1 "run"))) := by
  obtain ⟨fd, _, S, kV, doc, pm, an, ct, e⟩ := T.sup_ 7 (par := "self") (N := ["self", "run", "__class__"]) (ps := ["self", "run"]) rfl ⟨_, rfl, rfl⟩ (NdefX.nscope_by (by decide +kernel)) rfl rfl
  obtain ⟨gc, ic, no, _, _⟩ := T.ins (c := "Explained") (by decide +kernel)
  obtain ⟨_, h1, h2⟩ := T.sub (p := ("Explained", 30)) (by decide +kernel)
  obtain ⟨_, _, tI, fI⟩ := T.papF
  refine ⟨fd, .all (by rw [e]; exact fun us hl => match us, hl with | [_, _], _ => rfl), kbn_rev (by rw [e]; exact fun us ws l1 l2 => match us, ws, l1, l2 with | [_], [_], _, _ => rfl), ?_⟩
  refine fn_supI (j := 0) (n := 1) (mP := starM 1 (papR n)) (m2 := (sub1 "run")) (r2 := (sub1M "run")) (wd := "explained") S rfl rfl rfl rfl (fun L => ⟨_, by rfl⟩) h1 h2 tI fI (ok_paper T (by decide +kernel) n) (Nat.le_refl _) (fun A outer s H E => (pa_cons (pv 1) pa_nil)) (fun fs ds fs' e => ?_) (fun fs ds p => sub1_eq "run" fs ds p) fun A outer s H E G x fs ds hl => ?_
  · unfold sub1 at e
    split at e
    · rename_i hz
      exact hz.2
    · cases e
  · match ds, hl with
    | [d1], _ =>
      refine ⟨fun f => [.mi x (He.ga K "Explained") f, .d d1, .no], fun f => rfl, ?_⟩
      unfold sub1M
      by_cases hz : fs.length < 800 ∧ [d1].length = 1
      · rw [if_pos hz]
        have hz1 := hz.1
        exact db_fld (i := 0) (f := "run") rfl ic.1 (no _ (by decide +kernel)) (by omega) (pv 0) (dx_ix (dx_fldS (i := 0) (f := "parts") rfl ic.1 (no _ (by decide +kernel)) (pv 0)) dx_int) fun v => db_nil rfl
      · rw [if_neg hz]
        exact db_bad

theorem ok_Unexplained (T : Tp K mg) (n : Nat) : ∃ fd, Binds K fd ["self", "rows"] [] ∧ KBn K fd ["self", "rows"] 1 ["rows"] (fun us ws => us ++ ws.reverse) (fun vs zs => vs ++ zs.reverse) ∧
    FnOk PySem.Challenge.pw_leanon_k02_papers_and_errors w K mg base (L2.CX PySem.Challenge.pw_leanon_k02_papers_and_errors w) (n + 3) (He.ma K (He.ga K "Unexplained") "__init__") fd ["self", "rows"] (spI K mg (He.ga K "Unexplained") (subR n "unexplained" (sub1 "rows"))) := by
  obtain ⟨fd, _, S, kV, doc, pm, an, ct, e⟩ := T.sup_ 8 (par := "self") (N := ["self", "rows", "__class__"]) (ps := ["self", "rows"]) rfl ⟨_, rfl, rfl⟩ (NdefX.nscope_by (by decide +kernel)) rfl rfl
  obtain ⟨gc, ic, no, _, _⟩ := T.ins (c := "Unexplained") (by decide +kernel)
  obtain ⟨_, h1, h2⟩ := T.sub (p := ("Unexplained", 31)) (by decide +kernel)
  obtain ⟨_, _, tI, fI⟩ := T.papF
  refine ⟨fd, .all (by rw [e]; exact fun us hl => match us, hl with | [_, _], _ => rfl), kbn_rev (by rw [e]; exact fun us ws l1 l2 => match us, ws, l1, l2 with | [_], [_], _, _ => rfl), ?_⟩
  refine fn_supI (j := 0) (n := 1) (mP := starM 1 (papR n)) (m2 := (sub1 "rows")) (r2 := (sub1M "rows")) (wd := "unexplained") S rfl rfl rfl rfl (fun L => ⟨_, by rfl⟩) h1 h2 tI fI (ok_paper T (by decide +kernel) n) (Nat.le_refl _) (fun A outer s H E => (pa_cons (pv 1) pa_nil)) (fun fs ds fs' e => ?_) (fun fs ds p => sub1_eq "rows" fs ds p) fun A outer s H E G x fs ds hl => ?_
  · unfold sub1 at e
    split at e
    · rename_i hz
      exact hz.2
    · cases e
  · match ds, hl with
    | [d1], _ =>
      refine ⟨fun f => [.mi x (He.ga K "Unexplained") f, .d d1, .no], fun f => rfl, ?_⟩
      unfold sub1M
      by_cases hz : fs.length < 800 ∧ [d1].length = 1
      · rw [if_pos hz]
        have hz1 := hz.1
        exact db_fld (i := 0) (f := "rows") rfl ic.1 (no _ (by decide +kernel)) (by omega) (pv 0) (dx_ix (dx_fldS (i := 0) (f := "parts") rfl ic.1 (no _ (by decide +kernel)) (pv 0)) dx_int) fun v => db_nil rfl
      · rw [if_neg hz]
        exact db_bad

theorem ok_Borne (T : Tp K mg) (n : Nat) : ∃ fd, Binds K fd ["self", "bears", "breaks"] [] ∧ KBn K fd ["self", "bears", "breaks"] 1 ["breaks", "bears"] (fun us ws => us ++ ws.reverse) (fun vs zs => vs ++ zs.reverse) ∧
    FnOk PySem.Challenge.pw_leanon_k02_papers_and_errors w K mg base (L2.CX PySem.Challenge.pw_leanon_k02_papers_and_errors w) (n + 3) (He.ma K (He.ga K "Borne") "__init__") fd ["self", "bears", "breaks"] (spI K mg (He.ga K "Borne") (subR n "borne" (sub2 ["bears", "breaks"]))) := by
  obtain ⟨fd, _, S, kV, doc, pm, an, ct, e⟩ := T.sup_ 9 (par := "self") (N := ["self", "bears", "breaks", "__class__"]) (ps := ["self", "bears", "breaks"]) rfl ⟨_, rfl, rfl⟩ (NdefX.nscope_by (by decide +kernel)) rfl rfl
  obtain ⟨gc, ic, no, _, _⟩ := T.ins (c := "Borne") (by decide +kernel)
  obtain ⟨_, h1, h2⟩ := T.sub (p := ("Borne", 33)) (by decide +kernel)
  obtain ⟨_, _, tI, fI⟩ := T.papF
  refine ⟨fd, .all (by rw [e]; exact fun us hl => match us, hl with | [_, _, _], _ => rfl), kbn_rev (by rw [e]; exact fun us ws l1 l2 => match us, ws, l1, l2 with | [_], [_, _], _, _ => rfl), ?_⟩
  refine fn_supI (j := 0) (n := 2) (mP := starM 1 (papR n)) (m2 := (sub2 ["bears", "breaks"])) (r2 := (sub2M ["bears", "breaks"])) (wd := "borne") S rfl rfl rfl rfl (fun L => ⟨_, by rfl⟩) h1 h2 tI fI (ok_paper T (by decide +kernel) n) (Nat.le_refl _) (fun A outer s H E => (pa_cons (pv 1) (pa_cons (pv 2) pa_nil))) (fun fs ds fs' e => ?_) (fun fs ds p => sub2_eq ["bears", "breaks"] fs ds p) fun A outer s H E G x fs ds hl => ?_
  · unfold sub2 at e
    split at e
    · rename_i hz
      exact hz.2
    · cases e
  · match ds, hl with
    | [d1, d2], _ =>
      refine ⟨fun f => [.mi x (He.ga K "Borne") f, .d d1, .d d2, .no], fun f => rfl, ?_⟩
      unfold sub2M
      by_cases hz : fs.length < 800 ∧ [d1, d2].length = (["bears", "breaks"] : List Str).length
      · rw [if_pos hz]
        have hz1 := hz.1
        exact db_unF (i := 0) (ns := ["bears", "breaks"]) rfl rfl ic.1 (fun f hf => no _ (by revert f hf; decide +kernel)) (by simp only [List.length_cons, List.length_nil]; omega) (pgs_cons (pg_fld (f := "bears") (pv 0)) (pgs_cons (pg_fld (f := "breaks") (pv 0)) pgs_nil)) (dx_fldS (i := 0) (f := "parts") rfl ic.1 (no _ (by decide +kernel)) (pv 0)) fun vs => db_nil rfl
      · rw [if_neg hz]
        exact db_bad

theorem ok_Together (T : Tp K mg) (n : Nat) : ∃ fd, Binds K fd ["self", "goes", "breaks"] [] ∧ KBn K fd ["self", "goes", "breaks"] 1 ["breaks", "goes"] (fun us ws => us ++ ws.reverse) (fun vs zs => vs ++ zs.reverse) ∧
    FnOk PySem.Challenge.pw_leanon_k02_papers_and_errors w K mg base (L2.CX PySem.Challenge.pw_leanon_k02_papers_and_errors w) (n + 3) (He.ma K (He.ga K "Together") "__init__") fd ["self", "goes", "breaks"] (spI K mg (He.ga K "Together") (subR n "together" (sub2 ["goes", "breaks"]))) := by
  obtain ⟨fd, _, S, kV, doc, pm, an, ct, e⟩ := T.sup_ 10 (par := "self") (N := ["self", "goes", "breaks", "__class__"]) (ps := ["self", "goes", "breaks"]) rfl ⟨_, rfl, rfl⟩ (NdefX.nscope_by (by decide +kernel)) rfl rfl
  obtain ⟨gc, ic, no, _, _⟩ := T.ins (c := "Together") (by decide +kernel)
  obtain ⟨_, h1, h2⟩ := T.sub (p := ("Together", 34)) (by decide +kernel)
  obtain ⟨_, _, tI, fI⟩ := T.papF
  refine ⟨fd, .all (by rw [e]; exact fun us hl => match us, hl with | [_, _, _], _ => rfl), kbn_rev (by rw [e]; exact fun us ws l1 l2 => match us, ws, l1, l2 with | [_], [_, _], _, _ => rfl), ?_⟩
  refine fn_supI (j := 0) (n := 2) (mP := starM 1 (papR n)) (m2 := (sub2 ["goes", "breaks"])) (r2 := (sub2M ["goes", "breaks"])) (wd := "together") S rfl rfl rfl rfl (fun L => ⟨_, by rfl⟩) h1 h2 tI fI (ok_paper T (by decide +kernel) n) (Nat.le_refl _) (fun A outer s H E => (pa_cons (pv 1) (pa_cons (pv 2) pa_nil))) (fun fs ds fs' e => ?_) (fun fs ds p => sub2_eq ["goes", "breaks"] fs ds p) fun A outer s H E G x fs ds hl => ?_
  · unfold sub2 at e
    split at e
    · rename_i hz
      exact hz.2
    · cases e
  · match ds, hl with
    | [d1, d2], _ =>
      refine ⟨fun f => [.mi x (He.ga K "Together") f, .d d1, .d d2, .no], fun f => rfl, ?_⟩
      unfold sub2M
      by_cases hz : fs.length < 800 ∧ [d1, d2].length = (["goes", "breaks"] : List Str).length
      · rw [if_pos hz]
        have hz1 := hz.1
        exact db_unF (i := 0) (ns := ["goes", "breaks"]) rfl rfl ic.1 (fun f hf => no _ (by revert f hf; decide +kernel)) (by simp only [List.length_cons, List.length_nil]; omega) (pgs_cons (pg_fld (f := "goes") (pv 0)) (pgs_cons (pg_fld (f := "breaks") (pv 0)) pgs_nil)) (dx_fldS (i := 0) (f := "parts") rfl ic.1 (no _ (by decide +kernel)) (pv 0)) fun vs => db_nil rfl
      · rw [if_neg hz]
        exact db_bad

theorem ok_Relies (T : Tp K mg) (n : Nat) : ∃ fd, Binds K fd ["self", "rows", "sketches"] [] ∧ KBn K fd ["self", "rows", "sketches"] 1 ["sketches", "rows"] (fun us ws => us ++ ws.reverse) (fun vs zs => vs ++ zs.reverse) ∧
    FnOk PySem.Challenge.pw_leanon_k02_papers_and_errors w K mg base (L2.CX PySem.Challenge.pw_leanon_k02_papers_and_errors w) (n + 3) (He.ma K (He.ga K "Relies") "__init__") fd ["self", "rows", "sketches"] (spI K mg (He.ga K "Relies") (subR n "relies" (sub2 ["rows", "sketches"]))) := by
  obtain ⟨fd, _, S, kV, doc, pm, an, ct, e⟩ := T.sup_ 11 (par := "self") (N := ["self", "rows", "sketches", "__class__"]) (ps := ["self", "rows", "sketches"]) rfl ⟨_, rfl, rfl⟩ (NdefX.nscope_by (by decide +kernel)) rfl rfl
  obtain ⟨gc, ic, no, _, _⟩ := T.ins (c := "Relies") (by decide +kernel)
  obtain ⟨_, h1, h2⟩ := T.sub (p := ("Relies", 36)) (by decide +kernel)
  obtain ⟨_, _, tI, fI⟩ := T.papF
  refine ⟨fd, .all (by rw [e]; exact fun us hl => match us, hl with | [_, _, _], _ => rfl), kbn_rev (by rw [e]; exact fun us ws l1 l2 => match us, ws, l1, l2 with | [_], [_, _], _, _ => rfl), ?_⟩
  refine fn_supI (j := 0) (n := 2) (mP := starM 1 (papR n)) (m2 := (sub2 ["rows", "sketches"])) (r2 := (sub2M ["rows", "sketches"])) (wd := "relies") S rfl rfl rfl rfl (fun L => ⟨_, by rfl⟩) h1 h2 tI fI (ok_paper T (by decide +kernel) n) (Nat.le_refl _) (fun A outer s H E => (pa_cons (pv 1) (pa_cons (pv 2) pa_nil))) (fun fs ds fs' e => ?_) (fun fs ds p => sub2_eq ["rows", "sketches"] fs ds p) fun A outer s H E G x fs ds hl => ?_
  · unfold sub2 at e
    split at e
    · rename_i hz
      exact hz.2
    · cases e
  · match ds, hl with
    | [d1, d2], _ =>
      refine ⟨fun f => [.mi x (He.ga K "Relies") f, .d d1, .d d2, .no], fun f => rfl, ?_⟩
      unfold sub2M
      by_cases hz : fs.length < 800 ∧ [d1, d2].length = (["rows", "sketches"] : List Str).length
      · rw [if_pos hz]
        have hz1 := hz.1
        exact db_unF (i := 0) (ns := ["rows", "sketches"]) rfl rfl ic.1 (fun f hf => no _ (by revert f hf; decide +kernel)) (by simp only [List.length_cons, List.length_nil]; omega) (pgs_cons (pg_fld (f := "rows") (pv 0)) (pgs_cons (pg_fld (f := "sketches") (pv 0)) pgs_nil)) (dx_fldS (i := 0) (f := "parts") rfl ic.1 (no _ (by decide +kernel)) (pv 0)) fun vs => db_nil rfl
      · rw [if_neg hz]
        exact db_bad

theorem ok_Sure (T : Tp K mg) (n : Nat) : ∃ fd, Binds K fd ["self", "records", "papers"] [] ∧ KBn K fd ["self", "records", "papers"] 1 ["papers", "records"] (fun us ws => us ++ ws.reverse) (fun vs zs => vs ++ zs.reverse) ∧
    FnOk PySem.Challenge.pw_leanon_k02_papers_and_errors w K mg base (L2.CX PySem.Challenge.pw_leanon_k02_papers_and_errors w) (n + 3) (He.ma K (He.ga K "Sure") "__init__") fd ["self", "records", "papers"] (spI K mg (He.ga K "Sure") (subR n "sure" (sub2 ["records", "papers"]))) := by
  obtain ⟨fd, _, S, kV, doc, pm, an, ct, e⟩ := T.sup_ 12 (par := "self") (N := ["self", "records", "papers", "__class__"]) (ps := ["self", "records", "papers"]) rfl ⟨_, rfl, rfl⟩ (NdefX.nscope_by (by decide +kernel)) rfl rfl
  obtain ⟨gc, ic, no, _, _⟩ := T.ins (c := "Sure") (by decide +kernel)
  obtain ⟨_, h1, h2⟩ := T.sub (p := ("Sure", 38)) (by decide +kernel)
  obtain ⟨_, _, tI, fI⟩ := T.papF
  refine ⟨fd, .all (by rw [e]; exact fun us hl => match us, hl with | [_, _, _], _ => rfl), kbn_rev (by rw [e]; exact fun us ws l1 l2 => match us, ws, l1, l2 with | [_], [_, _], _, _ => rfl), ?_⟩
  refine fn_supI (j := 0) (n := 2) (mP := starM 1 (papR n)) (m2 := (sub2 ["records", "papers"])) (r2 := (sub2M ["records", "papers"])) (wd := "sure") S rfl rfl rfl rfl (fun L => ⟨_, by rfl⟩) h1 h2 tI fI (ok_paper T (by decide +kernel) n) (Nat.le_refl _) (fun A outer s H E => (pa_cons (pv 1) (pa_cons (pv 2) pa_nil))) (fun fs ds fs' e => ?_) (fun fs ds p => sub2_eq ["records", "papers"] fs ds p) fun A outer s H E G x fs ds hl => ?_
  · unfold sub2 at e
    split at e
    · rename_i hz
      exact hz.2
    · cases e
  · match ds, hl with
    | [d1, d2], _ =>
      refine ⟨fun f => [.mi x (He.ga K "Sure") f, .d d1, .d d2, .no], fun f => rfl, ?_⟩
      unfold sub2M
      by_cases hz : fs.length < 800 ∧ [d1, d2].length = (["records", "papers"] : List Str).length
      · rw [if_pos hz]
        have hz1 := hz.1
        exact db_unF (i := 0) (ns := ["records", "papers"]) rfl rfl ic.1 (fun f hf => no _ (by revert f hf; decide +kernel)) (by simp only [List.length_cons, List.length_nil]; omega) (pgs_cons (pg_fld (f := "records") (pv 0)) (pgs_cons (pg_fld (f := "papers") (pv 0)) pgs_nil)) (dx_fldS (i := 0) (f := "parts") rfl ic.1 (no _ (by decide +kernel)) (pv 0)) fun vs => db_nil rfl
      · rw [if_neg hz]
        exact db_bad

end
end L2.Ly.K02

set_option Elab.async false
set_option linter.all false
set_option maxRecDepth 100000
set_option maxHeartbeats 800000
/-! K02f (printed by prk02f.py): the errors' own __init__s. -/
namespace L2.Ly.K02
open PySem PySem.Spec PyProof.Rows L2

section
variable {w : World} {K : PySem.W.Frag} {mg : Str → Option Value} {base : Heap}
theorem Tp.err (T : Tp K mg) {p : Str × Nat} (h : p ∈ errs) : mg p.1 = some (.ref (He.ga K p.1)) ∧ (XcK K (He.ga K p.1) (He.ga K p.1) ∧ XfC K (He.ga K p.1) ∧ L2.ExcC K (He.ga K p.1) ∧ PySem.W.findIn K (.ref (He.ga K p.1)) "__init__" = some (some (.ref (He.ma K (He.ga K p.1) "__init__"))) ∧ PySem.W.typeIn K (.ref (He.ma K (He.ga K p.1) "__init__")) = some (.type "function")) ∧
    (∀ f ∈ eFields, PySem.W.findIn K (.ref (He.ga K p.1)) f = some none) ∧ PySem.W.kitOne K (.ref (He.ga K p.1)) (.ref (He.ga K "LeanError")) = some true ∧ PySem.W.kitOne K (.ref (He.ga K p.1)) (.type "ValueError") = some true := by
  have z := List.all_eq_true.mp (T.test 10) p h
  simp only [Bool.and_eq_true, List.all_eq_true] at z
  refine ⟨T.gl p.1 ?_, xmkB_ok z.1.1.1, fun f hf => noB_ok (z.1.1.2 f hf), of_decide_eq_true z.1.2, of_decide_eq_true z.2⟩
  unfold globs
  simp only [List.mem_append, List.mem_map]
  exact .inr ⟨p, h, rfl⟩

theorem ok_BadSystem (T : Tp K mg) : ∃ fd, Binds K fd ["self", "part"] [] ∧ FnOk PySem.Challenge.pw_leanon_k02_papers_and_errors w K mg base (L2.CX PySem.Challenge.pw_leanon_k02_papers_and_errors w) 1 (He.ma K (He.ga K "BadSystem") "__init__") fd ["self", "part"] (spE1 (He.ga K "BadSystem") "part") := by
  obtain ⟨fd, _, S, kV, doc, pm, an, ct, e⟩ := T.sup_ 13 (par := "self") (N := ["self", "part", "__class__"]) (ps := ["self", "part"]) rfl ⟨_, rfl, rfl⟩ (NdefX.nscope_by (by decide +kernel)) rfl rfl
  obtain ⟨_, ⟨x1, _⟩, no, _⟩ := T.err (p := ("BadSystem", 6)) (by decide +kernel)
  exact ⟨fd, .all (by rw [e]; exact fun us hl => match us, hl with | [_, _], _ => rfl), fn_E1 S x1 (no _ (by decide +kernel)) (by decide) (by decide) (by decide) (by decide) rfl fun L => ⟨_, by rfl⟩⟩

theorem ok_BadValue (T : Tp K mg) : ∃ fd, Binds K fd ["self", "part"] [] ∧ FnOk PySem.Challenge.pw_leanon_k02_papers_and_errors w K mg base (L2.CX PySem.Challenge.pw_leanon_k02_papers_and_errors w) 1 (He.ma K (He.ga K "BadValue") "__init__") fd ["self", "part"] (spE1 (He.ga K "BadValue") "part") := by
  obtain ⟨fd, _, S, kV, doc, pm, an, ct, e⟩ := T.sup_ 14 (par := "self") (N := ["self", "part", "__class__"]) (ps := ["self", "part"]) rfl ⟨_, rfl, rfl⟩ (NdefX.nscope_by (by decide +kernel)) rfl rfl
  obtain ⟨_, ⟨x1, _⟩, no, _⟩ := T.err (p := ("BadValue", 7)) (by decide +kernel)
  exact ⟨fd, .all (by rw [e]; exact fun us hl => match us, hl with | [_, _], _ => rfl), fn_E1 S x1 (no _ (by decide +kernel)) (by decide) (by decide) (by decide) (by decide) rfl fun L => ⟨_, by rfl⟩⟩

theorem ok_BadNumber (T : Tp K mg) : ∃ fd, Binds K fd ["self", "part"] [] ∧ FnOk PySem.Challenge.pw_leanon_k02_papers_and_errors w K mg base (L2.CX PySem.Challenge.pw_leanon_k02_papers_and_errors w) 1 (He.ma K (He.ga K "BadNumber") "__init__") fd ["self", "part"] (spE1 (He.ga K "BadNumber") "part") := by
  obtain ⟨fd, _, S, kV, doc, pm, an, ct, e⟩ := T.sup_ 15 (par := "self") (N := ["self", "part", "__class__"]) (ps := ["self", "part"]) rfl ⟨_, rfl, rfl⟩ (NdefX.nscope_by (by decide +kernel)) rfl rfl
  obtain ⟨_, ⟨x1, _⟩, no, _⟩ := T.err (p := ("BadNumber", 8)) (by decide +kernel)
  exact ⟨fd, .all (by rw [e]; exact fun us hl => match us, hl with | [_, _], _ => rfl), fn_E1 S x1 (no _ (by decide +kernel)) (by decide) (by decide) (by decide) (by decide) rfl fun L => ⟨_, by rfl⟩⟩

theorem ok_BadPaper (T : Tp K mg) : ∃ fd, Binds K fd ["self", "part"] [] ∧ FnOk PySem.Challenge.pw_leanon_k02_papers_and_errors w K mg base (L2.CX PySem.Challenge.pw_leanon_k02_papers_and_errors w) 1 (He.ma K (He.ga K "BadPaper") "__init__") fd ["self", "part"] (spE1 (He.ga K "BadPaper") "part") := by
  obtain ⟨fd, _, S, kV, doc, pm, an, ct, e⟩ := T.sup_ 16 (par := "self") (N := ["self", "part", "__class__"]) (ps := ["self", "part"]) rfl ⟨_, rfl, rfl⟩ (NdefX.nscope_by (by decide +kernel)) rfl rfl
  obtain ⟨_, ⟨x1, _⟩, no, _⟩ := T.err (p := ("BadPaper", 9)) (by decide +kernel)
  exact ⟨fd, .all (by rw [e]; exact fun us hl => match us, hl with | [_, _], _ => rfl), fn_E1 S x1 (no _ (by decide +kernel)) (by decide) (by decide) (by decide) (by decide) rfl fun L => ⟨_, by rfl⟩⟩

theorem ok_Misfit (T : Tp K mg) : ∃ fd, Binds K fd ["self", "part"] [] ∧ FnOk PySem.Challenge.pw_leanon_k02_papers_and_errors w K mg base (L2.CX PySem.Challenge.pw_leanon_k02_papers_and_errors w) 1 (He.ma K (He.ga K "Misfit") "__init__") fd ["self", "part"] (spE1 (He.ga K "Misfit") "part") := by
  obtain ⟨fd, _, S, kV, doc, pm, an, ct, e⟩ := T.sup_ 17 (par := "self") (N := ["self", "part", "__class__"]) (ps := ["self", "part"]) rfl ⟨_, rfl, rfl⟩ (NdefX.nscope_by (by decide +kernel)) rfl rfl
  obtain ⟨_, ⟨x1, _⟩, no, _⟩ := T.err (p := ("Misfit", 10)) (by decide +kernel)
  exact ⟨fd, .all (by rw [e]; exact fun us hl => match us, hl with | [_, _], _ => rfl), fn_E1 S x1 (no _ (by decide +kernel)) (by decide) (by decide) (by decide) (by decide) rfl fun L => ⟨_, by rfl⟩⟩

theorem ok_Nothing (T : Tp K mg) : ∃ fd, Binds K fd ["self", "part"] [] ∧ FnOk PySem.Challenge.pw_leanon_k02_papers_and_errors w K mg base (L2.CX PySem.Challenge.pw_leanon_k02_papers_and_errors w) 1 (He.ma K (He.ga K "Nothing") "__init__") fd ["self", "part"] (spE1 (He.ga K "Nothing") "part") := by
  obtain ⟨fd, _, S, kV, doc, pm, an, ct, e⟩ := T.sup_ 18 (par := "self") (N := ["self", "part", "__class__"]) (ps := ["self", "part"]) rfl ⟨_, rfl, rfl⟩ (NdefX.nscope_by (by decide +kernel)) rfl rfl
  obtain ⟨_, ⟨x1, _⟩, no, _⟩ := T.err (p := ("Nothing", 11)) (by decide +kernel)
  exact ⟨fd, .all (by rw [e]; exact fun us hl => match us, hl with | [_, _], _ => rfl), fn_E1 S x1 (no _ (by decide +kernel)) (by decide) (by decide) (by decide) (by decide) rfl fun L => ⟨_, by rfl⟩⟩

theorem ok_BadRun (T : Tp K mg) : ∃ fd, Binds K fd ["self", "at"] [] ∧ FnOk PySem.Challenge.pw_leanon_k02_papers_and_errors w K mg base (L2.CX PySem.Challenge.pw_leanon_k02_papers_and_errors w) 1 (He.ma K (He.ga K "BadRun") "__init__") fd ["self", "at"] (spE1 (He.ga K "BadRun") "at") := by
  obtain ⟨fd, _, S, kV, doc, pm, an, ct, e⟩ := T.sup_ 19 (par := "self") (N := ["self", "at", "__class__"]) (ps := ["self", "at"]) rfl ⟨_, rfl, rfl⟩ (NdefX.nscope_by (by decide +kernel)) rfl rfl
  obtain ⟨_, ⟨x1, _⟩, no, _⟩ := T.err (p := ("BadRun", 12)) (by decide +kernel)
  exact ⟨fd, .all (by rw [e]; exact fun us hl => match us, hl with | [_, _], _ => rfl), fn_E1 S x1 (no _ (by decide +kernel)) (by decide) (by decide) (by decide) (by decide) rfl fun L => ⟨_, by rfl⟩⟩

theorem ok_BadText (T : Tp K mg) : ∃ fd, Binds K fd ["self", "line", "word"] [] ∧ FnOk PySem.Challenge.pw_leanon_k02_papers_and_errors w K mg base (L2.CX PySem.Challenge.pw_leanon_k02_papers_and_errors w) 1 (He.ma K (He.ga K "BadText") "__init__") fd ["self", "line", "word"] (spE2 (He.ga K "BadText") "line" "word") := by
  obtain ⟨fd, _, S, kV, doc, pm, an, ct, e⟩ := T.sup_ 20 (par := "self") (N := ["self", "line", "word", "__class__"]) (ps := ["self", "line", "word"]) rfl ⟨_, rfl, rfl⟩ (NdefX.nscope_by (by decide +kernel)) rfl rfl
  obtain ⟨_, ⟨x1, _⟩, no, _⟩ := T.err (p := ("BadText", 13)) (by decide +kernel)
  exact ⟨fd, .all (by rw [e]; exact fun us hl => match us, hl with | [_, _, _], _ => rfl), fn_E2 S x1 (no _ (by decide +kernel)) (no _ (by decide +kernel)) (by decide) (by decide) (by decide) (by decide) (by decide) (by decide) rfl fun L => ⟨_, by rfl⟩⟩

theorem ok_BadCommand (T : Tp K mg) : ∃ fd, Binds K fd ["self", "word"] [] ∧ FnOk PySem.Challenge.pw_leanon_k02_papers_and_errors w K mg base (L2.CX PySem.Challenge.pw_leanon_k02_papers_and_errors w) 1 (He.ma K (He.ga K "BadCommand") "__init__") fd ["self", "word"] (spE1 (He.ga K "BadCommand") "word") := by
  obtain ⟨fd, _, S, kV, doc, pm, an, ct, e⟩ := T.sup_ 21 (par := "self") (N := ["self", "word", "__class__"]) (ps := ["self", "word"]) rfl ⟨_, rfl, rfl⟩ (NdefX.nscope_by (by decide +kernel)) rfl rfl
  obtain ⟨_, ⟨x1, _⟩, no, _⟩ := T.err (p := ("BadCommand", 14)) (by decide +kernel)
  exact ⟨fd, .all (by rw [e]; exact fun us hl => match us, hl with | [_, _], _ => rfl), fn_E1 S x1 (no _ (by decide +kernel)) (by decide) (by decide) (by decide) (by decide) rfl fun L => ⟨_, by rfl⟩⟩

theorem ok_NoName (T : Tp K mg) : ∃ fd, Binds K fd ["self", "name"] [] ∧ FnOk PySem.Challenge.pw_leanon_k02_papers_and_errors w K mg base (L2.CX PySem.Challenge.pw_leanon_k02_papers_and_errors w) 1 (He.ma K (He.ga K "NoName") "__init__") fd ["self", "name"] (spE1 (He.ga K "NoName") "name") := by
  obtain ⟨fd, _, S, kV, doc, pm, an, ct, e⟩ := T.sup_ 22 (par := "self") (N := ["self", "name", "__class__"]) (ps := ["self", "name"]) rfl ⟨_, rfl, rfl⟩ (NdefX.nscope_by (by decide +kernel)) rfl rfl
  obtain ⟨_, ⟨x1, _⟩, no, _⟩ := T.err (p := ("NoName", 15)) (by decide +kernel)
  exact ⟨fd, .all (by rw [e]; exact fun us hl => match us, hl with | [_, _], _ => rfl), fn_E1 S x1 (no _ (by decide +kernel)) (by decide) (by decide) (by decide) (by decide) rfl fun L => ⟨_, by rfl⟩⟩

theorem ok_TooMany (T : Tp K mg) : ∃ fd, Binds K fd ["self", "what", "most"] [] ∧ FnOk PySem.Challenge.pw_leanon_k02_papers_and_errors w K mg base (L2.CX PySem.Challenge.pw_leanon_k02_papers_and_errors w) 1 (He.ma K (He.ga K "TooMany") "__init__") fd ["self", "what", "most"] (spE2 (He.ga K "TooMany") "what" "most") := by
  obtain ⟨fd, _, S, kV, doc, pm, an, ct, e⟩ := T.sup_ 23 (par := "self") (N := ["self", "what", "most", "__class__"]) (ps := ["self", "what", "most"]) rfl ⟨_, rfl, rfl⟩ (NdefX.nscope_by (by decide +kernel)) rfl rfl
  obtain ⟨_, ⟨x1, _⟩, no, _⟩ := T.err (p := ("TooMany", 16)) (by decide +kernel)
  exact ⟨fd, .all (by rw [e]; exact fun us hl => match us, hl with | [_, _, _], _ => rfl), fn_E2 S x1 (no _ (by decide +kernel)) (no _ (by decide +kernel)) (by decide) (by decide) (by decide) (by decide) (by decide) (by decide) rfl fun L => ⟨_, by rfl⟩⟩

end
end L2.Ly.K02

set_option Elab.async false
set_option linter.all false
set_option maxRecDepth 100000
set_option maxHeartbeats 1600000
/-! K02g: the drawing helpers. -/
namespace L2.Ly.K02
open PySem PySem.Spec PyProof.Rows L2

abbrev b2 (f : D → D → R D) (ra rb : M D) : M D := ra >>= fun x => rb >>= fun y => M.lift (f x y)
abbrev u1 (f : D → R D) (ra : M D) : M D := ra >>= fun x => M.lift (f x)
abbrev t2 (f : D → D → R D) (ra rb : M D) : M Bool := ra >>= fun x => rb >>= fun y => M.lift (f x y >>= toB)
abbrev vi (i : Int) : M D := pure (.int i)
abbrev c2 (r : M D) (rs : M (List D)) : M (List D) := r >>= fun x => rs >>= fun xs => pure (x :: xs)
abbrev n0 : M (List D) := pure []
abbrev l1 (r : M (List D)) : M D := r >>= fun xs => pure (.lst xs)
def penM (ns : List Int) : M D := l1 (c2 (l1 (u1L iterItems (pure (D.lst (ns.map D.int))) >>= fun xs => lcM R.ok (fun _ => pure true) (fun d => u1 intD (pure d)) xs)) (c2 (vi 0) (c2 (vi 0) n0)))
where u1L (f : D → R (List D)) (ra : M D) : M (List D) := ra >>= fun x => M.lift (f x)
theorem penM_ok (ns : List Int) (p : Pen) : (penM ns p).1 = .ok (.lst [.lst (ns.map D.int), .int 0, .int 0]) := by
  have h := lc_ints ns p
  show ((l1 (c2 (l1 (lcM R.ok (fun _ => pure true) (fun d => (pure d : M D) >>= fun x => M.lift (intD x)) (ns.map D.int))) (c2 (vi 0) (c2 (vi 0) n0)))) p).1 = _
  simp only [M.bind_def, h]
  rfl
def m_drawT (many at_ cell : D) : M D :=
  (t2 ltD (pure at_) (u1 lenD penCells) >>= fun c => if c then t2 geD (u1 absD (pure cell)) (b2 powD (vi 10) (vi 18)) else pure false) >>= fun b => if b then
    (b2 addD (b2 mulD (vi 2) (b2 subD (u1 absD (pure cell)) (b2 powD (vi 10) (vi 18)))) (u1 intD (b2 ltD (pure cell) (vi 0))) >>= fun rest => b2 fdivD (u1 intD (pure rest)) (pure many) >>= fun d => setRest d >>= fun _ => b2 modD (u1 intD (pure rest)) (pure many))
  else (b2 modD (u1 intD (b2 powD (b2 addD (b2 addD (b2 modD (u1 intD (pure cell)) (vi 2147483549)) (b2 mulD (vi 93083) (pure at_))) (vi 4087)) (vi 5))) (vi 2147483563)) >>= fun mixed =>
    (b2 modD (u1 intD (b2 powD (b2 addD (b2 addD (b2 mulD (pure mixed) (b2 addD (b2 mulD (vi 2) (pure at_)) (vi 4087))) (b2 mulD (b2 mulD (vi 63989) (pure at_)) (pure at_))) (vi 93083)) (vi 3))) (vi 2147483587)) >>= fun mixed => b2 modD (u1 intD (b2 fdivD (pure mixed) (vi 64))) (pure many)
def m_draw (many : D) : M D :=
  t2 gtD penRest (vi 0) >>= fun b => if b then
    (u1 intD penRest >>= fun rest => b2 fdivD (pure rest) (pure many) >>= fun d => setRest d >>= fun _ => b2 modD (u1 intD (pure rest)) (pure many))
  else penPos >>= fun at_ => b2 addD (pure at_) (vi 1) >>= fun d => setPos d >>= fun _ =>
    b2 addD (b2 mulD (vi 63989) (pure at_)) (vi 27223) >>= fun cell =>
    (t2 neD penCells (l1 n0) >>= fun b => (if b then (b2 ixD penCells (b2 modD (u1 intD (pure at_)) (u1 lenD penCells)) >>= fun c => pure (.nx c)) else pure (.nx cell)) >>= Out.k (fun c => m_drawT many at_ c) fun d => d)
def m_pick (some_ : D) : M D := b2 ixD (pure some_) (u1 lenD (pure some_) >>= fun x => m_draw x)
def anyItems : M (List D) := c2 (pure .non) (c2 (pure (.bl true)) (c2 (pure (.bl false)) (c2 (vi 0) (c2 (vi 7) (c2 (u1 negD (vi 3)) (c2 (pure (.str "kept")) (c2 (pure (.str "")) (c2 (b2 powD (vi 10) (vi 40)) n0))))))))
def m_any : Nat → D → M D
  | 0, _ => M.bad
  | n + 1, deep => (t2 gtD (pure deep) (vi 0) >>= fun c => if c then t2 gtD (vi 3 >>= fun x => m_draw x) (vi 0) else pure false) >>= fun b => if b then
      ((((vi 4 >>= fun x => m_draw x) >>= fun x => M.lift (rangeD1 x)) >>= fun xs => lcM R.ok (fun _ => pure true) (fun _ => b2 subD (pure deep) (vi 1) >>= fun x => m_any n x) xs) >>= fun xs =>
        (t2 eqD (vi 2 >>= fun x => m_draw x) (vi 0)) >>= fun t => if t then pure (D.lst xs) else u1 tupleD (pure (D.lst xs)))
    else l1 anyItems >>= fun x => m_pick x
def m_tuples : Nat → D → M D
  | 0, _ => M.bad
  | n + 1, v => ((pure v >>= fun x => M.lift (isa2 x "list" "tuple")) >>= fun x => M.lift (truthy x)) >>= fun b => if b then u1 tupleD (l1 ((pure v >>= fun x => M.lift (iterItems x)) >>= fun xs => lcM R.ok (fun _ => pure true) (fun a => pure a >>= fun x1 => M.c (m_tuples n x1)) xs)) else pure v
section
variable {P : Program} {w : World} {K : PySem.W.Frag} {mg : Str → Option Value} {base : Heap}
theorem sc_pen : FnScope ["script", "cell"] ["script"] (defScope sPen) := ⟨rfl, rfl, rfl, by decide +kernel, rfl, by decide +kernel, by decide +kernel⟩
theorem sc_draw : FnScope ["pen", "many", "rest", "at", "cell", "mixed"] ["pen", "many"] (defScope sDraw) := ⟨rfl, rfl, rfl, by decide +kernel, rfl, by decide +kernel, by decide +kernel⟩
theorem sc_pick : FnScope ["pen", "some"] ["pen", "some"] (defScope sPick) := ⟨rfl, rfl, rfl, by decide +kernel, rfl, by decide +kernel, by decide +kernel⟩
theorem sc_any : FnScope ["pen", "deep", "some", "lap"] ["pen", "deep"] (defScope sAny) := ⟨rfl, rfl, rfl, by decide +kernel, rfl, by decide +kernel, by decide +kernel⟩
theorem sc_tuples : FnScope ["value", "one"] ["value"] (defScope sTuples) := ⟨rfl, rfl, rfl, by decide +kernel, rfl, by decide +kernel, by decide +kernel⟩
theorem ok_pen (T : Tp K mg) : ∃ fd, PySem.W.keepIn K (.ref (He.ga K "_law_pen")) = true ∧ Binds K fd ["script"] [] ∧ ∀ k, FnOk P w K mg base (L2.CX P w) (k + 1) (He.ga K "_law_pen") fd ["script"] (spPen K) := by
  obtain ⟨fd, F⟩ := T.fun_ 5
  have fi := T.fr "int" (by decide +kernel)
  refine ⟨fd, F.kp, F.binds fun _ _ _ _ _ _ us hl => match us, hl with | [_], _ => rfl, fun k => fn_pen F sc_pen (by decide) penM_ok fun cdv A outer s H E hr G a ns hs hp hl => ?_⟩
  exact db_retD (dx_f (dxf_lst (dxa_cons (dx_f (dxf_lc1 (i := 1) rfl sc_pen.nd (dxi_any (dx_script (pv 0) rfl hs hp hl)) (by kernel_rfl) (by intro lv e; cases e; rfl) rfl rfl (fun a H0 fr s H C cl fp => dxt_nil)
    (fun a H0 fr s H C cl fp => dx_callTy call_intP rfl fi rfl (dx_var (pv 1))))) (dxa_cons dx_int (dxa_cons dx_int dxa_nil)))))
theorem ok_draw (T : Tp K mg) : ∃ fd, mg "_law_draw" = some (.ref (He.ga K "_law_draw")) ∧ PySem.W.keepIn K (.ref (He.ga K "_law_draw")) = true ∧ Binds K fd ["pen", "many"] [] ∧ ∀ k, FnOk P w K mg base (L2.CX P w) (k + 1) (He.ga K "_law_draw") fd ["pen", "many"] (spD K mg (w_pd m_draw)) := by
  obtain ⟨fd, F⟩ := T.fun_ 6
  have g := T.gl "_law_draw" (by decide +kernel)
  have fi := T.fr "int" (by decide +kernel)
  have fl := T.fr "len" (by decide +kernel)
  have fA := T.fr "abs" (by decide +kernel)
  refine ⟨fd, g, F.kp, F.binds fun _ _ _ _ _ _ us hl => match us, hl with | [_, _], _ => rfl, fun k => fn_pd F sc_draw rfl (by decide) fun cdv A outer s H E hr G tk x1 => ?_⟩
  have hu : (A.deeper (envOfC "_law_draw" (defScope sDraw) s.heap.objs.size (He.ga K "_law_draw") cdv)).units + 200 < cLine := by
    have := hr.un
    omega
  refine db_ifD (dxb_cmp op_gtP (dx_pen2 (pv 0)) dx_int rfl)
    (db_set (i := 2) sc_draw.nd rfl (.inl rfl) (dx_callTy call_intP rfl fi rfl (dx_pen2 (pv 0))) fun rest => db_pen2 (pv 0) (dx_op op_fdivP (dx_var (pv 2)) (dx_var (pv 1))) (db_retD (dx_op op_modP (dx_callTy call_intP rfl fi rfl (dx_var (pv 2))) (dx_var (pv 1)))))
    (db_set (i := 3) sc_draw.nd rfl (.inl rfl) (dx_pen1 (pv 0)) fun at_ => db_pen1 (pv 0) (dx_op op_addP (dx_var (pv 3)) dx_int) (db_set (i := 4) sc_draw.nd rfl (.inl rfl) (dx_op op_addP (dx_op op_mulP dx_int (dx_var (pv 3))) dx_int) fun cell => ?_))
  refine db_ifK (s := fun c => [.pen, .d x1, .no, .d at_, .d c, .no]) (k := fun c => m_drawT x1 at_ c) (j := fun d => d) ?_ ?_ ?_ (fun c => ?_) fun d => rfl
  · exact (dxb_cmp (op_neP hu) (dx_pen0 (pv 0)) (dx_f (dxf_lst dxa_nil)) rfl)
  · exact db_set (i := 4) sc_draw.nd rfl (.inl rfl) (dx_ix (dx_pen0 (pv 0)) (dx_op op_modP (dx_callTy call_intP rfl fi rfl (dx_var (pv 3))) (dx_callB call_lenP rfl fl rfl (dx_pen0 (pv 0))))) fun c => db_nil rfl
  · exact db_nil rfl
  · exact db_ifD (dxw_b (dxw_and (dxb_cmp op_ltP (dx_var (pv 3)) (dx_callB call_lenP rfl fl rfl (dx_pen0 (pv 0))) rfl) (dxw_and1 (dxb_cmp op_geP (dx_callB call_absP rfl fA rfl (dx_var (pv 4))) (dx_op op_powP dx_int dx_int) rfl))))
          (db_set (i := 2) sc_draw.nd rfl (.inl rfl) (dx_op op_addP (dx_op op_mulP dx_int (dx_op op_subP (dx_callB call_absP rfl fA rfl (dx_var (pv 4))) (dx_op op_powP dx_int dx_int))) (dx_callTy call_intP rfl fi rfl (dx_cmp op_ltP (dx_var (pv 4)) dx_int rfl))) fun rest =>
            db_pen2 (pv 0) (dx_op op_fdivP (dx_callTy call_intP rfl fi rfl (dx_var (pv 2))) (dx_var (pv 1))) (db_retD (dx_op op_modP (dx_callTy call_intP rfl fi rfl (dx_var (pv 2))) (dx_var (pv 1)))))
          (db_set (i := 5) sc_draw.nd rfl (.inl rfl) (dx_op op_modP (dx_callTy call_intP rfl fi rfl (dx_op op_powP (dx_op op_addP (dx_op op_addP (dx_op op_modP (dx_callTy call_intP rfl fi rfl (dx_var (pv 4))) dx_int) (dx_op op_mulP dx_int (dx_var (pv 3)))) dx_int) dx_int)) dx_int) fun mixed =>
            db_set (i := 5) sc_draw.nd rfl (.inl rfl) (dx_op op_modP (dx_callTy call_intP rfl fi rfl (dx_op op_powP (dx_op op_addP (dx_op op_addP (dx_op op_mulP (dx_var (pv 5)) (dx_op op_addP (dx_op op_mulP dx_int (dx_var (pv 3))) dx_int)) (dx_op op_mulP (dx_op op_mulP dx_int (dx_var (pv 3))) (dx_var (pv 3)))) dx_int) dx_int)) dx_int) fun mixed2 =>
              db_retD (dx_op op_modP (dx_callTy call_intP rfl fi rfl (dx_op op_fdivP (dx_var (pv 5)) dx_int)) (dx_var (pv 1))))
end
end L2.Ly.K02

set_option Elab.async false
set_option linter.all false
set_option maxRecDepth 100000
set_option maxHeartbeats 1600000
/-! K02h: pick, any, tuples. -/
namespace L2.Ly.K02
open PySem PySem.Spec PyProof.Rows L2
section
variable {P : Program} {w : World} {K : PySem.W.Frag} {mg : Str → Option Value} {base : Heap}
theorem ok_pick (T : Tp K mg) : ∃ fd, mg "_law_pick" = some (.ref (He.ga K "_law_pick")) ∧ PySem.W.keepIn K (.ref (He.ga K "_law_pick")) = true ∧ Binds K fd ["pen", "some"] [] ∧ ∀ k, FnOk P w K mg base (L2.CX P w) (k + 2) (He.ga K "_law_pick") fd ["pen", "some"] (spD K mg (w_pd m_pick)) := by
  obtain ⟨fd, F⟩ := T.fun_ 7
  obtain ⟨fdd, gd, kd, bd, Fd⟩ := ok_draw (P := P) (w := w) (base := base) T
  have g := T.gl "_law_pick" (by decide +kernel)
  have fl := T.fr "len" (by decide +kernel)
  refine ⟨fd, g, F.kp, F.binds fun _ _ _ _ _ _ us hl => match us, hl with | [_, _], _ => rfl, fun k => fn_pd F sc_pick rfl (by decide) fun cdv A outer s H E hr G tk x1 => ?_⟩
  exact db_retD (dx_ix (dx_var (pv 1)) (dx_call_pd (pv 0) tk (Fd k) hr rfl gd kd bd (dx_callB call_lenP rfl fl rfl (dx_var (pv 1)))))
theorem ok_any (T : Tp K mg) : ∃ fd, mg "_law_any" = some (.ref (He.ga K "_law_any")) ∧ PySem.W.keepIn K (.ref (He.ga K "_law_any")) = true ∧ Binds K fd ["pen", "deep"] [] ∧ ∀ n, FnOk P w K mg base (L2.CX P w) (n + 3) (He.ga K "_law_any") fd ["pen", "deep"] (spD K mg (w_pd (m_any n))) := by
  obtain ⟨fd, F⟩ := T.fun_ 8
  obtain ⟨fdd, gd, kd, bd, Fd⟩ := ok_draw (P := P) (w := w) (base := base) T
  obtain ⟨fdp, gp, kp, bp, Fp⟩ := ok_pick (P := P) (w := w) (base := base) T
  have g := T.gl "_law_any" (by decide +kernel)
  have ft := T.fr "tuple" (by decide +kernel)
  have fr := T.fr "range" (by decide +kernel)
  have b : Binds K fd ["pen", "deep"] [] := F.binds fun _ _ _ _ _ _ us hl => match us, hl with | [_, _], _ => rfl
  refine ⟨fd, g, F.kp, b, fun n => ?_⟩
  induction n with
  | zero => exact fn_pd F sc_any rfl (by decide) fun cdv A outer s H E hr G tk x1 => db_bad
  | succ n ih =>
    refine fn_pd F sc_any rfl (by decide) fun cdv A outer s H E hr G tk x1 => ?_
    have hu : (A.deeper (envOfC "_law_any" (defScope sAny) s.heap.objs.size (He.ga K "_law_any") cdv)).units + 200 < cLine := by
      have := hr.un
      omega
    refine db_ifD (dxw_b (dxw_and (dxb_cmp op_gtP (dx_var (pv 1)) dx_int rfl) (dxw_and1 (dxb_cmp op_gtP (dx_call_pd (pv 0) tk (Fd (n + 2)) hr rfl gd kd bd dx_int) dx_int rfl)))) ?_
      (db_retD (dx_call_pd (pv 0) tk (Fp (n + 1)) hr rfl gp kp bp (dx_f (dxf_lst (dxa_cons dx_non (dxa_cons dx_bl (dxa_cons dx_bl (dxa_cons dx_int (dxa_cons dx_int (dxa_cons (dx_neg dx_int) (dxa_cons dx_str (dxa_cons dx_str (dxa_cons (dx_op op_powP dx_int dx_int) dxa_nil)))))))))))))
    exact db_setT (i := 2) (rr := fun d => (t2 eqD (vi 2 >>= fun x => m_draw x) (vi 0)) >>= fun t => if t then pure d else u1 tupleD (pure d)) (ps_lc1 (i := 3) (j := 2) rfl sc_any.nd rfl rfl (dxi_range1 rfl fr (dx_call_pd (pv 0) tk (Fd (n + 2)) hr rfl gd kd bd dx_int)) (by kernel_rfl) (by intro lv e; cases e; rfl) rfl rfl (fun a H0 fr s H C cl fp => dxt_nil)
        (fun a H0 fr s H C cl fp => dx_call_pd (pv 0) takes0 ih hr rfl g F.kp b (dx_op op_subP (dx_var (pv 1)) dx_int)) rfl)
      fun d => db_retD (dx_if (dxb_cmp (op_eqP hu) (dx_call_pd (pv 0) tk (Fd (n + 2)) hr rfl gd kd bd dx_int) dx_int rfl) (dx_var (pv 2)) (dx_callTy call_tupleP rfl ft rfl (dx_var (pv 2))))
theorem ok_tuples (T : Tp K mg) : ∃ fd, mg "_law_tuples" = some (.ref (He.ga K "_law_tuples")) ∧ PySem.W.keepIn K (.ref (He.ga K "_law_tuples")) = true ∧ Binds K fd ["value"] [] ∧ ∀ n, FnOk P w K mg base (L2.CX P w) (n + 1) (He.ga K "_law_tuples") fd ["value"] (spD K mg (w_d (m_tuples n))) := by
  obtain ⟨fd, F⟩ := T.fun_ 9
  have g := T.gl "_law_tuples" (by decide +kernel)
  have fi := T.fr "isinstance" (by decide +kernel)
  have ft := T.fr "tuple" (by decide +kernel)
  have fl := T.fr "list" (by decide +kernel)
  have b : Binds K fd ["value"] [] := F.binds fun _ _ _ _ _ _ us hl => match us, hl with | [_], _ => rfl
  refine ⟨fd, g, F.kp, b, fun n => ?_⟩
  induction n with
  | zero => exact fn_d F sc_tuples rfl (by decide) fun cdv A outer s H E hr G tk x1 => db_bad
  | succ n ih =>
    refine fn_d F sc_tuples rfl (by decide) fun cdv A outer s H E hr G tk x1 => ?_
    exact db_retD (dx_if (dxb_truth (dx_isa2 rfl fi (dx_var (pv 0)) (pe_bltn rfl fl rfl rfl) (pe_bltn rfl ft rfl rfl)))
      (dx_callTy call_tupleP rfl ft rfl (dx_f (dxf_lc1 (i := 1) rfl sc_tuples.nd (dxi_any (dx_var (pv 0))) (by kernel_rfl) (by intro lv e; cases e; rfl) rfl rfl
        (fun a H0 fr s H C cl fp => dxt_nil)
        (fun a H0 fr s H C cl fp => dx_call_d takes0 ih hr rfl g F.kp b (dx_var (pv 1))))))
      (dx_var (pv 0)))
end
end L2.Ly.K02

set_option Elab.async false
set_option linter.all false
set_option maxRecDepth 100000
set_option maxHeartbeats 1600000
/-! K02i: what makes no error; ==, bool, isinstance in the law. -/
namespace L2.Ly.K02
open PySem PySem.Spec PyProof.Rows L2

def NE {α : Type} (r : R α) : Prop := ∀ e, r ≠ .err e
theorem NE.ok {α : Type} (a : α) : NE (R.ok a) := fun e h => by cases h
theorem NE.bad {α : Type} : NE (R.bad : R α) := fun e h => by cases h
theorem NE.bind {α β : Type} {r : R α} {f : α → R β} (h : NE r) (k : ∀ a, NE (f a)) : NE (r >>= f) := by
  cases r with
  | ok a => exact k a
  | err e => exact (h e rfl).elim
  | bad => exact .bad
theorem NE.ite {α : Type} {c : Prop} [Decidable c] {r s : R α} (h : NE r) (k : NE s) : NE (if c then r else s) := by
  split
  · exact h
  · exact k
theorem ne_q {α : Type} (r : R α) : NE r.q := by
  cases r <;> first | exact .ok _ | exact .bad
theorem ne_mapR {α : Type} (f : D → R α) : ∀ xs, NE (mapR f xs)
  | [] => .ok _
  | x :: xs => .bind (ne_q _) fun y => .bind (ne_mapR f xs) fun ys => .ok _
theorem ne_items (d : D) : NE (iterItems d) := by
  cases d <;> first | exact .ok _ | exact .bad | exact .ite (.ok _) .bad
theorem ne_pap (n : Nat) (fs : List (Str × D)) (ds : List D) : NE (papR n fs ds) := by
  match ds with
  | [] => exact .bad
  | [_] => exact .bad
  | _ :: _ :: _ :: _ => exact .bad
  | [wd, ps] => exact .ite (.bind (ne_items _) fun xs => .bind (ne_mapR _ _) fun ys => .ok _) .bad
theorem ne_star (n : Nat) (fs : List (Str × D)) (ds : List D) : NE (starM 1 (papR n) fs ds) := .ite (ne_pap n _ _) .bad
theorem ne_fldL (fs : List (Str × D)) (f : Str) : NE (fldL fs f) := fun e => fldL_noerr
theorem ne_ixD (d : D) (i : Int) : NE (ixD d (.int i)) := by
  cases d with
  | tup xs => show NE (match atI xs i with | some d => R.ok d | none => .bad); split; exact .ok _; exact .bad
  | lst xs => show NE (match atI xs i with | some d => R.ok d | none => .bad); split; exact .ok _; exact .bad
  | str s =>
    refine .ite ?_ .bad
    split
    · exact .ok _
    · exact .bad
  | _ => exact .bad
theorem ne_unpT (n : Nat) (d : D) : NE (unpT n d) := by
  cases d <;> first | exact .ite (.ok _) .bad | exact .bad
theorem ne_sub1 (n : Nat) (wd f : Str) (ds : List D) (e : Ex) : subR n wd (sub1 f) [] ds ≠ .err e :=
  NE.bind (ne_star n _ _) (fun fs1 => .ite (.bind (ne_fldL _ _) fun d => .bind (ne_ixD _ _) fun v => .ok _) .bad) e
theorem ne_sub2 (n : Nat) (wd : Str) (ns : List Str) (ds : List D) (e : Ex) : subR n wd (sub2 ns) [] ds ≠ .err e :=
  NE.bind (ne_star n _ _) (fun fs1 => .ite (.bind (ne_fldL _ _) fun d => .bind (ne_unpT _ _) fun v => .ok _) .bad) e
def pBool : List (Str × Bool) := papers.map fun c => (c, !decide (c ∈ denials))
def pDen : List (Str × Bool) := papers.map fun c => (c, decide (c ∈ denials))
def errNames : List Str := errs.map (·.1)
def eTrue : List (Str × Bool) := errs.map fun p => (p.1, true)
def eText : List (Str × Bool) := [("BadText", false)]
theorem tab_mem {β : Type} {cs : List Str} {f : Str → β} {c : Str} {b : β} (h : (cs.map fun c => (c, f c)).lookup c = some b) : c ∈ cs ∧ b = f c := by
  obtain ⟨c', h1, h2⟩ := List.mem_map.mp (PySem.mem_of_lookup h)
  cases h2
  exact ⟨h1, rfl⟩
section
variable {K : PySem.W.Frag} {mg : Str → Option Value}
theorem Tp.fldE (T : Tp K mg) {f : Str} (hf : f ∈ eFields) : ∀ c ∈ errNames, ∀ C, mg c = some (.ref C) → XfC K C ∧ PySem.W.findIn K (.ref C) f = some none := fun c hc C e => by
  obtain ⟨p, hp, rfl⟩ := List.mem_map.mp hc
  obtain ⟨g, ⟨_, x, _⟩, n, _⟩ := T.err hp
  rw [g] at e
  cases ref_inj e
  exact ⟨x, n f hf⟩
theorem Tp.isaD (T : Tp K mg) : ∀ c b, pDen.lookup c = some b → ∀ C, mg c = some (.ref C) → PySem.W.kitOne K (.ref C) (.ref (He.ga K "Denial")) = some b := fun c b h C e => by
  obtain ⟨hc, rfl⟩ := tab_mem h
  rw [(T.ins hc).1] at e
  cases ref_inj e
  exact (T.kitP hc).2
theorem Tp.insD (T : Tp K mg) : ∀ c b, pDen.lookup c = some b → ∀ C, mg c = some (.ref C) → InsC K C := fun c b h C e => by
  obtain ⟨hc, _⟩ := tab_mem h
  rw [(T.ins hc).1] at e
  cases ref_inj e
  exact (T.ins hc).2.1
theorem Tp.isaL (T : Tp K mg) : ∀ c b, eTrue.lookup c = some b → ∀ C, mg c = some (.ref C) → PySem.W.kitOne K (.ref C) (.ref (He.ga K "LeanError")) = some b ∧ L2.ExcC K C := fun c b h C e => by
  obtain ⟨p, hp, h2⟩ := List.mem_map.mp (PySem.mem_of_lookup h)
  cases h2
  obtain ⟨g, ⟨_, _, x, _⟩, _, k, _⟩ := T.err hp
  rw [g] at e
  cases ref_inj e
  exact ⟨k, x⟩
theorem Tp.isaV (T : Tp K mg) : ∀ c b, eTrue.lookup c = some b → ∀ C, mg c = some (.ref C) → PySem.W.kitOne K (.ref C) (.type "ValueError") = some b ∧ L2.ExcC K C := fun c b h C e => by
  obtain ⟨p, hp, h2⟩ := List.mem_map.mp (PySem.mem_of_lookup h)
  cases h2
  obtain ⟨g, ⟨_, _, x, _⟩, _, _, k⟩ := T.err hp
  rw [g] at e
  cases ref_inj e
  exact ⟨k, x⟩
theorem Tp.isaT (T : Tp K mg) : ∀ c b, eText.lookup c = some b → ∀ C, mg c = some (.ref C) → PySem.W.kitOne K (.ref C) (.ref (He.ga K "BadValue")) = some b ∧ L2.ExcC K C := fun c b h C e => by
  have m := PySem.mem_of_lookup h
  simp only [eText, List.mem_singleton, Prod.mk.injEq] at m
  obtain ⟨rfl, rfl⟩ := m
  obtain ⟨g, ⟨_, _, x, _⟩, _⟩ := T.err (p := ("BadText", 13)) (by decide +kernel)
  have g : mg "BadText" = _ := g
  rw [g] at e
  cases ref_inj e
  exact ⟨of_decide_eq_true (T.test 11), x⟩
end
section
variable {X : Cx}
theorem opE_ok (T : Tp X.K X.mg) (hr : Room 20 X.A) : OpS X (compareOp .Eq) (eqO papers below eqR) := by
  obtain ⟨fd, b, F⟩ := ok_eq (P := X.prog) (w := X.w) (base := X.base) T
  refine op_eqOD (fun x y d => eqR_bl) (fun x y e => eqR_noerr) (fun c hc C e => ?_) (fun c hc C e t ht => ?_) (fun c hc C e c' hc' C' e' => ?_) fun c hc C e => ?_
  · obtain ⟨g, i, n, h1, h2⟩ := T.ins hc
    rw [g] at e
    cases ref_inj e
    exact ⟨_, ⟨_, fd, _, 1, F, hr.mono (by decide), b, h1, h2⟩, fun x y p => by
      show (m_eq x y p).1 = _
      rw [m_eq_eq]
      rfl⟩
  · rw [(T.ins hc).1] at e
    cases ref_inj e
    exact List.all_eq_true.mp (List.all_eq_true.mp (T.test 6) c hc) t ht
  · rw [(T.ins hc).1] at e
    rw [(T.ins hc').1] at e'
    cases ref_inj e
    cases ref_inj e'
    have z := List.all_eq_true.mp (List.all_eq_true.mp (T.test 7) c hc) c' hc'
    split
    · rename_i hb
      rw [if_pos hb] at z
      simp only [Bool.and_eq_true, decide_eq_true_eq] at z
      exact z
    · rename_i hb
      rw [if_neg hb] at z
      exact z
  · rw [(T.ins hc).1] at e
    cases ref_inj e
    exact (T.ins hc).2.1
theorem bool_ok (T : Tp X.K X.mg) (hr : Room 20 X.A) : CallS1 X (.type "bool") (boolO pBool) := by
  obtain ⟨fd1, b1, F1⟩ := ok_b1 (P := X.prog) (w := X.w) (base := X.base) T
  obtain ⟨fd2, b2, F2⟩ := ok_b2 (P := X.prog) (w := X.w) (base := X.base) T
  refine call_boolD fun c b h C e => ?_
  obtain ⟨hc, rfl⟩ := tab_mem h
  rw [(T.ins hc).1] at e
  cases ref_inj e
  obtain ⟨z1, z2⟩ := metB_ok (List.all_eq_true.mp (T.test 3) c hc)
  by_cases hd : c ∈ denials
  · rw [if_pos hd] at z1 z2
    exact ⟨_, ⟨_, fd2, _, 1, F2, hr.mono (by decide), b2, z1, z2⟩, fun x p => by simp [hd]; rfl⟩
  · rw [if_neg hd] at z1 z2
    exact ⟨_, ⟨_, fd1, _, 1, F1, hr.mono (by decide), b1, z1, z2⟩, fun x p => by simp [hd]; rfl⟩
end
end L2.Ly.K02

set_option Elab.async false
set_option linter.all false
set_option maxRecDepth 100000
set_option maxHeartbeats 8000000
/-! K02j (printed by prk02i.py): the law's own def, its mirror and its derivation. -/
namespace L2.Ly.K02
open PySem PySem.Spec PyProof.Rows L2

abbrev dv (d : D) : M D := pure d
abbrev tp (rs : M (List D)) : M D := rs >>= fun xs => pure (.tup xs)
abbrev mk (cn : Str) (m : List (Str × D) → List D → R (List (Str × D))) (rs : M (List D)) : M D := rs >>= fun ds => M.lift (mkD cn m ds)
abbrev mkk (cn : Str) (m : List (Str × D) → List D → R (List (Str × D))) (rs : M (List D)) : M D := rs >>= fun ds => M.lift (mkD cn m ds.reverse)
abbrev mk1 (cn fl : Str) (rs : M (List D)) : M D := rs >>= fun ds => M.lift (mkE1 cn fl ds)
abbrev mk2 (cn fl gl : Str) (rs : M (List D)) : M D := rs >>= fun ds => M.lift (mkE2 cn fl gl ds)
abbrev an (r r' : M D) : M D := r >>= fun x => M.lift (toB x) >>= fun c => if c then r' else pure (.bl false)
abbrev nt (r : M D) : M D := r >>= fun x => M.lift (toB x) >>= fun c => pure (.bl (!c))
abbrev orB (r r' : M Bool) : M Bool := r >>= fun c => if c then pure true else r'
abbrev anB (r r' : M Bool) : M Bool := r >>= fun c => if c then r' else pure false
abbrev ntB (r : M Bool) : M Bool := r >>= fun c => pure (!c)
abbrev tr (r : M D) : M Bool := r >>= fun x => M.lift (truthy x)
abbrev no_ (t : M Bool) (r : M (Out Unit)) : M (Out Unit) := t >>= fun b => if b then (dv (.bl false) >>= fun g => pure (.rt g)) else r
abbrev xPap : List (Str × D) → List D → R (List (Str × D)) := starM 1 (papR 17)

abbrev xRun : List (Str × D) → List D → R (List (Str × D)) := subR 16 "run" (sub2 ["first", "events"])

abbrev xKeeps : List (Str × D) → List D → R (List (Str × D)) := subR 16 "keeps" (sub1 "rows")

abbrev xFalls : List (Str × D) → List D → R (List (Str × D)) := subR 16 "falls" (sub1 "run")

abbrev xFewest : List (Str × D) → List D → R (List (Str × D)) := subR 16 "fewest" (sub2 ["number", "run", "rows"])

abbrev xAgain : List (Str × D) → List D → R (List (Str × D)) := subR 16 "again" (sub1 "rows")

abbrev xNever : List (Str × D) → List D → R (List (Str × D)) := subR 16 "never" (sub2 ["run", "events"])

abbrev xAnswers : List (Str × D) → List D → R (List (Str × D)) := subR 16 "answers" (sub2 ["places", "rows", "falls"])

abbrev xExplained : List (Str × D) → List D → R (List (Str × D)) := subR 16 "explained" (sub1 "run")

abbrev xUnexplained : List (Str × D) → List D → R (List (Str × D)) := subR 16 "unexplained" (sub1 "rows")

abbrev xBorne : List (Str × D) → List D → R (List (Str × D)) := subR 16 "borne" (sub2 ["bears", "breaks"])

abbrev xTogether : List (Str × D) → List D → R (List (Str × D)) := subR 16 "together" (sub2 ["goes", "breaks"])

abbrev xRelies : List (Str × D) → List D → R (List (Str × D)) := subR 16 "relies" (sub2 ["rows", "sketches"])

abbrev xSure : List (Str × D) → List D → R (List (Str × D)) := subR 16 "sure" (sub2 ["records", "papers"])

def innerM (v : D × D × D) (rows : D) (y : D × D × D × D) : M (Out Unit) := no_ (orB (t2 neD (u1 (fldD papers "word") (dv y.1)) (dv y.2.1)) (orB (t2 neD (u1 reprD (u1 (fldD papers "parts") (dv y.1))) (u1 reprD (u1 tupleD (l1 (((dv y.2.2.1) >>= fun x => M.lift (iterItems x)) >>= fun xs => lcM R.ok (fun _ => pure true) (fun v_one => ((dv v_one) >>= fun x => M.c (m_tuples 19 x))) xs))))) (orB (t2 neD (u1 (boolO pBool) (dv y.1)) (dv y.2.2.2)) (orB (ntB (tr (u1 (isaI pTrue false) (dv y.1)))) (t2 eqD (u1 (isaI pDen false) (dv y.1)) (dv y.2.2.2)))))) (no_ (orB (t2 neD (l1 (((dv rows) >>= fun x => M.lift (iterItems x)) >>= fun xs => lcM R.ok (fun v_other => (anB (t2 (eqO papers below eqR) (b2 ixD (dv v_other) (vi 0)) (dv y.1)) (t2 neD (b2 ixD (dv v_other) (vi 1)) (dv y.2.1)))) (fun v_other => (b2 ixD (dv v_other) (vi 1))) xs)) (l1 n0)) (orB (t2 (eqO papers below eqR) (dv y.1) (dv y.2.2.1)) (t2 (eqO papers below eqR) (dv y.1) (dv y.2.1)))) (pure (.nx ())))

def after4 (v : D × D × D) (told : D) : M (Out Unit) := no_ (t2 neD (u1 reprD (l1 (c2 (u1 (fldD papers "rows") (mkk "Keeps" xKeeps (c2 (dv v.1) n0))) (c2 (u1 (fldD papers "run") (mkk "Falls" xFalls (c2 (dv v.1) n0))) (c2 (u1 (fldD papers "rows") (mkk "Again" xAgain (c2 (dv v.1) n0))) (c2 (u1 (fldD papers "run") (mkk "Explained" xExplained (c2 (dv v.1) n0))) (c2 (u1 (fldD papers "rows") (mkk "Unexplained" xUnexplained (c2 (dv v.1) n0))) n0))))))) (u1 reprD (b2 mulD (l1 (c2 (b2 ixD (dv told) (vi 0)) n0)) (vi 5)))) (pure (.nx ()))

def after3 (v : D × D × D) (told : D) : M (Out Unit) := (c2 (mkk "Borne" xBorne (c2 (dv v.2.1) (c2 (dv v.1) n0))) (c2 (mkk "Together" xTogether (c2 (dv v.2.1) (c2 (dv v.1) n0))) (c2 (mkk "Relies" xRelies (c2 (dv v.2.1) (c2 (dv v.1) n0))) n0))) >>= par3 fun d6 d7 d8 => no_ (t2 neD (u1 reprD (l1 (c2 (u1 (fldD papers "bears") (dv d6)) (c2 (u1 (fldD papers "breaks") (dv d6)) (c2 (u1 (fldD papers "goes") (dv d7)) (c2 (u1 (fldD papers "breaks") (dv d7)) (c2 (u1 (fldD papers "rows") (dv d8)) (c2 (u1 (fldD papers "sketches") (dv d8)) n0)))))))) (u1 reprD (b2 mulD (l1 (c2 (b2 ixD (dv told) (vi 0)) (c2 (b2 ixD (dv told) (vi 1)) n0))) (vi 3)))) (after4 v told)

def after2 (v : D × D × D) (told : D) : M (Out Unit) := (c2 (mkk "Never" xNever (c2 (dv v.2.1) (c2 (dv v.1) n0))) (c2 (mkk "Sure" xSure (c2 (dv v.2.1) (c2 (dv v.1) n0))) (c2 (mkk "Answers" xAnswers (c2 (dv v.2.2) (c2 (dv v.2.1) (c2 (dv v.1) n0)))) n0))) >>= par3 fun d3 d4 d5 => no_ (t2 neD (u1 reprD (l1 (c2 (u1 (fldD papers "run") (dv d3)) (c2 (u1 (fldD papers "events") (dv d3)) (c2 (u1 (fldD papers "records") (dv d4)) (c2 (u1 (fldD papers "papers") (dv d4)) (c2 (u1 (fldD papers "places") (dv d5)) (c2 (u1 (fldD papers "rows") (dv d5)) (c2 (u1 (fldD papers "falls") (dv d5)) n0))))))))) (u1 reprD (l1 (c2 (b2 ixD (dv told) (vi 0)) (c2 (b2 ixD (dv told) (vi 1)) (c2 (b2 ixD (dv told) (vi 0)) (c2 (b2 ixD (dv told) (vi 1)) (c2 (b2 ixD (dv told) (vi 0)) (c2 (b2 ixD (dv told) (vi 1)) (c2 (b2 ixD (dv told) (vi 2)) n0)))))))))) (after3 v told)

def after1 (v : D × D × D) (told : D) : M (Out Unit) := (c2 (mkk "Run" xRun (c2 (dv v.2.1) (c2 (dv v.1) n0))) (c2 (mkk "Fewest" xFewest (c2 (dv v.2.2) (c2 (dv v.2.1) (c2 (dv v.1) n0)))) n0)) >>= par2 fun d1 d2 => no_ (t2 neD (u1 reprD (l1 (c2 (u1 (fldD papers "first") (dv d1)) (c2 (u1 (fldD papers "events") (dv d1)) (c2 (u1 (fldD papers "number") (dv d2)) (c2 (u1 (fldD papers "run") (dv d2)) (c2 (u1 (fldD papers "rows") (dv d2)) n0))))))) (u1 reprD (l1 (c2 (b2 ixD (dv told) (vi 0)) (c2 (b2 ixD (dv told) (vi 1)) (c2 (b2 ixD (dv told) (vi 0)) (c2 (b2 ixD (dv told) (vi 1)) (c2 (b2 ixD (dv told) (vi 2)) n0)))))))) (after2 v told)

def afterM (v : D × D × D) : M (Out Unit) := (((tp (c2 (dv v.1) (c2 (dv v.2.1) (c2 (dv v.2.2) n0)))) >>= fun x => M.lift (iterItems x)) >>= fun xs => lcM R.ok (fun _ => pure true) (fun v_one => ((dv v_one) >>= fun x => M.c (m_tuples 19 x))) xs) >>= fun xs => after1 v (.lst xs)

def rowsM (v : D × D × D) : M D := (l1 (c2 (tp (c2 (mk "Keeps" xKeeps (c2 (dv v.1) n0)) (c2 (dv (.str "keeps")) (c2 (tp (c2 (dv v.1) n0)) (c2 (dv (.bl true)) n0))))) (c2 (tp (c2 (mk "Falls" xFalls (c2 (dv v.1) n0)) (c2 (dv (.str "falls")) (c2 (tp (c2 (dv v.1) n0)) (c2 (dv (.bl false)) n0))))) (c2 (tp (c2 (mk "Run" xRun (c2 (dv v.1) (c2 (dv v.2.1) n0))) (c2 (dv (.str "run")) (c2 (tp (c2 (dv v.1) (c2 (dv v.2.1) n0))) (c2 (dv (.bl true)) n0))))) (c2 (tp (c2 (mk "Relies" xRelies (c2 (dv v.1) (c2 (dv v.2.1) n0))) (c2 (dv (.str "relies")) (c2 (tp (c2 (dv v.1) (c2 (dv v.2.1) n0))) (c2 (dv (.bl true)) n0))))) (c2 (tp (c2 (mk "Fewest" xFewest (c2 (dv v.1) (c2 (dv v.2.1) (c2 (dv v.2.2) n0)))) (c2 (dv (.str "fewest")) (c2 (tp (c2 (dv v.1) (c2 (dv v.2.1) (c2 (dv v.2.2) n0)))) (c2 (dv (.bl true)) n0))))) n0)))))) >>= fun rows => (b2 addD (dv rows) (l1 (c2 (tp (c2 (mk "Again" xAgain (c2 (dv v.1) n0)) (c2 (dv (.str "again")) (c2 (tp (c2 (dv v.1) n0)) (c2 (dv (.bl true)) n0))))) (c2 (tp (c2 (mk "Never" xNever (c2 (dv v.1) (c2 (dv v.2.1) n0))) (c2 (dv (.str "never")) (c2 (tp (c2 (dv v.1) (c2 (dv v.2.1) n0))) (c2 (dv (.bl false)) n0))))) (c2 (tp (c2 (mk "Explained" xExplained (c2 (dv v.1) n0)) (c2 (dv (.str "explained")) (c2 (tp (c2 (dv v.1) n0)) (c2 (dv (.bl true)) n0))))) (c2 (tp (c2 (mk "Unexplained" xUnexplained (c2 (dv v.1) n0)) (c2 (dv (.str "unexplained")) (c2 (tp (c2 (dv v.1) n0)) (c2 (dv (.bl false)) n0))))) (c2 (tp (c2 (mk "Sure" xSure (c2 (dv v.1) (c2 (dv v.2.1) n0))) (c2 (dv (.str "sure")) (c2 (tp (c2 (dv v.1) (c2 (dv v.2.1) n0))) (c2 (dv (.bl true)) n0))))) n0))))))) >>= fun rows => (b2 addD (dv rows) (l1 (c2 (tp (c2 (mk "Borne" xBorne (c2 (dv v.1) (c2 (dv v.2.1) n0))) (c2 (dv (.str "borne")) (c2 (tp (c2 (dv v.1) (c2 (dv v.2.1) n0))) (c2 (dv (.bl true)) n0))))) (c2 (tp (c2 (mk "Together" xTogether (c2 (dv v.1) (c2 (dv v.2.1) n0))) (c2 (dv (.str "together")) (c2 (tp (c2 (dv v.1) (c2 (dv v.2.1) n0))) (c2 (dv (.bl true)) n0))))) (c2 (tp (c2 (mk "Answers" xAnswers (c2 (dv v.1) (c2 (dv v.2.1) (c2 (dv v.2.2) n0)))) (c2 (dv (.str "answers")) (c2 (tp (c2 (dv v.1) (c2 (dv v.2.1) (c2 (dv v.2.2) n0)))) (c2 (dv (.bl true)) n0))))) (c2 (tp (c2 (mk "Paper" xPap (c2 (dv (.str "zz")) (c2 (dv v.1) (c2 (dv v.2.1) n0)))) (c2 (dv (.str "zz")) (c2 (tp (c2 (dv v.1) (c2 (dv v.2.1) n0))) (c2 (dv (.bl true)) n0))))) (c2 (tp (c2 (mk "Denial" xPap (c2 (dv (.str "zz")) (c2 (dv v.1) n0))) (c2 (dv (.str "zz")) (c2 (tp (c2 (dv v.1) n0)) (c2 (dv (.bl false)) n0))))) n0)))))))

def turnM : M (Out Unit) := (l1 (((vi 3) >>= fun x => M.lift (rangeD1 x)) >>= fun xs => lcM R.ok (fun _ => pure true) (fun v_at => ((vi 3) >>= fun x => m_any 17 x)) xs)) >>= fun d => (M.lift (un3 d)).q >>= fun v => (l1 (c2 (tp (c2 (mk "Keeps" xKeeps (c2 (dv v.1) n0)) (c2 (dv (.str "keeps")) (c2 (tp (c2 (dv v.1) n0)) (c2 (dv (.bl true)) n0))))) (c2 (tp (c2 (mk "Falls" xFalls (c2 (dv v.1) n0)) (c2 (dv (.str "falls")) (c2 (tp (c2 (dv v.1) n0)) (c2 (dv (.bl false)) n0))))) (c2 (tp (c2 (mk "Run" xRun (c2 (dv v.1) (c2 (dv v.2.1) n0))) (c2 (dv (.str "run")) (c2 (tp (c2 (dv v.1) (c2 (dv v.2.1) n0))) (c2 (dv (.bl true)) n0))))) (c2 (tp (c2 (mk "Relies" xRelies (c2 (dv v.1) (c2 (dv v.2.1) n0))) (c2 (dv (.str "relies")) (c2 (tp (c2 (dv v.1) (c2 (dv v.2.1) n0))) (c2 (dv (.bl true)) n0))))) (c2 (tp (c2 (mk "Fewest" xFewest (c2 (dv v.1) (c2 (dv v.2.1) (c2 (dv v.2.2) n0)))) (c2 (dv (.str "fewest")) (c2 (tp (c2 (dv v.1) (c2 (dv v.2.1) (c2 (dv v.2.2) n0)))) (c2 (dv (.bl true)) n0))))) n0)))))) >>= fun rows => (b2 addD (dv rows) (l1 (c2 (tp (c2 (mk "Again" xAgain (c2 (dv v.1) n0)) (c2 (dv (.str "again")) (c2 (tp (c2 (dv v.1) n0)) (c2 (dv (.bl true)) n0))))) (c2 (tp (c2 (mk "Never" xNever (c2 (dv v.1) (c2 (dv v.2.1) n0))) (c2 (dv (.str "never")) (c2 (tp (c2 (dv v.1) (c2 (dv v.2.1) n0))) (c2 (dv (.bl false)) n0))))) (c2 (tp (c2 (mk "Explained" xExplained (c2 (dv v.1) n0)) (c2 (dv (.str "explained")) (c2 (tp (c2 (dv v.1) n0)) (c2 (dv (.bl true)) n0))))) (c2 (tp (c2 (mk "Unexplained" xUnexplained (c2 (dv v.1) n0)) (c2 (dv (.str "unexplained")) (c2 (tp (c2 (dv v.1) n0)) (c2 (dv (.bl false)) n0))))) (c2 (tp (c2 (mk "Sure" xSure (c2 (dv v.1) (c2 (dv v.2.1) n0))) (c2 (dv (.str "sure")) (c2 (tp (c2 (dv v.1) (c2 (dv v.2.1) n0))) (c2 (dv (.bl true)) n0))))) n0))))))) >>= fun rows => (b2 addD (dv rows) (l1 (c2 (tp (c2 (mk "Borne" xBorne (c2 (dv v.1) (c2 (dv v.2.1) n0))) (c2 (dv (.str "borne")) (c2 (tp (c2 (dv v.1) (c2 (dv v.2.1) n0))) (c2 (dv (.bl true)) n0))))) (c2 (tp (c2 (mk "Together" xTogether (c2 (dv v.1) (c2 (dv v.2.1) n0))) (c2 (dv (.str "together")) (c2 (tp (c2 (dv v.1) (c2 (dv v.2.1) n0))) (c2 (dv (.bl true)) n0))))) (c2 (tp (c2 (mk "Answers" xAnswers (c2 (dv v.1) (c2 (dv v.2.1) (c2 (dv v.2.2) n0)))) (c2 (dv (.str "answers")) (c2 (tp (c2 (dv v.1) (c2 (dv v.2.1) (c2 (dv v.2.2) n0)))) (c2 (dv (.bl true)) n0))))) (c2 (tp (c2 (mk "Paper" xPap (c2 (dv (.str "zz")) (c2 (dv v.1) (c2 (dv v.2.1) n0)))) (c2 (dv (.str "zz")) (c2 (tp (c2 (dv v.1) (c2 (dv v.2.1) n0))) (c2 (dv (.bl true)) n0))))) (c2 (tp (c2 (mk "Denial" xPap (c2 (dv (.str "zz")) (c2 (dv v.1) n0))) (c2 (dv (.str "zz")) (c2 (tp (c2 (dv v.1) n0)) (c2 (dv (.bl false)) n0))))) n0))))))) >>= fun rows => ((dv rows >>= fun x => M.lift (iterItems x)) >>= fun xs => forM un4 (fun (_ : Unit) y => innerM v rows y) xs () >>= Out.k (fun _ => afterM v) Out.rt)

def endM : M D := (l1 (c2 (tp (c2 (mk1 "BadSystem" "part" (c2 (dv (.str "files")) n0)) (c2 (dv (.str "part")) (c2 (dv (.str "files")) n0)))) (c2 (tp (c2 (mk1 "BadValue" "part" (c2 (dv (.str "run")) n0)) (c2 (dv (.str "part")) (c2 (dv (.str "run")) n0)))) (c2 (tp (c2 (mk1 "BadNumber" "part" (c2 (dv (.str "k")) n0)) (c2 (dv (.str "part")) (c2 (dv (.str "k")) n0)))) (c2 (tp (c2 (mk1 "BadPaper" "part" (c2 (dv (.str "x")) n0)) (c2 (dv (.str "part")) (c2 (dv (.str "x")) n0)))) (c2 (tp (c2 (mk1 "Misfit" "part" (c2 (dv (.str "x")) n0)) (c2 (dv (.str "part")) (c2 (dv (.str "x")) n0)))) (c2 (tp (c2 (mk1 "Nothing" "part" (c2 (dv (.str "word")) n0)) (c2 (dv (.str "part")) (c2 (dv (.str "word")) n0)))) n0))))))) >>= fun errors => (t2 neD (l1 (((dv errors) >>= fun x => M.lift (iterItems x)) >>= fun xs => lcM un3 (fun v => (orB (ntB (tr (u1 (isaE eTrue) (dv v.1)))) (orB (ntB (tr (u1 (isaE eTrue) (dv v.1)))) (t2 neD (u1 (fldX errNames "part") (dv v.1)) (dv v.2.2))))) (fun v => (vi 1)) xs)) (l1 n0)) >>= fun b => if b then dv (.bl false) >>= fun g => pure g else (c2 (mk2 "BadText" "line" "word" (c2 (vi 3) (c2 (vi 4) n0))) (c2 (mk2 "TooMany" "what" "most" (c2 (dv (.str "rows")) (c2 (vi 4000) n0))) (c2 (mk1 "BadRun" "at" (c2 (pure .non) n0)) n0))) >>= par3 fun e1 e2 e3 => (an (b2 eqD (tp (c2 (u1 (fldX errNames "line") (dv e1)) (c2 (u1 (fldX errNames "word") (dv e1)) (c2 (u1 (fldX errNames "what") (dv e2)) (c2 (u1 (fldX errNames "most") (dv e2)) (c2 (u1 (fldX errNames "at") (dv e3)) (c2 (u1 (fldX errNames "word") (mk1 "BadCommand" "word" (c2 (vi 2) n0))) (c2 (u1 (fldX errNames "name") (mk1 "NoName" "name" (c2 (dv (.str "x")) n0))) n0)))))))) (tp (c2 (vi 3) (c2 (vi 4) (c2 (dv (.str "rows")) (c2 (vi 4000) (c2 (pure .non) (c2 (vi 2) (c2 (dv (.str "x")) n0))))))))) (nt (u1 (isaE eText) (dv e1))))

def m_law : M D := (vi 4 >>= fun x => M.lift (rangeD1 x)) >>= fun xs => forM R.ok (fun (_ : Unit) (_ : D) => turnM) xs () >>= Out.k (fun _ => endM) fun d => d


abbrev NL : List Str := ["script", "pen", "turn", "a", "b", "c", "rows", "paper", "word", "values", "is_true", "one", "told", "two", "three", "four", "five", "six", "seven", "eight", "errors", "text", "many", "run", "at", "other", "error", "name", "part"]
theorem sc_law : FnScope NL ["script"] (defScope sLaw) := ⟨rfl, rfl, rfl, by decide +kernel, rfl, by decide +kernel, by decide +kernel⟩
def forBody (s : Stmt) : List Stmt := match s with
  | .For (body := b) .. => b
  | _ => []
abbrev sTurn : List Stmt := forBody ((defBody sLaw).getD 1 (.Pass ⟨0, 0, 0, 0⟩))
abbrev sRow : List Stmt := forBody (sTurn.getD 4 (.Pass ⟨0, 0, 0, 0⟩))
abbrev st0 : List LV := .no :: .pen :: List.replicate 27 .no
abbrev stR (v : D × D × D) (r : D) : List LV := [.no, .pen, .no, .d v.1, .d v.2.1, .d v.2.2, .d r, .no, .no, .no, .no, .no, .no, .no, .no, .no, .no, .no, .no, .no, .no, .no, .no, .no, .no, .no, .no, .no, .no]
section
variable {w : World} {K : PySem.W.Frag} {mg : Str → Option Value} {base : Heap}
theorem db_row (T : Tp K mg) {f : Addr} {cdv : Value} {s : Shared} {H : Hp} (hr : Room 20 (callerA.deeper (envOfC "law" (defScope sLaw) s.heap.objs.size f cdv))) (hgd : (callerA.deeper (envOfC "law" (defScope sLaw) s.heap.objs.size f cdv)).guards = some []) (G : Gam K mg) (tk : Takes (cxOf (L2.CX PySem.Challenge.pw_leanon_k02_papers_and_errors w) PySem.Challenge.pw_leanon_k02_papers_and_errors w K mg base NL "law" (defScope sLaw) f cdv callerA [] s H (fun _ _ _ => False)) G.W) (v : D × D × D) (rows : D) (y : D × D × D × D) : DB (cxOf (L2.CX PySem.Challenge.pw_leanon_k02_papers_and_errors w) PySem.Challenge.pw_leanon_k02_papers_and_errors w K mg base NL "law" (defScope sLaw) f cdv callerA [] s H (fun _ _ _ => False)) G [.no, .pen, .no, .d v.1, .d v.2.1, .d v.2.2, .d rows, .d y.1, .d y.2.1, .d y.2.2.1, .d y.2.2.2, .no, .no, .no, .no, .no, .no, .no, .no, .no, .no, .no, .no, .no, .no, .no, .no, .no, .no] sRow (innerM v rows y) (outF fun _ => stR v rows) := by
  have fRepr := T.fr "repr" (by decide +kernel)
  have fTuple := T.fr "tuple" (by decide +kernel)
  have fBool := T.fr "bool" (by decide +kernel)
  have fIsi := T.fr "isinstance" (by decide +kernel)
  have fRange := T.fr "range" (by decide +kernel)
  have fVE := T.fr "ValueError" (by decide +kernel)
  obtain ⟨fdt, gtuples, ktuples, btuples, Ftuples⟩ := ok_tuples (P := PySem.Challenge.pw_leanon_k02_papers_and_errors) (w := w) (base := base) T
  obtain ⟨fda, gany, kany, bany, Fany⟩ := ok_any (P := PySem.Challenge.pw_leanon_k02_papers_and_errors) (w := w) (base := base) T
  have gPaper := T.gl "Paper" (by decide +kernel)
  have gDenial := T.gl "Denial" (by decide +kernel)
  have hu : (callerA.deeper (envOfC "law" (defScope sLaw) s.heap.objs.size f cdv)).units + 200 < cLine := by
    have := hr.un
    omega
  have ND := sc_law.nd
  unfold innerM
  refine db_ifR (J := Fl.rt) (j := Out.rt) ?_ (db_retD dx_bl) noNx_rt (fun _ => rfl) ?_
  · exact (dxw_b (dxw_or (dxb_cmp (op_neP hu) (dx_fld (cs := papers) (T.fldP (by decide +kernel)) (dx_var (pv 7))) (dx_var (pv 8)) rfl) (dxw_or (dxb_cmp (op_neP hu) (dx_callB (call_reprD hu hgd) rfl fRepr rfl (dx_fld (cs := papers) (T.fldP (by decide +kernel)) (dx_var (pv 7)))) (dx_callB (call_reprD hu hgd) rfl fRepr rfl (dx_callTy call_tupleP rfl fTuple rfl (dx_f (dxf_lc1 (i := 11) rfl ND (dxi_any (dx_var (pv 9))) (by kernel_rfl) (by intro lv e; cases e; rfl) rfl rfl (fun v_one H0 fr s H C cl fp => dxt_nil) (fun v_one H0 fr s H C cl fp => (dx_call_d takes0 (Ftuples 19) hr rfl gtuples ktuples btuples (dx_var (pv 11)))))))) rfl) (dxw_or (dxb_cmp (op_neP hu) (dx_callTy (bool_ok T hr) rfl fBool rfl (dx_var (pv 7))) (dx_var (pv 10)) rfl) (dxw_or (dxb_not (dxb_truth (dx_isaO (cs := pTrue) (pl := false) rfl fIsi (dx_var (pv 7)) (pe_glob (v := .ref (He.ga K "Paper")) rfl gPaper rfl) (.own _) T.isaP T.insP (fun z => by cases z)))) (dxw_or1 (dxb_cmp (op_eqP hu) (dx_isaO (cs := pDen) (pl := false) rfl fIsi (dx_var (pv 7)) (pe_glob (v := .ref (He.ga K "Denial")) rfl gDenial rfl) (.own _) T.isaD T.insD (fun z => by cases z)) (dx_var (pv 10)) rfl)))))))
  · refine db_ifR (J := Fl.rt) (j := Out.rt) ?_ (db_retD dx_bl) noNx_rt (fun _ => rfl) (db_nilW rfl (by repeat first | exact .nil | refine .eq ?_ | refine .no ?_))
    exact (dxw_b (dxw_or (dxb_cmp (op_neP hu) (dx_f (dxf_lc1 (i := 25) rfl ND (dxi_any (dx_var (pv 6))) (by kernel_rfl) (by intro lv e; cases e; rfl) rfl rfl (fun v_other H0 fr s H C cl fp => dxt_one (dxw_b (dxw_and (dxb_cmp (opE_ok T hr) (dx_ix (dx_var (pv 25)) dx_int) (dx_var (pv 7)) rfl) (dxw_and1 (dxb_cmp (op_neP hu) (dx_ix (dx_var (pv 25)) dx_int) (dx_var (pv 8)) rfl))))) (fun v_other H0 fr s H C cl fp => (dx_ix (dx_var (pv 25)) dx_int)))) (dx_f (dxf_lst dxa_nil)) rfl) (dxw_or (dxb_cmp (opE_ok T hr) (dx_var (pv 7)) (dx_var (pv 9)) rfl) (dxw_or1 (dxb_cmp (opE_ok T hr) (dx_var (pv 7)) (dx_var (pv 8)) rfl)))))


theorem db_after (T : Tp K mg) {f : Addr} {cdv : Value} {s : Shared} {H : Hp} (hr : Room 20 (callerA.deeper (envOfC "law" (defScope sLaw) s.heap.objs.size f cdv))) (hgd : (callerA.deeper (envOfC "law" (defScope sLaw) s.heap.objs.size f cdv)).guards = some []) (G : Gam K mg) (tk : Takes (cxOf (L2.CX PySem.Challenge.pw_leanon_k02_papers_and_errors w) PySem.Challenge.pw_leanon_k02_papers_and_errors w K mg base NL "law" (defScope sLaw) f cdv callerA [] s H (fun _ _ _ => False)) G.W) (v : D × D × D) (rows : D) : DB (cxOf (L2.CX PySem.Challenge.pw_leanon_k02_papers_and_errors w) PySem.Challenge.pw_leanon_k02_papers_and_errors w K mg base NL "law" (defScope sLaw) f cdv callerA [] s H (fun _ _ _ => False)) G (stR v rows) (sTurn.drop 5) (afterM v) (outF fun _ => st0) := by
  obtain ⟨fdRun, bRun, kRun, FRun⟩ := ok_Run (w := w) (base := base) T 16
  have gRun := T.gl "Run" (by decide +kernel)
  have mRun := (T.sub (p := ("Run", 18)) (by decide +kernel)).1
  have nRun := ne_sub2 16 "run" ["first", "events"]
  obtain ⟨fdKeeps, bKeeps, kKeeps, FKeeps⟩ := ok_Keeps (w := w) (base := base) T 16
  have gKeeps := T.gl "Keeps" (by decide +kernel)
  have mKeeps := (T.sub (p := ("Keeps", 20)) (by decide +kernel)).1
  have nKeeps := ne_sub1 16 "keeps" "rows"
  obtain ⟨fdFalls, bFalls, kFalls, FFalls⟩ := ok_Falls (w := w) (base := base) T 16
  have gFalls := T.gl "Falls" (by decide +kernel)
  have mFalls := (T.sub (p := ("Falls", 21)) (by decide +kernel)).1
  have nFalls := ne_sub1 16 "falls" "run"
  obtain ⟨fdFewest, bFewest, kFewest, FFewest⟩ := ok_Fewest (w := w) (base := base) T 16
  have gFewest := T.gl "Fewest" (by decide +kernel)
  have mFewest := (T.sub (p := ("Fewest", 23)) (by decide +kernel)).1
  have nFewest := ne_sub2 16 "fewest" ["number", "run", "rows"]
  obtain ⟨fdAgain, bAgain, kAgain, FAgain⟩ := ok_Again (w := w) (base := base) T 16
  have gAgain := T.gl "Again" (by decide +kernel)
  have mAgain := (T.sub (p := ("Again", 25)) (by decide +kernel)).1
  have nAgain := ne_sub1 16 "again" "rows"
  obtain ⟨fdNever, bNever, kNever, FNever⟩ := ok_Never (w := w) (base := base) T 16
  have gNever := T.gl "Never" (by decide +kernel)
  have mNever := (T.sub (p := ("Never", 26)) (by decide +kernel)).1
  have nNever := ne_sub2 16 "never" ["run", "events"]
  obtain ⟨fdAnswers, bAnswers, kAnswers, FAnswers⟩ := ok_Answers (w := w) (base := base) T 16
  have gAnswers := T.gl "Answers" (by decide +kernel)
  have mAnswers := (T.sub (p := ("Answers", 28)) (by decide +kernel)).1
  have nAnswers := ne_sub2 16 "answers" ["places", "rows", "falls"]
  obtain ⟨fdExplained, bExplained, kExplained, FExplained⟩ := ok_Explained (w := w) (base := base) T 16
  have gExplained := T.gl "Explained" (by decide +kernel)
  have mExplained := (T.sub (p := ("Explained", 30)) (by decide +kernel)).1
  have nExplained := ne_sub1 16 "explained" "run"
  obtain ⟨fdUnexplained, bUnexplained, kUnexplained, FUnexplained⟩ := ok_Unexplained (w := w) (base := base) T 16
  have gUnexplained := T.gl "Unexplained" (by decide +kernel)
  have mUnexplained := (T.sub (p := ("Unexplained", 31)) (by decide +kernel)).1
  have nUnexplained := ne_sub1 16 "unexplained" "rows"
  obtain ⟨fdBorne, bBorne, kBorne, FBorne⟩ := ok_Borne (w := w) (base := base) T 16
  have gBorne := T.gl "Borne" (by decide +kernel)
  have mBorne := (T.sub (p := ("Borne", 33)) (by decide +kernel)).1
  have nBorne := ne_sub2 16 "borne" ["bears", "breaks"]
  obtain ⟨fdTogether, bTogether, kTogether, FTogether⟩ := ok_Together (w := w) (base := base) T 16
  have gTogether := T.gl "Together" (by decide +kernel)
  have mTogether := (T.sub (p := ("Together", 34)) (by decide +kernel)).1
  have nTogether := ne_sub2 16 "together" ["goes", "breaks"]
  obtain ⟨fdRelies, bRelies, kRelies, FRelies⟩ := ok_Relies (w := w) (base := base) T 16
  have gRelies := T.gl "Relies" (by decide +kernel)
  have mRelies := (T.sub (p := ("Relies", 36)) (by decide +kernel)).1
  have nRelies := ne_sub2 16 "relies" ["rows", "sketches"]
  obtain ⟨fdSure, bSure, kSure, FSure⟩ := ok_Sure (w := w) (base := base) T 16
  have gSure := T.gl "Sure" (by decide +kernel)
  have mSure := (T.sub (p := ("Sure", 38)) (by decide +kernel)).1
  have nSure := ne_sub2 16 "sure" ["records", "papers"]
  have FPaper := ok_paper (P := PySem.Challenge.pw_leanon_k02_papers_and_errors) (w := w) (base := base) T (c := "Paper") (by decide +kernel) 17
  have gPaper := T.gl "Paper" (by decide +kernel)
  have mPaper := T.papF.1
  have FDenial := ok_paper (P := PySem.Challenge.pw_leanon_k02_papers_and_errors) (w := w) (base := base) T (c := "Denial") (by decide +kernel) 17
  have gDenial := T.gl "Denial" (by decide +kernel)
  have mDenial := T.papF.2.1
  have nPap : ∀ ds e, xPap [] ds ≠ .err e := fun ds e => ne_star 17 _ _ e
  have fRepr := T.fr "repr" (by decide +kernel)
  have fTuple := T.fr "tuple" (by decide +kernel)
  have fBool := T.fr "bool" (by decide +kernel)
  have fIsi := T.fr "isinstance" (by decide +kernel)
  have fRange := T.fr "range" (by decide +kernel)
  have fVE := T.fr "ValueError" (by decide +kernel)
  obtain ⟨fdt, gtuples, ktuples, btuples, Ftuples⟩ := ok_tuples (P := PySem.Challenge.pw_leanon_k02_papers_and_errors) (w := w) (base := base) T
  obtain ⟨fda, gany, kany, bany, Fany⟩ := ok_any (P := PySem.Challenge.pw_leanon_k02_papers_and_errors) (w := w) (base := base) T
  have hu : (callerA.deeper (envOfC "law" (defScope sLaw) s.heap.objs.size f cdv)).units + 200 < cLine := by
    have := hr.un
    omega
  have ND := sc_law.nd
  unfold afterM
  refine db_setT (i := 12) (rr := fun told => after1 v told) ?_ fun told => ?_
  · exact (ps_lc1 (i := 11) (j := 12) rfl ND rfl rfl (dxi_any (dx_tup (dxa_cons (dx_var (pv 3)) (dxa_cons (dx_var (pv 4)) (dxa_cons (dx_var (pv 5)) dxa_nil))))) (by kernel_rfl) (by intro lv e; cases e; rfl) rfl rfl (fun v_one H0 fr s H C cl fp => dxt_nil) (fun v_one H0 fr s H C cl fp => (dx_call_d takes0 (Ftuples 19) hr rfl gtuples ktuples btuples (dx_var (pv 11)))) rfl)
  unfold after1
  refine db_par2 (i := 11) (j := 13) rfl ND rfl rfl (by decide) rfl rfl ?_ (fun d1 d2 => ?_) rfl
  · exact (dxa_cons (dx_makeK mRun FRun nRun hr rfl gRun kRun (dxk_cons (dx_var (pv 4)) (dxk_cons (dx_var (pv 3)) dxk_nil))) (dxa_cons (dx_makeK mFewest FFewest nFewest hr rfl gFewest kFewest (dxk_cons (dx_var (pv 5)) (dxk_cons (dx_var (pv 4)) (dxk_cons (dx_var (pv 3)) dxk_nil)))) dxa_nil))
  refine db_ifR (J := Fl.rt) (j := Out.rt) ?_ (db_retD dx_bl) noNx_rt (fun _ => rfl) ?_
  · exact (dxb_cmp (op_neP hu) (dx_callB (call_reprD hu hgd) rfl fRepr rfl (dx_f (dxf_lst (dxa_cons (dx_fld (cs := papers) (T.fldP (by decide +kernel)) (dx_var (pv 11))) (dxa_cons (dx_fld (cs := papers) (T.fldP (by decide +kernel)) (dx_var (pv 11))) (dxa_cons (dx_fld (cs := papers) (T.fldP (by decide +kernel)) (dx_var (pv 13))) (dxa_cons (dx_fld (cs := papers) (T.fldP (by decide +kernel)) (dx_var (pv 13))) (dxa_cons (dx_fld (cs := papers) (T.fldP (by decide +kernel)) (dx_var (pv 13))) dxa_nil)))))))) (dx_callB (call_reprD hu hgd) rfl fRepr rfl (dx_f (dxf_lst (dxa_cons (dx_ix (dx_var (pv 12)) dx_int) (dxa_cons (dx_ix (dx_var (pv 12)) dx_int) (dxa_cons (dx_ix (dx_var (pv 12)) dx_int) (dxa_cons (dx_ix (dx_var (pv 12)) dx_int) (dxa_cons (dx_ix (dx_var (pv 12)) dx_int) dxa_nil)))))))) rfl)
  unfold after2
  refine db_par3 (i := 14) (j := 15) (l := 16) rfl ND rfl rfl rfl (by decide) (by decide) (by decide) rfl rfl rfl ?_ (fun d1 d2 d3 => ?_) rfl
  · exact (dxa_cons (dx_makeK mNever FNever nNever hr rfl gNever kNever (dxk_cons (dx_var (pv 4)) (dxk_cons (dx_var (pv 3)) dxk_nil))) (dxa_cons (dx_makeK mSure FSure nSure hr rfl gSure kSure (dxk_cons (dx_var (pv 4)) (dxk_cons (dx_var (pv 3)) dxk_nil))) (dxa_cons (dx_makeK mAnswers FAnswers nAnswers hr rfl gAnswers kAnswers (dxk_cons (dx_var (pv 5)) (dxk_cons (dx_var (pv 4)) (dxk_cons (dx_var (pv 3)) dxk_nil)))) dxa_nil)))
  refine db_ifR (J := Fl.rt) (j := Out.rt) ?_ (db_retD dx_bl) noNx_rt (fun _ => rfl) ?_
  · exact (dxb_cmp (op_neP hu) (dx_callB (call_reprD hu hgd) rfl fRepr rfl (dx_f (dxf_lst (dxa_cons (dx_fld (cs := papers) (T.fldP (by decide +kernel)) (dx_var (pv 14))) (dxa_cons (dx_fld (cs := papers) (T.fldP (by decide +kernel)) (dx_var (pv 14))) (dxa_cons (dx_fld (cs := papers) (T.fldP (by decide +kernel)) (dx_var (pv 15))) (dxa_cons (dx_fld (cs := papers) (T.fldP (by decide +kernel)) (dx_var (pv 15))) (dxa_cons (dx_fld (cs := papers) (T.fldP (by decide +kernel)) (dx_var (pv 16))) (dxa_cons (dx_fld (cs := papers) (T.fldP (by decide +kernel)) (dx_var (pv 16))) (dxa_cons (dx_fld (cs := papers) (T.fldP (by decide +kernel)) (dx_var (pv 16))) dxa_nil)))))))))) (dx_callB (call_reprD hu hgd) rfl fRepr rfl (dx_f (dxf_lst (dxa_cons (dx_ix (dx_var (pv 12)) dx_int) (dxa_cons (dx_ix (dx_var (pv 12)) dx_int) (dxa_cons (dx_ix (dx_var (pv 12)) dx_int) (dxa_cons (dx_ix (dx_var (pv 12)) dx_int) (dxa_cons (dx_ix (dx_var (pv 12)) dx_int) (dxa_cons (dx_ix (dx_var (pv 12)) dx_int) (dxa_cons (dx_ix (dx_var (pv 12)) dx_int) dxa_nil)))))))))) rfl)
  unfold after3
  refine db_par3 (i := 17) (j := 18) (l := 19) rfl ND rfl rfl rfl (by decide) (by decide) (by decide) rfl rfl rfl ?_ (fun d1 d2 d3 => ?_) rfl
  · exact (dxa_cons (dx_makeK mBorne FBorne nBorne hr rfl gBorne kBorne (dxk_cons (dx_var (pv 4)) (dxk_cons (dx_var (pv 3)) dxk_nil))) (dxa_cons (dx_makeK mTogether FTogether nTogether hr rfl gTogether kTogether (dxk_cons (dx_var (pv 4)) (dxk_cons (dx_var (pv 3)) dxk_nil))) (dxa_cons (dx_makeK mRelies FRelies nRelies hr rfl gRelies kRelies (dxk_cons (dx_var (pv 4)) (dxk_cons (dx_var (pv 3)) dxk_nil))) dxa_nil)))
  refine db_ifR (J := Fl.rt) (j := Out.rt) ?_ (db_retD dx_bl) noNx_rt (fun _ => rfl) ?_
  · exact (dxb_cmp (op_neP hu) (dx_callB (call_reprD hu hgd) rfl fRepr rfl (dx_f (dxf_lst (dxa_cons (dx_fld (cs := papers) (T.fldP (by decide +kernel)) (dx_var (pv 17))) (dxa_cons (dx_fld (cs := papers) (T.fldP (by decide +kernel)) (dx_var (pv 17))) (dxa_cons (dx_fld (cs := papers) (T.fldP (by decide +kernel)) (dx_var (pv 18))) (dxa_cons (dx_fld (cs := papers) (T.fldP (by decide +kernel)) (dx_var (pv 18))) (dxa_cons (dx_fld (cs := papers) (T.fldP (by decide +kernel)) (dx_var (pv 19))) (dxa_cons (dx_fld (cs := papers) (T.fldP (by decide +kernel)) (dx_var (pv 19))) dxa_nil))))))))) (dx_callB (call_reprD hu hgd) rfl fRepr rfl (dx_op op_mulP (dx_f (dxf_lst (dxa_cons (dx_ix (dx_var (pv 12)) dx_int) (dxa_cons (dx_ix (dx_var (pv 12)) dx_int) dxa_nil)))) dx_int)) rfl)
  unfold after4
  refine db_ifR (J := Fl.rt) (j := Out.rt) ?_ (db_retD dx_bl) noNx_rt (fun _ => rfl) ?_
  · exact (dxb_cmp (op_neP hu) (dx_callB (call_reprD hu hgd) rfl fRepr rfl (dx_f (dxf_lst (dxa_cons (dx_fld (cs := papers) (T.fldP (by decide +kernel)) (dx_makeK mKeeps FKeeps nKeeps hr rfl gKeeps kKeeps (dxk_cons (dx_var (pv 3)) dxk_nil))) (dxa_cons (dx_fld (cs := papers) (T.fldP (by decide +kernel)) (dx_makeK mFalls FFalls nFalls hr rfl gFalls kFalls (dxk_cons (dx_var (pv 3)) dxk_nil))) (dxa_cons (dx_fld (cs := papers) (T.fldP (by decide +kernel)) (dx_makeK mAgain FAgain nAgain hr rfl gAgain kAgain (dxk_cons (dx_var (pv 3)) dxk_nil))) (dxa_cons (dx_fld (cs := papers) (T.fldP (by decide +kernel)) (dx_makeK mExplained FExplained nExplained hr rfl gExplained kExplained (dxk_cons (dx_var (pv 3)) dxk_nil))) (dxa_cons (dx_fld (cs := papers) (T.fldP (by decide +kernel)) (dx_makeK mUnexplained FUnexplained nUnexplained hr rfl gUnexplained kUnexplained (dxk_cons (dx_var (pv 3)) dxk_nil))) dxa_nil)))))))) (dx_callB (call_reprD hu hgd) rfl fRepr rfl (dx_op op_mulP (dx_f (dxf_lst (dxa_cons (dx_ix (dx_var (pv 12)) dx_int) dxa_nil))) dx_int)) rfl)
  exact db_nilW rfl (by repeat first | exact .nil | refine .eq ?_ | refine .no ?_)
theorem db_turn (T : Tp K mg) {f : Addr} {cdv : Value} {s : Shared} {H : Hp} (hr : Room 20 (callerA.deeper (envOfC "law" (defScope sLaw) s.heap.objs.size f cdv))) (hgd : (callerA.deeper (envOfC "law" (defScope sLaw) s.heap.objs.size f cdv)).guards = some []) (G : Gam K mg) (tk : Takes (cxOf (L2.CX PySem.Challenge.pw_leanon_k02_papers_and_errors w) PySem.Challenge.pw_leanon_k02_papers_and_errors w K mg base NL "law" (defScope sLaw) f cdv callerA [] s H (fun _ _ _ => False)) G.W) (turn : D) : DB (cxOf (L2.CX PySem.Challenge.pw_leanon_k02_papers_and_errors w) PySem.Challenge.pw_leanon_k02_papers_and_errors w K mg base NL "law" (defScope sLaw) f cdv callerA [] s H (fun _ _ _ => False)) G [.no, .pen, .d turn, .no, .no, .no, .no, .no, .no, .no, .no, .no, .no, .no, .no, .no, .no, .no, .no, .no, .no, .no, .no, .no, .no, .no, .no, .no, .no] sTurn turnM (outF fun _ => st0) := by
  obtain ⟨fdRun, bRun, kRun, FRun⟩ := ok_Run (w := w) (base := base) T 16
  have gRun := T.gl "Run" (by decide +kernel)
  have mRun := (T.sub (p := ("Run", 18)) (by decide +kernel)).1
  have nRun := ne_sub2 16 "run" ["first", "events"]
  obtain ⟨fdKeeps, bKeeps, kKeeps, FKeeps⟩ := ok_Keeps (w := w) (base := base) T 16
  have gKeeps := T.gl "Keeps" (by decide +kernel)
  have mKeeps := (T.sub (p := ("Keeps", 20)) (by decide +kernel)).1
  have nKeeps := ne_sub1 16 "keeps" "rows"
  obtain ⟨fdFalls, bFalls, kFalls, FFalls⟩ := ok_Falls (w := w) (base := base) T 16
  have gFalls := T.gl "Falls" (by decide +kernel)
  have mFalls := (T.sub (p := ("Falls", 21)) (by decide +kernel)).1
  have nFalls := ne_sub1 16 "falls" "run"
  obtain ⟨fdFewest, bFewest, kFewest, FFewest⟩ := ok_Fewest (w := w) (base := base) T 16
  have gFewest := T.gl "Fewest" (by decide +kernel)
  have mFewest := (T.sub (p := ("Fewest", 23)) (by decide +kernel)).1
  have nFewest := ne_sub2 16 "fewest" ["number", "run", "rows"]
  obtain ⟨fdAgain, bAgain, kAgain, FAgain⟩ := ok_Again (w := w) (base := base) T 16
  have gAgain := T.gl "Again" (by decide +kernel)
  have mAgain := (T.sub (p := ("Again", 25)) (by decide +kernel)).1
  have nAgain := ne_sub1 16 "again" "rows"
  obtain ⟨fdNever, bNever, kNever, FNever⟩ := ok_Never (w := w) (base := base) T 16
  have gNever := T.gl "Never" (by decide +kernel)
  have mNever := (T.sub (p := ("Never", 26)) (by decide +kernel)).1
  have nNever := ne_sub2 16 "never" ["run", "events"]
  obtain ⟨fdAnswers, bAnswers, kAnswers, FAnswers⟩ := ok_Answers (w := w) (base := base) T 16
  have gAnswers := T.gl "Answers" (by decide +kernel)
  have mAnswers := (T.sub (p := ("Answers", 28)) (by decide +kernel)).1
  have nAnswers := ne_sub2 16 "answers" ["places", "rows", "falls"]
  obtain ⟨fdExplained, bExplained, kExplained, FExplained⟩ := ok_Explained (w := w) (base := base) T 16
  have gExplained := T.gl "Explained" (by decide +kernel)
  have mExplained := (T.sub (p := ("Explained", 30)) (by decide +kernel)).1
  have nExplained := ne_sub1 16 "explained" "run"
  obtain ⟨fdUnexplained, bUnexplained, kUnexplained, FUnexplained⟩ := ok_Unexplained (w := w) (base := base) T 16
  have gUnexplained := T.gl "Unexplained" (by decide +kernel)
  have mUnexplained := (T.sub (p := ("Unexplained", 31)) (by decide +kernel)).1
  have nUnexplained := ne_sub1 16 "unexplained" "rows"
  obtain ⟨fdBorne, bBorne, kBorne, FBorne⟩ := ok_Borne (w := w) (base := base) T 16
  have gBorne := T.gl "Borne" (by decide +kernel)
  have mBorne := (T.sub (p := ("Borne", 33)) (by decide +kernel)).1
  have nBorne := ne_sub2 16 "borne" ["bears", "breaks"]
  obtain ⟨fdTogether, bTogether, kTogether, FTogether⟩ := ok_Together (w := w) (base := base) T 16
  have gTogether := T.gl "Together" (by decide +kernel)
  have mTogether := (T.sub (p := ("Together", 34)) (by decide +kernel)).1
  have nTogether := ne_sub2 16 "together" ["goes", "breaks"]
  obtain ⟨fdRelies, bRelies, kRelies, FRelies⟩ := ok_Relies (w := w) (base := base) T 16
  have gRelies := T.gl "Relies" (by decide +kernel)
  have mRelies := (T.sub (p := ("Relies", 36)) (by decide +kernel)).1
  have nRelies := ne_sub2 16 "relies" ["rows", "sketches"]
  obtain ⟨fdSure, bSure, kSure, FSure⟩ := ok_Sure (w := w) (base := base) T 16
  have gSure := T.gl "Sure" (by decide +kernel)
  have mSure := (T.sub (p := ("Sure", 38)) (by decide +kernel)).1
  have nSure := ne_sub2 16 "sure" ["records", "papers"]
  have FPaper := ok_paper (P := PySem.Challenge.pw_leanon_k02_papers_and_errors) (w := w) (base := base) T (c := "Paper") (by decide +kernel) 17
  have gPaper := T.gl "Paper" (by decide +kernel)
  have mPaper := T.papF.1
  have FDenial := ok_paper (P := PySem.Challenge.pw_leanon_k02_papers_and_errors) (w := w) (base := base) T (c := "Denial") (by decide +kernel) 17
  have gDenial := T.gl "Denial" (by decide +kernel)
  have mDenial := T.papF.2.1
  have nPap : ∀ ds e, xPap [] ds ≠ .err e := fun ds e => ne_star 17 _ _ e
  have fRepr := T.fr "repr" (by decide +kernel)
  have fTuple := T.fr "tuple" (by decide +kernel)
  have fBool := T.fr "bool" (by decide +kernel)
  have fIsi := T.fr "isinstance" (by decide +kernel)
  have fRange := T.fr "range" (by decide +kernel)
  have fVE := T.fr "ValueError" (by decide +kernel)
  obtain ⟨fdt, gtuples, ktuples, btuples, Ftuples⟩ := ok_tuples (P := PySem.Challenge.pw_leanon_k02_papers_and_errors) (w := w) (base := base) T
  obtain ⟨fda, gany, kany, bany, Fany⟩ := ok_any (P := PySem.Challenge.pw_leanon_k02_papers_and_errors) (w := w) (base := base) T
  have hu : (callerA.deeper (envOfC "law" (defScope sLaw) s.heap.objs.size f cdv)).units + 200 < cLine := by
    have := hr.un
    omega
  have ND := sc_law.nd
  unfold turnM
  refine db_asg (vs := [3, 4, 5]) ?_ (dg_un3 rfl (pgs_cons (pg_name (i := 3) ND rfl (by first | exact .inl rfl | exact .inr (.inl rfl) | exact .inr rfl)) (pgs_cons (pg_name (i := 4) ND rfl (by first | exact .inl rfl | exact .inr (.inl rfl) | exact .inr rfl)) (pgs_cons (pg_name (i := 5) ND rfl (by first | exact .inl rfl | exact .inr (.inl rfl) | exact .inr rfl)) pgs_nil)))) (fun v => ?_)
  · exact (dx_f (dxf_lc1 (i := 24) rfl ND (dxi_range1 rfl fRange dx_int) (by kernel_rfl) (by intro lv e; cases e; rfl) rfl rfl (fun v_at H0 fr s H C cl fp => dxt_nil) (fun v_at H0 fr s H C cl fp => (dx_call_pd (pv 1) takes0 (Fany 17) hr rfl gany kany bany dx_int))))
  refine db_set (i := 6) ND rfl (.inl rfl) ?_ fun rows1 => ?_
  · exact (dx_f (dxf_lst (dxa_cons (dx_tup (dxa_cons (dx_make mKeeps FKeeps nKeeps hr rfl gKeeps bKeeps (dxa_cons (dx_var (pv 3)) dxa_nil)) (dxa_cons dx_str (dxa_cons (dx_tup (dxa_cons (dx_var (pv 3)) dxa_nil)) (dxa_cons dx_bl dxa_nil))))) (dxa_cons (dx_tup (dxa_cons (dx_make mFalls FFalls nFalls hr rfl gFalls bFalls (dxa_cons (dx_var (pv 3)) dxa_nil)) (dxa_cons dx_str (dxa_cons (dx_tup (dxa_cons (dx_var (pv 3)) dxa_nil)) (dxa_cons dx_bl dxa_nil))))) (dxa_cons (dx_tup (dxa_cons (dx_make mRun FRun nRun hr rfl gRun bRun (dxa_cons (dx_var (pv 3)) (dxa_cons (dx_var (pv 4)) dxa_nil))) (dxa_cons dx_str (dxa_cons (dx_tup (dxa_cons (dx_var (pv 3)) (dxa_cons (dx_var (pv 4)) dxa_nil))) (dxa_cons dx_bl dxa_nil))))) (dxa_cons (dx_tup (dxa_cons (dx_make mRelies FRelies nRelies hr rfl gRelies bRelies (dxa_cons (dx_var (pv 3)) (dxa_cons (dx_var (pv 4)) dxa_nil))) (dxa_cons dx_str (dxa_cons (dx_tup (dxa_cons (dx_var (pv 3)) (dxa_cons (dx_var (pv 4)) dxa_nil))) (dxa_cons dx_bl dxa_nil))))) (dxa_cons (dx_tup (dxa_cons (dx_make mFewest FFewest nFewest hr rfl gFewest bFewest (dxa_cons (dx_var (pv 3)) (dxa_cons (dx_var (pv 4)) (dxa_cons (dx_var (pv 5)) dxa_nil)))) (dxa_cons dx_str (dxa_cons (dx_tup (dxa_cons (dx_var (pv 3)) (dxa_cons (dx_var (pv 4)) (dxa_cons (dx_var (pv 5)) dxa_nil)))) (dxa_cons dx_bl dxa_nil))))) dxa_nil)))))))
  refine db_set (i := 6) ND rfl (.inl rfl) ?_ fun rows2 => ?_
  · exact (dx_op op_addP (dx_var (pv 6)) (dx_f (dxf_lst (dxa_cons (dx_tup (dxa_cons (dx_make mAgain FAgain nAgain hr rfl gAgain bAgain (dxa_cons (dx_var (pv 3)) dxa_nil)) (dxa_cons dx_str (dxa_cons (dx_tup (dxa_cons (dx_var (pv 3)) dxa_nil)) (dxa_cons dx_bl dxa_nil))))) (dxa_cons (dx_tup (dxa_cons (dx_make mNever FNever nNever hr rfl gNever bNever (dxa_cons (dx_var (pv 3)) (dxa_cons (dx_var (pv 4)) dxa_nil))) (dxa_cons dx_str (dxa_cons (dx_tup (dxa_cons (dx_var (pv 3)) (dxa_cons (dx_var (pv 4)) dxa_nil))) (dxa_cons dx_bl dxa_nil))))) (dxa_cons (dx_tup (dxa_cons (dx_make mExplained FExplained nExplained hr rfl gExplained bExplained (dxa_cons (dx_var (pv 3)) dxa_nil)) (dxa_cons dx_str (dxa_cons (dx_tup (dxa_cons (dx_var (pv 3)) dxa_nil)) (dxa_cons dx_bl dxa_nil))))) (dxa_cons (dx_tup (dxa_cons (dx_make mUnexplained FUnexplained nUnexplained hr rfl gUnexplained bUnexplained (dxa_cons (dx_var (pv 3)) dxa_nil)) (dxa_cons dx_str (dxa_cons (dx_tup (dxa_cons (dx_var (pv 3)) dxa_nil)) (dxa_cons dx_bl dxa_nil))))) (dxa_cons (dx_tup (dxa_cons (dx_make mSure FSure nSure hr rfl gSure bSure (dxa_cons (dx_var (pv 3)) (dxa_cons (dx_var (pv 4)) dxa_nil))) (dxa_cons dx_str (dxa_cons (dx_tup (dxa_cons (dx_var (pv 3)) (dxa_cons (dx_var (pv 4)) dxa_nil))) (dxa_cons dx_bl dxa_nil))))) dxa_nil))))))))
  refine db_set (i := 6) ND rfl (.inl rfl) ?_ fun rows => ?_
  · exact (dx_op op_addP (dx_var (pv 6)) (dx_f (dxf_lst (dxa_cons (dx_tup (dxa_cons (dx_make mBorne FBorne nBorne hr rfl gBorne bBorne (dxa_cons (dx_var (pv 3)) (dxa_cons (dx_var (pv 4)) dxa_nil))) (dxa_cons dx_str (dxa_cons (dx_tup (dxa_cons (dx_var (pv 3)) (dxa_cons (dx_var (pv 4)) dxa_nil))) (dxa_cons dx_bl dxa_nil))))) (dxa_cons (dx_tup (dxa_cons (dx_make mTogether FTogether nTogether hr rfl gTogether bTogether (dxa_cons (dx_var (pv 3)) (dxa_cons (dx_var (pv 4)) dxa_nil))) (dxa_cons dx_str (dxa_cons (dx_tup (dxa_cons (dx_var (pv 3)) (dxa_cons (dx_var (pv 4)) dxa_nil))) (dxa_cons dx_bl dxa_nil))))) (dxa_cons (dx_tup (dxa_cons (dx_make mAnswers FAnswers nAnswers hr rfl gAnswers bAnswers (dxa_cons (dx_var (pv 3)) (dxa_cons (dx_var (pv 4)) (dxa_cons (dx_var (pv 5)) dxa_nil)))) (dxa_cons dx_str (dxa_cons (dx_tup (dxa_cons (dx_var (pv 3)) (dxa_cons (dx_var (pv 4)) (dxa_cons (dx_var (pv 5)) dxa_nil)))) (dxa_cons dx_bl dxa_nil))))) (dxa_cons (dx_tup (dxa_cons (dx_makeR mPaper FPaper nPap hr rfl gPaper (dxa_cons dx_str (dxa_cons (dx_var (pv 3)) (dxa_cons (dx_var (pv 4)) dxa_nil)))) (dxa_cons dx_str (dxa_cons (dx_tup (dxa_cons (dx_var (pv 3)) (dxa_cons (dx_var (pv 4)) dxa_nil))) (dxa_cons dx_bl dxa_nil))))) (dxa_cons (dx_tup (dxa_cons (dx_makeR mDenial FDenial nPap hr rfl gDenial (dxa_cons dx_str (dxa_cons (dx_var (pv 3)) dxa_nil))) (dxa_cons dx_str (dxa_cons (dx_tup (dxa_cons (dx_var (pv 3)) dxa_nil)) (dxa_cons dx_bl dxa_nil))))) dxa_nil))))))))
  refine db_less (η' := stR v rows) (by repeat first | exact .nil | refine .eq ?_ | refine .no ?_) ?_
  exact db_forK (s := fun (_ : Unit) => stR v rows) (a0 := ()) (vs := [7, 8, 9, 10]) (st := fun (_ : Unit) (y : D × D × D × D) => [.no, .pen, .no, .d v.1, .d v.2.1, .d v.2.2, .d rows, .d y.1, .d y.2.1, .d y.2.2.1, .d y.2.2.2, .no, .no, .no, .no, .no, .no, .no, .no, .no, .no, .no, .no, .no, .no, .no, .no, .no, .no]) (passes_of rfl) rfl (dxi_any (dx_var (pv 6))) rfl (fun _ => dg_un4 rfl (pgs_cons (pg_name (i := 7) ND rfl (by first | exact .inl rfl | exact .inr (.inl rfl) | exact .inr rfl)) (pgs_cons (pg_name (i := 8) ND rfl (by first | exact .inl rfl | exact .inr (.inl rfl) | exact .inr rfl)) (pgs_cons (pg_name (i := 9) ND rfl (by first | exact .inl rfl | exact .inr (.inl rfl) | exact .inr rfl)) (pgs_cons (pg_name (i := 10) ND rfl (by first | exact .inl rfl | exact .inr (.inl rfl) | exact .inr rfl)) pgs_nil))))) (fun _ y => db_row T hr hgd G tk v rows y) (fun _ => db_after T hr hgd G tk v rows) (fun _ => rfl)
end
end L2.Ly.K02

set_option Elab.async false
set_option linter.all false
set_option maxRecDepth 100000
set_option maxHeartbeats 8000000
/-! K02k (printed by prk02i.py): the law's end, the whole of it. -/
namespace L2.Ly.K02
open PySem PySem.Spec PyProof.Rows L2
section
variable {w : World} {K : PySem.W.Frag} {mg : Str → Option Value} {base : Heap}
theorem db_end (T : Tp K mg) {f : Addr} {cdv : Value} {s : Shared} {H : Hp} (hr : Room 20 (callerA.deeper (envOfC "law" (defScope sLaw) s.heap.objs.size f cdv))) (hgd : (callerA.deeper (envOfC "law" (defScope sLaw) s.heap.objs.size f cdv)).guards = some []) (G : Gam K mg) (tk : Takes (cxOf (L2.CX PySem.Challenge.pw_leanon_k02_papers_and_errors w) PySem.Challenge.pw_leanon_k02_papers_and_errors w K mg base NL "law" (defScope sLaw) f cdv callerA [] s H (fun _ _ _ => False)) G.W) : DB (cxOf (L2.CX PySem.Challenge.pw_leanon_k02_papers_and_errors w) PySem.Challenge.pw_leanon_k02_papers_and_errors w K mg base NL "law" (defScope sLaw) f cdv callerA [] s H (fun _ _ _ => False)) G st0 ((defBody sLaw).drop 2) endM Fl.rt := by
  have fRepr := T.fr "repr" (by decide +kernel)
  have fTuple := T.fr "tuple" (by decide +kernel)
  have fBool := T.fr "bool" (by decide +kernel)
  have fIsi := T.fr "isinstance" (by decide +kernel)
  have fRange := T.fr "range" (by decide +kernel)
  have fVE := T.fr "ValueError" (by decide +kernel)
  obtain ⟨fdBadSystem, bBadSystem, FBadSystem⟩ := ok_BadSystem (w := w) (base := base) T
  obtain ⟨gBadSystem, ⟨xBadSystem, _, _, iBadSystem, tBadSystem⟩, _⟩ := T.err (p := ("BadSystem", 6)) (by decide +kernel)
  have mBadSystem := xBadSystem.T
  obtain ⟨fdBadValue, bBadValue, FBadValue⟩ := ok_BadValue (w := w) (base := base) T
  obtain ⟨gBadValue, ⟨xBadValue, _, _, iBadValue, tBadValue⟩, _⟩ := T.err (p := ("BadValue", 7)) (by decide +kernel)
  have mBadValue := xBadValue.T
  obtain ⟨fdBadNumber, bBadNumber, FBadNumber⟩ := ok_BadNumber (w := w) (base := base) T
  obtain ⟨gBadNumber, ⟨xBadNumber, _, _, iBadNumber, tBadNumber⟩, _⟩ := T.err (p := ("BadNumber", 8)) (by decide +kernel)
  have mBadNumber := xBadNumber.T
  obtain ⟨fdBadPaper, bBadPaper, FBadPaper⟩ := ok_BadPaper (w := w) (base := base) T
  obtain ⟨gBadPaper, ⟨xBadPaper, _, _, iBadPaper, tBadPaper⟩, _⟩ := T.err (p := ("BadPaper", 9)) (by decide +kernel)
  have mBadPaper := xBadPaper.T
  obtain ⟨fdMisfit, bMisfit, FMisfit⟩ := ok_Misfit (w := w) (base := base) T
  obtain ⟨gMisfit, ⟨xMisfit, _, _, iMisfit, tMisfit⟩, _⟩ := T.err (p := ("Misfit", 10)) (by decide +kernel)
  have mMisfit := xMisfit.T
  obtain ⟨fdNothing, bNothing, FNothing⟩ := ok_Nothing (w := w) (base := base) T
  obtain ⟨gNothing, ⟨xNothing, _, _, iNothing, tNothing⟩, _⟩ := T.err (p := ("Nothing", 11)) (by decide +kernel)
  have mNothing := xNothing.T
  obtain ⟨fdBadRun, bBadRun, FBadRun⟩ := ok_BadRun (w := w) (base := base) T
  obtain ⟨gBadRun, ⟨xBadRun, _, _, iBadRun, tBadRun⟩, _⟩ := T.err (p := ("BadRun", 12)) (by decide +kernel)
  have mBadRun := xBadRun.T
  obtain ⟨fdBadCommand, bBadCommand, FBadCommand⟩ := ok_BadCommand (w := w) (base := base) T
  obtain ⟨gBadCommand, ⟨xBadCommand, _, _, iBadCommand, tBadCommand⟩, _⟩ := T.err (p := ("BadCommand", 14)) (by decide +kernel)
  have mBadCommand := xBadCommand.T
  obtain ⟨fdNoName, bNoName, FNoName⟩ := ok_NoName (w := w) (base := base) T
  obtain ⟨gNoName, ⟨xNoName, _, _, iNoName, tNoName⟩, _⟩ := T.err (p := ("NoName", 15)) (by decide +kernel)
  have mNoName := xNoName.T
  obtain ⟨fdBadText, bBadText, FBadText⟩ := ok_BadText (w := w) (base := base) T
  obtain ⟨gBadText, ⟨xBadText, _, _, iBadText, tBadText⟩, _⟩ := T.err (p := ("BadText", 13)) (by decide +kernel)
  have mBadText := xBadText.T
  obtain ⟨fdTooMany, bTooMany, FTooMany⟩ := ok_TooMany (w := w) (base := base) T
  obtain ⟨gTooMany, ⟨xTooMany, _, _, iTooMany, tTooMany⟩, _⟩ := T.err (p := ("TooMany", 16)) (by decide +kernel)
  have mTooMany := xTooMany.T
  have gLE := T.gl "LeanError" (by decide +kernel)
  have hLeanError := T.isaL
  have hValueError := T.isaV
  have hBadValue := T.isaT
  have hu : (callerA.deeper (envOfC "law" (defScope sLaw) s.heap.objs.size f cdv)).units + 200 < cLine := by
    have := hr.un
    omega
  have ND := sc_law.nd
  have hr2 : Room 2 (callerA.deeper (envOfC "law" (defScope sLaw) s.heap.objs.size f cdv)) := hr.mono (by decide)
  unfold endM
  refine db_set (i := 20) ND rfl (.inl rfl) ?_ fun errors => ?_
  · exact (dx_f (dxf_lst (dxa_cons (dx_tup (dxa_cons (dx_mkE1 mBadSystem iBadSystem tBadSystem FBadSystem hr2 bBadSystem rfl gBadSystem (dxa_cons dx_str dxa_nil)) (dxa_cons dx_str (dxa_cons dx_str dxa_nil)))) (dxa_cons (dx_tup (dxa_cons (dx_mkE1 mBadValue iBadValue tBadValue FBadValue hr2 bBadValue rfl gBadValue (dxa_cons dx_str dxa_nil)) (dxa_cons dx_str (dxa_cons dx_str dxa_nil)))) (dxa_cons (dx_tup (dxa_cons (dx_mkE1 mBadNumber iBadNumber tBadNumber FBadNumber hr2 bBadNumber rfl gBadNumber (dxa_cons dx_str dxa_nil)) (dxa_cons dx_str (dxa_cons dx_str dxa_nil)))) (dxa_cons (dx_tup (dxa_cons (dx_mkE1 mBadPaper iBadPaper tBadPaper FBadPaper hr2 bBadPaper rfl gBadPaper (dxa_cons dx_str dxa_nil)) (dxa_cons dx_str (dxa_cons dx_str dxa_nil)))) (dxa_cons (dx_tup (dxa_cons (dx_mkE1 mMisfit iMisfit tMisfit FMisfit hr2 bMisfit rfl gMisfit (dxa_cons dx_str dxa_nil)) (dxa_cons dx_str (dxa_cons dx_str dxa_nil)))) (dxa_cons (dx_tup (dxa_cons (dx_mkE1 mNothing iNothing tNothing FNothing hr2 bNothing rfl gNothing (dxa_cons dx_str dxa_nil)) (dxa_cons dx_str (dxa_cons dx_str dxa_nil)))) dxa_nil))))))))
  refine db_ifR (J := Fl.rt) (j := fun g => g) ?_ (db_retD dx_bl) noNx_rt (fun _ => rfl) ?_
  · exact (dxb_cmp (op_neP hu) (dx_f (dxf_lc (own := [("error", 26), ("name", 27), ("part", 28)]) (u := un3) (st := fun v => [.no, .pen, .no, .no, .no, .no, .no, .no, .no, .no, .no, .no, .no, .no, .no, .no, .no, .no, .no, .no, .d errors, .no, .no, .no, .no, .no, .d v.1, .d v.2.1, .d v.2.2]) rfl ND (dxi_any (dx_var (pv 20))) (blkOk_by (by kernel_rfl)) (by intro j hj lv e; simp at hj; rcases hj with rfl | rfl | rfl <;> (cases e; rfl)) (fun a => rfl) (fun H0 fr s H C cl fp => dg_un3 rfl (pgs_cons (pg_name (i := 26) ND rfl (by first | exact .inl rfl | exact .inr (.inl rfl) | exact .inr rfl)) (pgs_cons (pg_name (i := 27) ND rfl (by first | exact .inl rfl | exact .inr (.inl rfl) | exact .inr rfl)) (pgs_cons (pg_name (i := 28) ND rfl (by first | exact .inl rfl | exact .inr (.inl rfl) | exact .inr rfl)) pgs_nil)))) (fun v H0 fr s H C cl fp => dxt_one (dxw_b (dxw_or (dxb_not (dxb_truth (dx_isaX (cs := eTrue) rfl fIsi (dx_var (pv 26)) (pe_glob (v := .ref (He.ga K "LeanError")) rfl gLE rfl) (.own _) hLeanError))) (dxw_or (dxb_not (dxb_truth (dx_isaX (cs := eTrue) rfl fIsi (dx_var (pv 26)) (pe_bltn (v := .ty "ValueError") (u := .type "ValueError") rfl fVE rfl rfl) (.ty _) hValueError))) (dxw_or1 (dxb_cmp (op_neP hu) (dx_fldX (cs := errNames) (T.fldE (by decide +kernel)) (dx_var (pv 26))) (dx_var (pv 28)) rfl)))))) (fun v H0 fr s H C cl fp => dx_int))) (dx_f (dxf_lst dxa_nil)) rfl)
  refine db_par3 (i := 21) (j := 22) (l := 23) rfl ND rfl rfl rfl (by decide) (by decide) (by decide) rfl rfl rfl ?_ (fun d1 d2 d3 => ?_) rfl
  · exact (dxa_cons (dx_mkE2 mBadText iBadText tBadText FBadText hr2 bBadText rfl gBadText (dxa_cons dx_int (dxa_cons dx_int dxa_nil))) (dxa_cons (dx_mkE2 mTooMany iTooMany tTooMany FTooMany hr2 bTooMany rfl gTooMany (dxa_cons dx_str (dxa_cons dx_int dxa_nil))) (dxa_cons (dx_mkE1 mBadRun iBadRun tBadRun FBadRun hr2 bBadRun rfl gBadRun (dxa_cons dx_non dxa_nil)) dxa_nil)))
  exact db_retD (dx_and (dx_cmp (op_eqP hu) (dx_tup (dxa_cons (dx_fldX (cs := errNames) (T.fldE (by decide +kernel)) (dx_var (pv 21))) (dxa_cons (dx_fldX (cs := errNames) (T.fldE (by decide +kernel)) (dx_var (pv 21))) (dxa_cons (dx_fldX (cs := errNames) (T.fldE (by decide +kernel)) (dx_var (pv 22))) (dxa_cons (dx_fldX (cs := errNames) (T.fldE (by decide +kernel)) (dx_var (pv 22))) (dxa_cons (dx_fldX (cs := errNames) (T.fldE (by decide +kernel)) (dx_var (pv 23))) (dxa_cons (dx_fldX (cs := errNames) (T.fldE (by decide +kernel)) (dx_mkE1 mBadCommand iBadCommand tBadCommand FBadCommand hr2 bBadCommand rfl gBadCommand (dxa_cons dx_int dxa_nil))) (dxa_cons (dx_fldX (cs := errNames) (T.fldE (by decide +kernel)) (dx_mkE1 mNoName iNoName tNoName FNoName hr2 bNoName rfl gNoName (dxa_cons dx_str dxa_nil))) dxa_nil)))))))) (dx_tup (dxa_cons dx_int (dxa_cons dx_int (dxa_cons dx_str (dxa_cons dx_int (dxa_cons dx_non (dxa_cons dx_int (dxa_cons dx_str dxa_nil)))))))) rfl) (dx_one (dx_not (dx_isaX (cs := eText) rfl fIsi (dx_var (pv 21)) (pe_glob (v := .ref (He.ga K "BadValue")) rfl gBadValue rfl) (.own _) hBadValue))))
theorem db_law (T : Tp K mg) {f : Addr} {cdv : Value} {s : Shared} {H : Hp} (hr : Room 20 (callerA.deeper (envOfC "law" (defScope sLaw) s.heap.objs.size f cdv))) (hgd : (callerA.deeper (envOfC "law" (defScope sLaw) s.heap.objs.size f cdv)).guards = some []) (G : Gam K mg) (tk : Takes (cxOf (L2.CX PySem.Challenge.pw_leanon_k02_papers_and_errors w) PySem.Challenge.pw_leanon_k02_papers_and_errors w K mg base NL "law" (defScope sLaw) f cdv callerA [] s H (fun _ _ _ => False)) G.W) : DB (cxOf (L2.CX PySem.Challenge.pw_leanon_k02_papers_and_errors w) PySem.Challenge.pw_leanon_k02_papers_and_errors w K mg base NL "law" (defScope sLaw) f cdv callerA [] s H (fun _ _ _ => False)) G st0 ((defBody sLaw).drop 1) m_law Fl.rt := by
  have ND := sc_law.nd
  have fRange := T.fr "range" (by decide +kernel)
  unfold m_law
  exact db_forK (s := fun (_ : Unit) => st0) (a0 := ()) (vs := [2]) (st := fun (_ : Unit) (d : D) => [.no, .pen, .d d, .no, .no, .no, .no, .no, .no, .no, .no, .no, .no, .no, .no, .no, .no, .no, .no, .no, .no, .no, .no, .no, .no, .no, .no, .no, .no]) (passes_of rfl) rfl (dxi_range1 rfl fRange dx_int) rfl (fun _ => dg_name (pg_name (i := 2) ND rfl (.inl rfl)) (by simp)) (fun _ d => db_turn T hr hgd G tk d) (fun _ => db_end T hr hgd G tk) (fun _ => rfl)
end
end L2.Ly.K02

set_option Elab.async false
set_option linter.all false
set_option maxRecDepth 100000
set_option maxHeartbeats 0
/-! K02r: the top's run. -/
namespace L2.Ly.K02
open PySem PySem.Spec PyProof.Rows L2

theorem run (w : World) : HandSHeadRun.RunEq Rw (PySem.W.view Rw.prog [45]) hk ob 20000 loose w := by
  intro os
  kernel_rfl
end L2.Ly.K02

set_option Elab.async false
set_option linter.all false
set_option maxRecDepth 100000
set_option maxHeartbeats 1600000
/-! K02l: the law, if its mirror says True. -/
namespace L2.Ly.K02
open PySem PySem.Spec PyProof.Rows L2
theorem tp_of {K : PySem.W.Frag} {h : Heap} {mg : Str → Option Value} (X : K.In h) (G : h.Ns mainGlobals mg) (c : SaysL fa fn fs ex K) : Tp K mg :=
  ⟨c, fun x hx => He.glo_ok X G (c.d.facts (by
    unfold fa
    exact List.mem_append_left _ (List.mem_map_of_mem hx))), fun x hx => He.free_ok X G (c.d.facts (by
    unfold fa
    exact List.mem_append_right _ (List.mem_map_of_mem hx)))⟩
theorem runs {w : World} {K : PySem.W.Frag} {mg : Str → Option Value} (T : Tp K mg) (hm : ∀ ns : List Int, ns.length ≤ 63 → (m_law ⟨ns, 0, 0⟩).1 = .ok (.bl true)) (a : Addr) (ns : List Int) (s : Shared) (hl : ns.length ≤ 63) :
    LawRun PySem.Challenge.pw_leanon_k02_papers_and_errors w K mg (He.ga K "law") a ns s := by
  intro base H e0 hs
  obtain ⟨fd, FD⟩ := T.c.d.def_ 10 (d := mkD_ "law" sLaw) rfl
  have F : Fun K "law" "law" sLaw (He.ga K "law") fd := Fun.ofD FD
  obtain ⟨fdP, kP, bP, FP⟩ := ok_pen (P := PySem.Challenge.pw_leanon_k02_papers_and_errors) (w := w) (base := base) T
  have b := FunD.bindsA (ps := ["script"]) FD fun _ _ _ _ _ _ us hl => match us, hl with | [_], _ => rfl
  exact law_at (k := 20) F sc_law rfl rfl ⟨rfl, by decide, by decide⟩ (by first | exact .inl rfl | exact .inr (.inl rfl) | exact .inr rfl) rfl (FP 19) (T.gl "_law_pen" (by decide +kernel)) kP bP (fun s v => b s [v] rfl)
    (fun cdv s H hr hgd G tk => db_law T hr hgd G tk) e0 hs hl (hm ns hl)
end L2.Ly.K02

set_option Elab.async false
set_option linter.all false
set_option maxRecDepth 100000
set_option maxHeartbeats 1600000
/-! K02m: the row, if the mirror says True. -/
open PySem PySem.W PySem.Calls PyProof.Rows
theorem L2.Ly.K02.holds_of (hm : ∀ ns : List Int, ns.length ≤ 63 → (L2.Ly.K02.m_law ⟨ns, 0, 0⟩).1 = .ok (.bl true)) : PySem.Challenge.rw_leanon_k02_papers_and_errors.Holds := by
  w_on; o_law
  refine HandSHeadRun.head_any (r := OpenLaw.row PySem.Challenge.rw_leanon_k02_papers_and_errors) (q := view (OpenLaw.row PySem.Challenge.rw_leanon_k02_papers_and_errors).prog [45]) (H := L2.Ly.K02.hk) (ob := L2.Ly.K02.ob) (M := 20000) (loose := L2.Ly.K02.loose) (d := HandSHeadRun.topDef (OpenLaw.row PySem.Challenge.rw_leanon_k02_papers_and_errors).prog 45) (kwd := []) L2.Ly.K02.ob_eq
    (by kernel_rfl) (fun s => by kernel_rfl) L2.Ly.K02.run (by kernel_rfl) (by kernel_rfl) (by kernel_rfl) (by rfl) (by first | assumption | decide +kernel) (by decide +kernel) ⟨rfl, rfl, rfl, rfl, rfl, by decide +kernel⟩ ?hw ?hc
  case hw => w_witness2
  case hc =>
    refine L2.Ly.walk_law (l := PySem.Challenge.rw_leanon_k02_papers_and_errors) rfl (by kernel_rfl) ?F
    intro w mg fa h Y G hmg0
    obtain ⟨K, KX, c⟩ := Y
    have hmg : mg ("law" : PySem.Str) = some (.ref fa) := by
      have e : (HandSHeadRun.topDef (OpenLaw.row PySem.Challenge.rw_leanon_k02_papers_and_errors).prog 45).name = ("law" : PySem.Str) := by kernel_rfl
      rw [← e]
      exact hmg0
    have T := L2.Ly.K02.tp_of KX G c
    have e := hmg.symm.trans (T.gl "law" (by decide +kernel))
    cases e
    exact ⟨K, KX, fun a ns s hl => L2.Ly.K02.runs T hm a ns s hl⟩

set_option Elab.async false
set_option linter.all false
set_option maxRecDepth 100000
set_option maxHeartbeats 1600000
/-! K02n: the plain law: tuples in plain words; what the pen draws. -/
namespace L2.Ly.K02
open PySem PySem.Spec PyProof.Rows L2

theorem m_tuples_fixed : ∀ (n : Nat) (v : D), m_tuples n v = m_fixed n v
  | 0, _ => rfl
  | n + 1, v => by
    have ih : (fun a : D => (pure a : M D) >>= fun x1 => M.c (m_tuples n x1)) = fun a => (pure a : M D) >>= fun x1 => M.c (m_fixed n x1) := by
      funext a
      show M.c (m_tuples n a) = M.c (m_fixed n a)
      rw [m_tuples_fixed n a]
    unfold m_tuples m_fixed
    rw [← ih]
theorem m_tuples_eq (n : Nat) (v : D) : m_tuples n v = M.lift (fixR n v) := (m_tuples_fixed n v).trans (m_fixed_eq n v)
/-- data that a law may draw: none, bool, whole number, text, tuple, list of such, of this depth at most -/
def Okd : Nat → D → Prop
  | _, .non => True
  | _, .bl _ => True
  | _, .int _ => True
  | _, .str _ => True
  | n + 1, .tup xs => ∀ x ∈ xs, Okd n x
  | n + 1, .lst xs => ∀ x ∈ xs, Okd n x
  | _, _ => False
/-- lists become tuples, all through -/
def fixP : Nat → D → D
  | n + 1, .tup xs => .tup (xs.map (fixP n))
  | n + 1, .lst xs => .tup (xs.map (fixP n))
  | _, d => d
theorem fixR_ok : ∀ (n : Nat) (d : D), Okd n d → fixR (n + 1) d = .ok (fixP n d)
  | 0, .non, _ => rfl
  | 0, .bl _, _ => rfl
  | 0, .int _, _ => rfl
  | 0, .str _, _ => rfl
  | n + 1, .non, _ => rfl
  | n + 1, .bl _, _ => rfl
  | n + 1, .int _, _ => rfl
  | n + 1, .str _, _ => rfl
  | n + 1, .tup xs, h => by
    show (mapR (fixR (n + 1)) xs >>= fun ys => R.ok (D.tup ys)) = _
    rw [mapR_ok (g := fixP n) fun x hx => fixR_ok n x (h x hx)]
    rfl
  | n + 1, .lst xs, h => by
    show (mapR (fixR (n + 1)) xs >>= fun ys => R.ok (D.tup ys)) = _
    rw [mapR_ok (g := fixP n) fun x hx => fixR_ok n x (h x hx)]
    rfl
theorem Okd.up : ∀ (n : Nat) (d : D), Okd n d → Okd (n + 1) d
  | 0, .non, _ => trivial
  | 0, .bl _, _ => trivial
  | 0, .int _, _ => trivial
  | 0, .str _, _ => trivial
  | n + 1, .non, _ => trivial
  | n + 1, .bl _, _ => trivial
  | n + 1, .int _, _ => trivial
  | n + 1, .str _, _ => trivial
  | n + 1, .tup xs, h => fun x hx => Okd.up n x (h x hx)
  | n + 1, .lst xs, h => fun x hx => Okd.up n x (h x hx)
theorem fixP_up : ∀ (n : Nat) (d : D), Okd n d → fixP (n + 1) d = fixP n d
  | 0, .non, _ => rfl
  | 0, .bl _, _ => rfl
  | 0, .int _, _ => rfl
  | 0, .str _, _ => rfl
  | n + 1, .non, _ => rfl
  | n + 1, .bl _, _ => rfl
  | n + 1, .int _, _ => rfl
  | n + 1, .str _, _ => rfl
  | n + 1, .tup xs, h => by
    show D.tup (xs.map (fixP (n + 1))) = D.tup (xs.map (fixP n))
    rw [List.map_congr_left fun x hx => fixP_up n x (h x hx)]
  | n + 1, .lst xs, h => by
    show D.tup (xs.map (fixP (n + 1))) = D.tup (xs.map (fixP n))
    rw [List.map_congr_left fun x hx => fixP_up n x (h x hx)]
/-- at any higher count of steps -/
theorem fixR_at : ∀ (k n : Nat) (d : D), Okd n d → fixR (n + k + 1) d = .ok (fixP n d)
  | 0, n, d, h => fixR_ok n d h
  | k + 1, n, d, h => by
    have z := fixR_at k (n + 1) d (Okd.up n d h)
    rw [fixP_up n d h, show n + 1 + k + 1 = n + (k + 1) + 1 by omega] at z
    exact z
end L2.Ly.K02

set_option Elab.async false
set_option linter.all false
set_option maxRecDepth 100000
set_option maxHeartbeats 1600000
/-! K02o: what the pen draws. -/
namespace L2.Ly.K02
open PySem PySem.Spec PyProof.Rows L2

/-- the pen has not gone far -/
structure Near (p q : Pen) (k : Int) : Prop where
  cells : q.cells = p.cells
  lo : p.pos ≤ q.pos
  hi : q.pos ≤ p.pos + k
theorem m_draw_rest (p : Pen) (many : Int) (h1 : 0 < many) (h2 : many < 1073741824) (hr : 0 < p.rest) : m_draw (.int many) p = (.ok (.int (p.rest % many)), { p with rest := p.rest / many }) := by
  unfold m_draw
  simp only [M.bind_def, penRest, M.lift_def, M.pure_def, gtD, R.ok_bind, toB, truthy, intD, fdivD, modD, setRest, decide_eq_true hr, h1, h2, and_self, if_true, decide_true]
theorem mix1 {cell a : Int} (ha : 0 ≤ a) (hb : a ≤ 4194304) : (cell % 2147483549 + 93083 * a + 4087).natAbs < 2 ^ 64 := by
  have h1 := Int.emod_nonneg cell (b := 2147483549) (by decide)
  have h2 := Int.emod_lt_of_pos cell (b := 2147483549) (by decide)
  omega
theorem mixA {cell a : Int} (ha : 0 ≤ a) (hb : a ≤ 4194304) (q : Pen) : (b2 modD (u1 intD (b2 powD (b2 addD (b2 addD (b2 modD (u1 intD (pure (.int cell))) (vi 2147483549)) (b2 mulD (vi 93083) (pure (.int a)))) (vi 4087)) (vi 5))) (vi 2147483563)) q = (.ok (.int ((cell % 2147483549 + 93083 * a + 4087) ^ 5 % 2147483563)), q) := by
  have h := mix1 (cell := cell) ha hb
  simp only [M.bind_def, M.lift_def, M.pure_def, intD, modD, mulD, addD, powD, R.ok_bind, if_true, if_pos, h, show (0 : Int) < 2147483549 by decide, show (0 : Int) < 2147483563 by decide, show (-(2 ^ 64) : Int) < 93083 ∧ (93083 : Int) < 2 ^ 64 by decide, show (0 : Int) ≤ 5 by decide, show (5 : Int) ≤ 1000000 by decide, and_self]
  rfl
theorem mix2 {m a : Int} (ha : 0 ≤ a) (hb : a ≤ 4194304) (hm : 0 ≤ m) (hm2 : m < 2147483563) : (m * (2 * a + 4087) + 63989 * a * a + 93083).natAbs < 2 ^ 64 := by
  have h1 : 0 ≤ m * (2 * a + 4087) := Int.mul_nonneg hm (by omega)
  have h2 : m * (2 * a + 4087) ≤ 2147483563 * (2 * 4194304 + 4087) := Int.mul_le_mul (by omega) (by omega) (by omega) (by omega)
  have h3 : 0 ≤ 63989 * a * a := Int.mul_nonneg (by omega) ha
  have h4 : 63989 * a * a ≤ (63989 * 4194304) * 4194304 := Int.mul_le_mul (by omega) (by omega) (by omega) (by omega)
  generalize m * (2 * a + 4087) = x at *
  generalize 63989 * a * a = y at *
  omega
theorem mixB {m a : Int} (ha : 0 ≤ a) (hb : a ≤ 4194304) (hm : 0 ≤ m) (hm2 : m < 2147483563) (q : Pen) : (b2 modD (u1 intD (b2 powD (b2 addD (b2 addD (b2 mulD (pure (.int m)) (b2 addD (b2 mulD (vi 2) (pure (.int a))) (vi 4087))) (b2 mulD (b2 mulD (vi 63989) (pure (.int a))) (pure (.int a)))) (vi 93083)) (vi 3))) (vi 2147483587)) q = (.ok (.int ((m * (2 * a + 4087) + 63989 * a * a + 93083) ^ 3 % 2147483587)), q) := by
  have h := mix2 ha hb hm hm2
  simp only [M.bind_def, M.lift_def, M.pure_def, intD, modD, mulD, addD, powD, R.ok_bind, if_true, if_pos, h, show (0 : Int) < 2147483587 by decide, show (-(2 ^ 64) : Int) < 2 ∧ (2 : Int) < 2 ^ 64 by decide, show (-(2 ^ 64) : Int) < 63989 ∧ (63989 : Int) < 2 ^ 64 by decide, show -(2 ^ 64) < m ∧ m < 2 ^ 64 by omega, show -(2 ^ 64) < 63989 * a ∧ 63989 * a < 2 ^ 64 by omega, show (0 : Int) ≤ 3 by decide, show (3 : Int) ≤ 1000000 by decide, and_self]
  rfl
theorem m_drawT_ok {many cell a : Int} (q : Pen) (h1 : 0 < many) (h2 : many < 1073741824) (ha : 0 ≤ a) (hb : a ≤ 4194304) :
    ∃ r q', m_drawT (.int many) (.int a) (.int cell) q = (.ok (.int r), q') ∧ 0 ≤ r ∧ r < many ∧ q'.cells = q.cells ∧ q'.pos = q.pos := by
  have hc : ∃ b, (t2 ltD (pure (.int a)) (u1 lenD penCells) >>= fun c => if c then t2 geD (u1 absD (pure (.int cell))) (b2 powD (vi 10) (vi 18)) else pure false) q = (.ok b, q) := by
    by_cases hl : a < (q.cells.map D.int).length
    · exact ⟨decide ((10 : Int) ^ 18 ≤ if cell < 0 then -cell else cell), by
        simp only [M.bind_def, M.lift_def, M.pure_def, penCells, lenD, ltD, geD, absD, powD, R.ok_bind, toB, truthy, decide_eq_true hl, if_true, if_pos, show (0 : Int) ≤ 18 by decide, show (18 : Int) ≤ 1000000 by decide, show (10 : Int).natAbs < 2 ^ 64 by decide, and_self]
        rfl⟩
    · exact ⟨false, by
        simp only [M.bind_def, M.lift_def, M.pure_def, penCells, lenD, ltD, R.ok_bind, toB, truthy, decide_eq_false hl]
        rfl⟩
  obtain ⟨b, hc⟩ := hc
  unfold m_drawT
  rw [M.bind_def, hc]
  cases b with
  | false =>
    dsimp only
    rw [if_neg (by decide), M.bind_def, mixA ha hb]
    dsimp only
    rw [M.bind_def, mixB ha hb (Int.emod_nonneg _ (by decide)) (Int.emod_lt_of_pos _ (by decide))]
    simp only [M.bind_def, M.lift_def, M.pure_def, fdivD, intD, modD, R.ok_bind, h1, if_true, show (0 : Int) < 64 ∧ (64 : Int) < 1073741824 by decide, and_self]
    exact ⟨_, _, rfl, Int.emod_nonneg _ (by omega), Int.emod_lt_of_pos _ h1, rfl, rfl⟩
  | true =>
    dsimp only
    rw [if_pos rfl]
    simp only [M.bind_def, M.lift_def, M.pure_def, fdivD, intD, modD, addD, mulD, subD, absD, ltD, powD, setRest, R.ok_bind, h1, h2, if_true, show (-(2 ^ 64) : Int) < 2 ∧ (2 : Int) < 2 ^ 64 by decide, show (0 : Int) ≤ 18 by decide, show (18 : Int) ≤ 1000000 by decide, show (10 : Int).natAbs < 2 ^ 64 by decide, and_self]
    exact ⟨_, _, rfl, Int.emod_nonneg _ (by omega), Int.emod_lt_of_pos _ h1, rfl, rfl⟩
end L2.Ly.K02

set_option Elab.async false
set_option linter.all false
set_option maxRecDepth 100000
set_option maxHeartbeats 1600000
/-! K02p: a draw. -/
namespace L2.Ly.K02
open PySem PySem.Spec PyProof.Rows L2

theorem plain_ints : ∀ xs : List Int, plainAll (xs.map D.int) = true
  | [] => rfl
  | x :: xs => by
    show (true && plainAll (xs.map D.int)) = true
    rw [plain_ints xs]
    rfl
theorem ne_cells (xs : List Int) : ∃ b, neD (.lst (xs.map D.int)) (.lst []) = .ok (.bl b) := by
  have h : okEq (.lst (xs.map D.int)) (.lst []) = true := by
    have h1 : (D.lst (xs.map D.int)).plain = true := plain_ints xs
    have h2 : min (D.lst (xs.map D.int)).depth (D.lst []).depth ≤ 100 := Nat.le_trans (Nat.min_le_right _ _) (by decide)
    unfold okEq
    rw [h1, decide_eq_true h2]
    rfl
  unfold neD
  rw [if_pos h]
  exact ⟨_, rfl⟩
/-- d[i], i from the left -/
theorem ix_lst {xs : List D} {i : Int} (h0 : 0 ≤ i) (h : i < xs.length) : ∃ x ∈ xs, ixD (.lst xs) (.int i) = .ok x := by
  obtain ⟨j, rfl⟩ := Int.eq_ofNat_of_zero_le h0
  have hj : j < xs.length := by omega
  have e : atI xs (j : Int) = some xs[j] := atI_nat (List.getElem?_eq_getElem hj)
  refine ⟨xs[j], List.getElem_mem hj, ?_⟩
  show (match atI xs (j : Int) with | some d => R.ok d | none => .bad) = _
  rw [e]
theorem ix_cells {xs : List Int} {a : Int} (h : xs ≠ []) : ∃ c, ixD (.lst (xs.map D.int)) (.int (a % (xs.map D.int).length)) = .ok (.int c) := by
  have hl : 0 < ((xs.map D.int).length : Int) := by
    cases xs with
    | nil => exact (h rfl).elim
    | cons x xs => simp
  obtain ⟨x, hx, e⟩ := ix_lst (Int.emod_nonneg a (by omega)) (Int.emod_lt_of_pos a hl)
  obtain ⟨c, _, rfl⟩ := List.mem_map.mp hx
  exact ⟨c, e⟩
end L2.Ly.K02

set_option Elab.async false
set_option linter.all false
set_option maxRecDepth 100000
set_option maxHeartbeats 1600000
/-! K02q: a draw, a pick. -/
namespace L2.Ly.K02
open PySem PySem.Spec PyProof.Rows L2

theorem go {α β : Type} {x : M α} {f : α → M β} {p q : Pen} {a : α} (h : x p = (.ok a, q)) : (x >>= f) p = f a q := by
  rw [M.bind_def, h]
theorem gox {α β : Type} {x : M α} {f : α → M β} {p q : Pen} {a : α} {r : R β × Pen} (h : x p = (.ok a, q)) (k : f a q = r) : (x >>= f) p = r := (go h).trans k
theorem Near.trans {p q r : Pen} {k l : Int} (h1 : Near p q k) (h2 : Near q r l) : Near p r (k + l) :=
  ⟨h2.cells.trans h1.cells, Int.le_trans h1.lo h2.lo, by have := h1.hi; have := h2.hi; omega⟩
theorem Near.up {p q : Pen} {k l : Int} (h1 : Near p q k) (h : k ≤ l) : Near p q l := ⟨h1.cells, h1.lo, by have := h1.hi; omega⟩
theorem Near.refl (p : Pen) : Near p p 0 := ⟨rfl, Int.le_refl _, by omega⟩
/-- a draw gives a whole number below many; the pen goes at most one place on -/
theorem m_draw_ok (p : Pen) {many : Int} (h1 : 0 < many) (h2 : many < 1073741824) (hp : 0 ≤ p.pos) (hq : p.pos ≤ 4194304) :
    ∃ r q, m_draw (.int many) p = (.ok (.int r), q) ∧ 0 ≤ r ∧ r < many ∧ Near p q 1 := by
  by_cases hr : 0 < p.rest
  · exact ⟨_, _, m_draw_rest p many h1 h2 hr, Int.emod_nonneg _ (by omega), Int.emod_lt_of_pos _ h1, rfl, Int.le_refl _, by show p.pos ≤ p.pos + 1; omega⟩
  · have hc1 : ∃ b, (t2 neD penCells (l1 n0)) { p with pos := p.pos + 1 } = (.ok b, { p with pos := p.pos + 1 }) ∧ ∃ cell, (if b then (b2 ixD penCells (b2 modD (u1 intD (pure (.int p.pos))) (u1 lenD penCells)) >>= fun c => pure (Out.nx c)) else pure (Out.nx (D.int (63989 * p.pos + 27223))) : M (Out D)) { p with pos := p.pos + 1 } = (.ok (Out.nx (D.int cell)), { p with pos := p.pos + 1 }) := by
      by_cases hc : p.cells = []
      · refine ⟨false, ?_, 63989 * p.pos + 27223, rfl⟩
        simp only [M.bind_def, M.lift_def, M.pure_def, penCells, hc]
        rfl
      · obtain ⟨b, hb⟩ := ne_cells p.cells
        obtain ⟨c, hx⟩ := ix_cells (a := p.pos) hc
        have hl : (0 : Int) < ((p.cells.map D.int).length : Int) := by
          cases e : p.cells with
          | nil => exact (hc e).elim
          | cons x xs => simp
        refine ⟨b, ?_, ?_⟩
        · simp only [M.bind_def, M.lift_def, M.pure_def, penCells, hb, R.ok_bind, toB]
        · cases b with
          | false => exact ⟨63989 * p.pos + 27223, rfl⟩
          | true =>
            refine ⟨c, ?_⟩
            have e1 : (b2 modD (u1 intD (pure (.int p.pos))) (u1 lenD penCells)) { p with pos := p.pos + 1 } = (.ok (.int (p.pos % ((p.cells.map D.int).length : Int))), { p with pos := p.pos + 1 }) := by
              simp only [M.bind_def, M.lift_def, M.pure_def, penCells, R.ok_bind, intD, lenD, modD, if_pos hl]
            rw [if_pos rfl]
            refine (gox (q := { p with pos := p.pos + 1 }) (a := D.int c) ?_ rfl)
            refine (gox (q := { p with pos := p.pos + 1 }) (a := D.lst (p.cells.map D.int)) rfl ((gox e1 ?_)))
            rw [M.lift_def, hx]
    obtain ⟨b, e1, cell, e2⟩ := hc1
    obtain ⟨r, q, e, k1, k2, k3, k4⟩ := m_drawT_ok (many := many) (cell := cell) { p with pos := p.pos + 1 } h1 h2 hp hq
    refine ⟨r, q, ?_, k1, k2, k3, by rw [k4]; show p.pos ≤ p.pos + 1; omega, by rw [k4]; exact Int.le_refl _⟩
    have e0 : (t2 gtD penRest (vi 0)) p = (.ok false, p) := by
      simp only [M.bind_def, penRest, M.lift_def, M.pure_def, gtD, R.ok_bind, toB, decide_eq_false hr]
    unfold m_draw
    refine (gox e0 ?_)
    rw [if_neg (by decide)]
    refine (gox (x := penPos) (q := p) (a := D.int p.pos) rfl ?_)
    refine (gox (x := b2 addD (pure (.int p.pos)) (vi 1)) (q := p) (a := D.int (p.pos + 1)) rfl ?_)
    refine (gox (x := setPos (.int (p.pos + 1))) (q := { p with pos := p.pos + 1 }) (a := ()) rfl ?_)
    refine (gox (x := b2 addD (b2 mulD (vi 63989) (pure (.int p.pos))) (vi 27223)) (q := { p with pos := p.pos + 1 }) (a := D.int (63989 * p.pos + 27223)) ?_ ?_)
    · simp only [M.bind_def, M.lift_def, M.pure_def, addD, mulD, R.ok_bind, show (-(2 ^ 64) : Int) < 63989 ∧ (63989 : Int) < 2 ^ 64 by decide, if_true, and_self]
    · exact (gox e1 ((gox e2 e)))
end L2.Ly.K02

set_option Elab.async false
set_option linter.all false
set_option maxRecDepth 100000
set_option maxHeartbeats 1600000
/-! K02s: the values that the law draws. -/
namespace L2.Ly.K02
open PySem PySem.Spec PyProof.Rows L2

def menu : List D := [.non, .bl true, .bl false, .int 0, .int 7, .int (-3), .str "kept", .str "", .int (10 ^ 40)]
/-- a drawn value of this depth at most -/
def Od : Nat → D → Prop
  | n + 1, .tup xs => xs.length ≤ 3 ∧ ∀ x ∈ xs, Od n x
  | n + 1, .lst xs => xs.length ≤ 3 ∧ ∀ x ∈ xs, Od n x
  | _, d => d ∈ menu
def flat : D → Bool
  | .tup _ => false
  | .lst _ => false
  | _ => true
theorem menu_by {f : D → Bool} (h : menu.all f = true) {d : D} (hd : d ∈ menu) : f d = true := List.all_eq_true.mp h d hd
theorem Od.cases {n : Nat} {d : D} (h : Od n d) : d ∈ menu ∨ ∃ m xs, n = m + 1 ∧ (d = .tup xs ∨ d = .lst xs) ∧ xs.length ≤ 3 ∧ ∀ x ∈ xs, Od m x := by
  cases n with
  | zero => cases d <;> exact .inl h
  | succ n =>
    cases d with
    | tup xs => exact .inr ⟨n, xs, rfl, .inl rfl, h.1, h.2⟩
    | lst xs => exact .inr ⟨n, xs, rfl, .inr rfl, h.1, h.2⟩
    | _ => exact .inl h
theorem Od.menu {d : D} (hd : d ∈ menu) : ∀ n, Od n d := by
  intro n
  have hf : flat d = true := menu_by (f := flat) rfl hd
  cases d with
  | tup xs => cases hf
  | lst xs => cases hf
  | _ => cases n <;> exact hd
theorem Od.okd : ∀ (n : Nat) (d : D), Od n d → Okd n d := by
  intro n
  induction n with
  | zero =>
    intro d h
    cases d <;> first | trivial | exact absurd (menu_by (f := fun d => match d with | .non => true | .bl _ => true | .int _ => true | .str _ => true | _ => false) rfl h) (by intro h; cases h)
  | succ n ih =>
    intro d h
    cases d with
    | tup xs => exact fun x hx => ih x (h.2 x hx)
    | lst xs => exact fun x hx => ih x (h.2 x hx)
    | _ => first | trivial | exact absurd (menu_by (f := fun d => match d with | .non => true | .bl _ => true | .int _ => true | .str _ => true | _ => false) rfl h) (by intro h; cases h)
theorem Od.fix : ∀ (n : Nat) (d : D), Od n d → Od n (fixP n d) := by
  intro n
  induction n with
  | zero => intro d h; cases d <;> exact h
  | succ n ih =>
    intro d h
    cases d with
    | tup xs => exact ⟨by rw [List.length_map]; exact h.1, fun x hx => by obtain ⟨y, hy, rfl⟩ := List.mem_map.mp hx; exact ih y (h.2 y hy)⟩
    | lst xs => exact ⟨by rw [List.length_map]; exact h.1, fun x hx => by obtain ⟨y, hy, rfl⟩ := List.mem_map.mp hx; exact ih y (h.2 y hy)⟩
    | _ => exact h
/-- how long a text shows it -/
def lenO : Nat → Nat
  | 0 => 42
  | n + 1 => 3 * lenO n + 9
structure Fine (n : Nat) (d : D) : Prop where
  plain : d.plain = true
  depth : d.depth ≤ n
  show_ : PyData.showable d.py = true
  len : d.py.shown.length ≤ lenO n
theorem fine_menu {d : D} (hd : d ∈ menu) (n : Nat) : Fine n d := by
  have h := menu_by (f := fun d => d.plain && decide (d.depth = 0) && PyData.showable d.py && decide (d.py.shown.length ≤ 42)) (by decide +kernel) hd
  simp only [Bool.and_eq_true, decide_eq_true_eq] at h
  have hl : 42 ≤ lenO n := by
    induction n with
    | zero => exact Nat.le_refl _
    | succ n ih => show 42 ≤ 3 * lenO n + 9; omega
  exact ⟨h.1.1.1, by omega, h.1.2, Nat.le_trans h.2 hl⟩
theorem plain_all {xs : List D} (h : ∀ x ∈ xs, x.plain = true) : plainAll xs = true := by
  induction xs with
  | nil => rfl
  | cons x xs ih =>
    show (x.plain && plainAll xs) = true
    rw [h x (by simp), ih fun y hy => h y (by simp [hy])]
    rfl
theorem depth_all {n : Nat} {xs : List D} (h : ∀ x ∈ xs, x.depth ≤ n) : depthAll xs ≤ n := by
  induction xs with
  | nil => exact Nat.zero_le _
  | cons x xs ih => exact Nat.max_le.mpr ⟨h x (by simp), ih fun y hy => h y (by simp [hy])⟩
theorem show_all {xs : List D} (h : ∀ x ∈ xs, PyData.showable x.py = true) : PyData.showableAll (pyAll xs) = true := by
  induction xs with
  | nil => rfl
  | cons x xs ih =>
    show (PyData.showable x.py && PyData.showableAll (pyAll xs)) = true
    rw [h x (by simp), ih fun y hy => h y (by simp [hy])]
    rfl
theorem len_all {n : Nat} {xs : List D} (h : ∀ x ∈ xs, x.py.shown.length ≤ n) : ((PyData.shownAll (pyAll xs)).map (·.length)).sum ≤ xs.length * n ∧ (PyData.shownAll (pyAll xs)).length = xs.length := by
  induction xs with
  | nil => exact ⟨by simp [pyAll, PyData.shownAll], rfl⟩
  | cons x xs ih =>
    obtain ⟨h1, h2⟩ := ih fun y hy => h y (by simp [hy])
    have h3 := h x (by simp)
    refine ⟨?_, by show (PyData.shownAll (pyAll xs)).length + 1 = xs.length + 1; rw [h2]⟩
    show x.py.shown.length + ((PyData.shownAll (pyAll xs)).map (·.length)).sum ≤ (xs.length + 1) * n
    rw [Nat.add_mul]
    omega
theorem fine_tup {n m l : Nat} {xs : List D} (h : ∀ x ∈ xs, Fine n x) (hl : xs.length ≤ m) : (D.tup xs).plain = true ∧ (D.tup xs).depth ≤ n + 1 ∧ PyData.showable (D.tup xs).py = true ∧ (D.tup xs).py.shown.length ≤ m * lenO n + 2 * m + 3 := by
  refine ⟨plain_all fun x hx => (h x hx).plain, Nat.succ_le_succ (depth_all fun x hx => (h x hx).depth), show_all fun x hx => (h x hx).show_, ?_⟩
  obtain ⟨h1, h2⟩ := len_all fun x hx => (h x hx).len
  have h3 := tupleText_len_le (PyData.shownAll (pyAll xs))
  have h4 : xs.length * lenO n ≤ m * lenO n := Nat.mul_le_mul_right _ hl
  show (tupleText (PyData.shownAll (pyAll xs))).length ≤ _
  omega
theorem fine_lst {n m l : Nat} {xs : List D} (h : ∀ x ∈ xs, Fine n x) (hl : xs.length ≤ m) : (D.lst xs).plain = true ∧ (D.lst xs).depth ≤ n + 1 ∧ PyData.showable (D.lst xs).py = true ∧ (D.lst xs).py.shown.length ≤ m * lenO n + 2 * m + 3 := by
  refine ⟨plain_all fun x hx => (h x hx).plain, Nat.succ_le_succ (depth_all fun x hx => (h x hx).depth), show_all fun x hx => (h x hx).show_, ?_⟩
  obtain ⟨h1, h2⟩ := len_all fun x hx => (h x hx).len
  have h3 := listText_len_le (PyData.shownAll (pyAll xs))
  have h4 : xs.length * lenO n ≤ m * lenO n := Nat.mul_le_mul_right _ hl
  show (listText (PyData.shownAll (pyAll xs))).length ≤ _
  omega
theorem Od.fine : ∀ (n : Nat) (d : D), Od n d → Fine n d := by
  intro n
  induction n with
  | zero =>
    intro d h
    rcases h.cases with h | ⟨m, xs, e, _⟩
    · exact fine_menu h 0
    · cases e
  | succ n ih =>
    intro d h
    rcases h.cases with h | ⟨m, xs, e, e2, hl, hx⟩
    · exact fine_menu h _
    · cases e
      rcases e2 with rfl | rfl
      · obtain ⟨h1, h2, h3, h4⟩ := fine_tup (l := 0) (fun x hy => ih x (hx x hy)) hl
        exact ⟨h1, h2, h3, h4⟩
      · obtain ⟨h1, h2, h3, h4⟩ := fine_lst (l := 0) (fun x hy => ih x (hx x hy)) hl
        exact ⟨h1, h2, h3, h4⟩
theorem ok_repr_tup {xs : List D} (h : ∀ x ∈ xs, Od 3 x) (hl : xs.length ≤ 16) : okRepr (.tup xs) = true := by
  obtain ⟨h1, h2, h3, h4⟩ := fine_tup (l := 0) (fun x hx => Od.fine 3 x (h x hx)) hl
  have h5 : 16 * lenO 3 + 2 * 16 + 3 ≤ sizeLine := by decide +kernel
  unfold okRepr
  rw [h1, h3, decide_eq_true (Nat.le_trans h4 h5), decide_eq_true (Nat.le_trans h2 (by decide))]
  rfl
theorem ok_repr_lst {xs : List D} (h : ∀ x ∈ xs, Od 3 x) (hl : xs.length ≤ 16) : okRepr (.lst xs) = true := by
  obtain ⟨h1, h2, h3, h4⟩ := fine_lst (l := 0) (fun x hx => Od.fine 3 x (h x hx)) hl
  have h5 : 16 * lenO 3 + 2 * 16 + 3 ≤ sizeLine := by decide +kernel
  unfold okRepr
  rw [h1, h3, decide_eq_true (Nat.le_trans h4 h5), decide_eq_true (Nat.le_trans h2 (by decide))]
  rfl
theorem ne_strs (s : Str) : neD (.str s) (.str s) = .ok (.bl false) := by
  have h : (D.eqv (.str s) (.str s)) = true := by simp [D.eqv, D.py, PyData.eqv]
  show (if okEq (.str s) (.str s) = true then R.ok (D.bl (!D.eqv (.str s) (.str s))) else .bad) = _
  rw [h]
  rfl
end L2.Ly.K02

set_option Elab.async false
set_option linter.all false
set_option maxRecDepth 100000
set_option maxHeartbeats 1600000
/-! K02t: a pick, any value. -/
namespace L2.Ly.K02
open PySem PySem.Spec PyProof.Rows L2

theorem m_pick_ok (p : Pen) {xs : List D} (h0 : 0 < xs.length) (h1 : xs.length < 1000) (hp : 0 ≤ p.pos) (hq : p.pos ≤ 4194304) :
    ∃ x q, m_pick (.lst xs) p = (.ok x, q) ∧ x ∈ xs ∧ Near p q 1 := by
  obtain ⟨r, q, e, k1, k2, k3⟩ := m_draw_ok p (many := xs.length) (by omega) (by omega) hp hq
  obtain ⟨x, hx, e2⟩ := ix_lst k1 k2
  refine ⟨x, q, ?_, hx, k3⟩
  unfold m_pick
  refine (gox (q := p) (a := D.lst xs) rfl ?_)
  refine (gox (q := q) (a := D.int r) ((gox (q := p) (a := D.int xs.length) rfl e)) ?_)
  rw [M.lift_def, e2]
theorem any_items (p : Pen) : (l1 anyItems) p = (.ok (.lst menu), p) := by
  have e : (b2 powD (vi 10) (vi 40)) p = (.ok (.int (10 ^ 40)), p) := by
    simp only [M.bind_def, M.lift_def, M.pure_def, powD, show (0 : Int) ≤ 40 by decide, show (40 : Int) ≤ 1000000 by decide, show (10 : Int).natAbs < 2 ^ 64 by decide, and_self, if_true]
    rfl
  have e2 : (c2 (b2 powD (vi 10) (vi 40)) n0) p = (.ok [.int (10 ^ 40)], p) := (gox e rfl)
  have e3 : anyItems p = (.ok menu, p) := by
    unfold anyItems
    simp only [M.bind_def, M.pure_def] at e2
    simp only [M.bind_def, M.pure_def, M.lift_def, negD, e2]
    rfl
  exact (gox e3 rfl)
/-- some draws in a row -/
theorem lc_ok {n : Nat} {k : Nat} {f : D → M D} (hf : ∀ (d : D) (p : Pen), 0 ≤ p.pos → p.pos + k ≤ 4194304 → ∃ x q, f d p = (.ok x, q) ∧ Od n x ∧ Near p q k) :
    ∀ (xs : List D) (p : Pen), 0 ≤ p.pos → p.pos + xs.length * k ≤ 4194304 → ∃ ys q, lcM R.ok (fun _ => pure true) f xs p = (.ok ys, q) ∧ ys.length = xs.length ∧ (∀ y ∈ ys, Od n y) ∧ Near p q (xs.length * k : Nat)
  | [], p, _, _ => ⟨[], p, rfl, rfl, by simp, (Near.refl p).up (by simp)⟩
  | x :: xs, p, h0, h1 => by
    have e : ((x :: xs).length : Int) * k = xs.length * k + k := by
      rw [List.length_cons, Int.natCast_add, Int.add_mul]
      simp
    rw [e] at h1
    have hz : (0 : Int) ≤ xs.length * k := Int.mul_nonneg (by omega) (by omega)
    obtain ⟨y, q, e1, hy, n1⟩ := hf x p h0 (by omega)
    have := n1.lo
    have := n1.hi
    obtain ⟨ys, r, e2, hl, hys, n2⟩ := lc_ok hf xs q (by omega) (by omega)
    refine ⟨y :: ys, r, ?_, by rw [List.length_cons, List.length_cons, hl], by simpa using ⟨hy, hys⟩, ?_⟩
    · show ((M.lift (R.ok x)).q >>= fun a => (pure true : M Bool).q >>= fun b => if b then (f a).q >>= fun y => lcM R.ok (fun _ => pure true) f xs >>= fun ys => pure (y :: ys) else lcM R.ok (fun _ => pure true) f xs) p = _
      have eq : (f x).q p = (.ok y, q) := by
        simp only [M.q, e1]
      refine (gox (q := p) (a := x) rfl ((gox (q := p) (a := true) rfl ?_)))
      rw [if_pos rfl]
      exact (gox eq ((gox e2 rfl)))
    · refine (n1.trans n2).up ?_
      rw [List.length_cons, Int.natCast_mul, Int.natCast_mul]
      have e' : ((xs.length + 1 : Nat) : Int) * (k : Int) = xs.length * k + k := by
        rw [Int.natCast_add, Int.add_mul]
        simp
      rw [e']
      omega
def cost : Nat → Nat
  | 0 => 1
  | n + 1 => 3 * cost n + 3
theorem cost_pos : ∀ n, 1 ≤ cost n
  | 0 => Nat.le_refl _
  | n + 1 => by show 1 ≤ 3 * cost n + 3; omega
theorem range_ok {r : Int} (h0 : 0 ≤ r) (h1 : r < 4) : ∃ xs, rangeD1 (.int r) = .ok xs ∧ xs.length ≤ 3 := by
  have e : r = 0 ∨ r = 1 ∨ r = 2 ∨ r = 3 := by omega
  rcases e with rfl | rfl | rfl | rfl <;> exact ⟨_, rfl, by decide +kernel⟩
theorem m_any_ok : ∀ (n k : Nat) (p : Pen), 0 ≤ p.pos → p.pos + cost n ≤ 4194304 → ∃ x q, m_any (n + 1 + k) (.int n) p = (.ok x, q) ∧ Od n x ∧ Near p q (cost n) := by
  intro n
  induction n with
  | zero =>
    intro k p h0 h1
    obtain ⟨x, q, e, hx, nr⟩ := m_pick_ok p (xs := menu) (by decide) (by decide) h0 (by simp [cost] at h1; omega)
    refine ⟨x, q, ?_, Od.menu hx 0, nr⟩
    rw [show 0 + 1 + k = k + 1 by omega]
    unfold m_any
    refine (gox (q := p) (a := false) rfl ?_)
    rw [if_neg (by decide)]
    exact (gox (any_items p) e)
  | succ n ih =>
    intro k p h0 h1
    have hc : cost (n + 1) = 3 * cost n + 3 := rfl
    have hcp := cost_pos n
    rw [hc] at h1
    obtain ⟨r, q, e, k1, k2, nr⟩ := m_draw_ok p (many := 3) (by decide) (by decide) h0 (by omega)
    have l1 := nr.lo
    have l2 := nr.hi
    rw [show n + 1 + 1 + k = (n + 1 + k) + 1 by omega]
    unfold m_any
    have e0 : (t2 gtD (pure (.int ((n + 1 : Nat) : Int))) (vi 0) >>= fun c => if c then t2 gtD (vi 3 >>= fun x => m_draw x) (vi 0) else pure false) p = (.ok (decide (0 < r)), q) := by
      refine (gox (q := p) (a := true) ?_ ?_)
      · simp only [M.bind_def, M.lift_def, M.pure_def, gtD, R.ok_bind, toB, show (0 : Int) < ((n + 1 : Nat) : Int) by omega, decide_true]
      · rw [if_pos rfl]
        exact (gox (q := q) (a := D.int r) e rfl)
    refine (Exists.imp fun x => Exists.imp fun q' => And.imp_left fun h => (gox e0 h)) ?_
    by_cases hr : 0 < r
    · rw [decide_eq_true hr, if_pos rfl]
      obtain ⟨r2, q2, e2, k21, k22, nr2⟩ := m_draw_ok q (many := 4) (by decide) (by decide) (by omega) (by omega)
      obtain ⟨xs, ex, hxl⟩ := range_ok k21 k22
      have m1 := nr2.lo
      have m2 := nr2.hi
      have hm : (xs.length : Int) * cost n ≤ 3 * cost n := Int.mul_le_mul_of_nonneg_right (by omega) (by omega)
      have hf : ∀ (d : D) (p : Pen), 0 ≤ p.pos → p.pos + cost n ≤ 4194304 → ∃ x q, (b2 subD (pure (.int ((n + 1 : Nat) : Int))) (vi 1) >>= fun x => m_any (n + 1 + k) x) p = (.ok x, q) ∧ Od n x ∧ Near p q (cost n) := fun d p g0 g1 => by
        obtain ⟨x, q, e, hx, nr⟩ := ih k p g0 g1
        refine ⟨x, q, (gox (q := p) (a := D.int n) ?_ e), hx, nr⟩
        simp only [M.bind_def, M.lift_def, M.pure_def, subD]
        rw [show ((n + 1 : Nat) : Int) - 1 = n by omega]
      obtain ⟨ys, q3, e3, hl, hy, nr3⟩ := lc_ok hf xs q2 (by omega) (by omega)
      have o1 := nr3.lo
      have o2 := nr3.hi
      rw [Int.natCast_mul] at o2
      obtain ⟨r4, q4, e4, k41, k42, nr4⟩ := m_draw_ok q3 (many := 2) (by decide) (by decide) (by omega) (by omega)
      have w1 := nr4.lo
      have w2 := nr4.hi
      have eg : ((((vi 4 >>= fun x => m_draw x) >>= fun x => M.lift (rangeD1 x)) >>= fun xs => lcM R.ok (fun _ => pure true) (fun _ => b2 subD (pure (.int ((n + 1 : Nat) : Int))) (vi 1) >>= fun x => m_any (n + 1 + k) x) xs)) q = (.ok ys, q3) := by
        refine (gox (q := q2) (a := xs) ?_ e3)
        refine (gox (q := q2) (a := D.int r2) e2 ?_)
        rw [M.lift_def, ex]
      have et : ∃ t, (t2 eqD (vi 2 >>= fun x => m_draw x) (vi 0)) q3 = (.ok t, q4) := by
        refine ⟨(D.int r4).eqv (.int 0), (gox (q := q4) (a := D.int r4) e4 ?_)⟩
        rfl
      obtain ⟨t, et⟩ := et
      refine ⟨if t then .lst ys else .tup ys, q4, ?_, ?_, ⟨nr4.cells.trans (nr3.cells.trans (nr2.cells.trans nr.cells)), by omega, by rw [hc]; omega⟩⟩
      · refine (gox eg ((gox et ?_)))
        cases t <;> rfl
      · have : Od (n + 1) (.tup ys) ∧ Od (n + 1) (.lst ys) := ⟨⟨by omega, hy⟩, ⟨by omega, hy⟩⟩
        cases t
        · exact this.1
        · exact this.2
    · rw [decide_eq_false hr, if_neg (by decide)]
      obtain ⟨x, q2, e2, hx, nr2⟩ := m_pick_ok q (xs := menu) (by decide) (by decide) (by omega) (by omega)
      exact ⟨x, q2, (gox (any_items q) e2), Od.menu hx _, (nr.trans nr2).up (by rw [hc]; omega)⟩
end L2.Ly.K02

set_option Elab.async false
set_option linter.all false
set_option maxRecDepth 100000
set_option maxHeartbeats 1600000
/-! K02u: the law's rows, one by one. -/
namespace L2.Ly.K02
open PySem PySem.Spec PyProof.Rows L2

abbrev fx : D → D := fixP 3
theorem fix_at {k : Nat} {d : D} (h : Od 3 d) : fixR (3 + k + 1) d = .ok (fx d) := fixR_at k 3 d (Od.okd 3 d h)
theorem map_fix {k : Nat} {ds : List D} (h : ∀ d ∈ ds, Od 3 d) : mapR (fixR (3 + k + 1)) ds = .ok (ds.map fx) := mapR_ok fun d hd => fix_at (h d hd)
def fs0 (w : Str) (vs : List D) : List (Str × D) := [("word", .str w), ("parts", .tup (vs.map fx))]
def fsOf (w : Str) (ns : List Str) (vs : List D) : List (Str × D) := putDs ns (vs.map fx) (fs0 w vs)
theorem pap_ok {k : Nat} {w : Str} {ds : List D} (h : ∀ d ∈ ds, Od 3 d) (hl : ds.length ≤ 16) : starM 1 (papR (3 + k + 1)) [] (.str w :: ds) = .ok (fs0 w ds) := by
  have hc : 1 ≤ (D.str w :: ds).length ∧ (D.str w :: ds).length ≤ 100 := ⟨by simp, by rw [List.length_cons]; omega⟩
  unfold starM
  rw [if_pos hc]
  show (if ([] : List (Str × D)).length < 800 then (R.ok ds >>= fun xs => mapR (fixR (3 + k + 1)) xs >>= fun ys => R.ok (putD "parts" (.tup ys) (putD "word" (.str w) []))) else .bad) = _
  rw [if_pos (by decide), R.ok_bind, map_fix h]
  rfl
theorem mk_sub1 {cn w f : Str} {a : D} (ha : Od 3 a) : mkD cn (subR 16 w (sub1 f)) [a] = .ok (.ins cn (fsOf w [f] [a])) := by
  have h : ∀ d ∈ [a], Od 3 d := by simpa using ha
  unfold mkD subR
  rw [pap_ok (k := 12) h (by simp), R.ok_bind]
  rfl
theorem mk_sub2 {cn w : Str} {ns : List Str} {ds : List D} (h : ∀ d ∈ ds, Od 3 d) (hl : ds.length = ns.length) (h3 : ds.length ≤ 16) : mkD cn (subR 16 w (sub2 ns)) ds = .ok (.ins cn (fsOf w ns ds)) := by
  unfold mkD subR
  rw [pap_ok (k := 12) h h3, R.ok_bind]
  unfold sub2
  rw [if_pos ⟨by show 2 < 800; decide, hl⟩]
  show ((unpT ns.length (.tup (ds.map fx)) >>= fun vs => R.ok (putDs ns vs (fs0 w ds))) >>= fun fs => R.ok (D.ins cn fs)) = _
  show ((if (ds.map fx).length = ns.length then R.ok (ds.map fx) else .bad) >>= fun vs => R.ok (putDs ns vs (fs0 w ds))) >>= (fun fs => R.ok (D.ins cn fs)) = _
  rw [if_pos (by rw [List.length_map]; exact hl)]
  rfl
theorem mk_pap {cn w : Str} {ds : List D} (h : ∀ d ∈ ds, Od 3 d) (h3 : ds.length ≤ 16) : mkD cn xPap (.str w :: ds) = .ok (.ins cn (fs0 w ds)) := by
  show (starM 1 (papR (3 + 13 + 1)) [] (.str w :: ds) >>= fun fs => R.ok (D.ins cn fs)) = _
  rw [pap_ok h h3]
  rfl
def rowD (cn w : Str) (fs : List (Str × D)) (t : Bool) (vs : List D) : D := .tup [.ins cn fs, .str w, .tup vs, .bl t]
theorem lift_of {r : R D} {d : D} (h : r = .ok d) : (M.lift r : M D) = pure d := by
  rw [h]
  rfl
theorem tp_go {cn w : Str} {fs : List (Str × D)} {t : Bool} {vs : List D} {A : M D} {V : M (List D)} (h : A = pure (.ins cn fs)) (hV : V = pure vs) : tp (c2 A (c2 (dv (.str w)) (c2 (tp V) (c2 (dv (.bl t)) n0)))) = pure (rowD cn w fs t vs) := by
  subst h hV
  rfl
section
variable {cn w f : Str} {t : Bool} {a b c : D} {ns : List Str}
theorem mem1 (ha : Od 3 a) : ∀ d ∈ [a], Od 3 d := by simpa using ha
theorem mem2 (ha : Od 3 a) (hb : Od 3 b) : ∀ d ∈ [a, b], Od 3 d := by
  intro d hd
  simp only [List.mem_cons, List.not_mem_nil, or_false] at hd
  rcases hd with rfl | rfl <;> assumption
theorem mem3 (ha : Od 3 a) (hb : Od 3 b) (hc : Od 3 c) : ∀ d ∈ [a, b, c], Od 3 d := by
  intro d hd
  simp only [List.mem_cons, List.not_mem_nil, or_false] at hd
  rcases hd with rfl | rfl | rfl <;> assumption
theorem mk1_ok (ha : Od 3 a) : mk cn (subR 16 w (sub1 f)) (c2 (dv a) n0) = pure (.ins cn (fsOf w [f] [a])) := (show mk cn (subR 16 w (sub1 f)) (c2 (dv a) n0) = M.lift (mkD cn (subR 16 w (sub1 f)) [a]) from rfl).trans (lift_of (mk_sub1 ha))
theorem mk2_ok (ha : Od 3 a) (hb : Od 3 b) (hl : ns.length = 2) : mk cn (subR 16 w (sub2 ns)) (c2 (dv a) (c2 (dv b) n0)) = pure (.ins cn (fsOf w ns [a, b])) := (show mk cn (subR 16 w (sub2 ns)) (c2 (dv a) (c2 (dv b) n0)) = M.lift (mkD cn (subR 16 w (sub2 ns)) [a, b]) from rfl).trans (lift_of (mk_sub2 (mem2 ha hb) hl.symm (by simp)))
theorem mk3_ok (ha : Od 3 a) (hb : Od 3 b) (hc : Od 3 c) (hl : ns.length = 3) : mk cn (subR 16 w (sub2 ns)) (c2 (dv a) (c2 (dv b) (c2 (dv c) n0))) = pure (.ins cn (fsOf w ns [a, b, c])) := (show mk cn (subR 16 w (sub2 ns)) (c2 (dv a) (c2 (dv b) (c2 (dv c) n0))) = M.lift (mkD cn (subR 16 w (sub2 ns)) [a, b, c]) from rfl).trans (lift_of (mk_sub2 (mem3 ha hb hc) hl.symm (by simp)))
theorem row1 (ha : Od 3 a) : tp (c2 (mk cn (subR 16 w (sub1 f)) (c2 (dv a) n0)) (c2 (dv (.str w)) (c2 (tp (c2 (dv a) n0)) (c2 (dv (.bl t)) n0)))) = pure (rowD cn w (fsOf w [f] [a]) t [a]) := tp_go (mk1_ok ha) rfl
theorem row2 (ha : Od 3 a) (hb : Od 3 b) (hl : ns.length = 2) : tp (c2 (mk cn (subR 16 w (sub2 ns)) (c2 (dv a) (c2 (dv b) n0))) (c2 (dv (.str w)) (c2 (tp (c2 (dv a) (c2 (dv b) n0))) (c2 (dv (.bl t)) n0)))) = pure (rowD cn w (fsOf w ns [a, b]) t [a, b]) := tp_go (mk2_ok ha hb hl) rfl
theorem row3 (ha : Od 3 a) (hb : Od 3 b) (hc : Od 3 c) (hl : ns.length = 3) : tp (c2 (mk cn (subR 16 w (sub2 ns)) (c2 (dv a) (c2 (dv b) (c2 (dv c) n0)))) (c2 (dv (.str w)) (c2 (tp (c2 (dv a) (c2 (dv b) (c2 (dv c) n0)))) (c2 (dv (.bl t)) n0)))) = pure (rowD cn w (fsOf w ns [a, b, c]) t [a, b, c]) := tp_go (mk3_ok ha hb hc hl) rfl
theorem rowP2 (ha : Od 3 a) (hb : Od 3 b) : tp (c2 (mk cn xPap (c2 (dv (.str w)) (c2 (dv a) (c2 (dv b) n0)))) (c2 (dv (.str w)) (c2 (tp (c2 (dv a) (c2 (dv b) n0))) (c2 (dv (.bl t)) n0)))) = pure (rowD cn w (fs0 w [a, b]) t [a, b]) := tp_go (lift_of (mk_pap (mem2 ha hb) (by simp))) rfl
theorem rowP1 (ha : Od 3 a) : tp (c2 (mk cn xPap (c2 (dv (.str w)) (c2 (dv a) n0))) (c2 (dv (.str w)) (c2 (tp (c2 (dv a) n0)) (c2 (dv (.bl t)) n0)))) = pure (rowD cn w (fs0 w [a]) t [a]) := tp_go (lift_of (mk_pap (mem1 ha) (by simp))) rfl
theorem mkk1_ok (ha : Od 3 a) : mkk cn (subR 16 w (sub1 f)) (c2 (dv a) n0) = pure (.ins cn (fsOf w [f] [a])) := (show mkk cn (subR 16 w (sub1 f)) (c2 (dv a) n0) = M.lift (mkD cn (subR 16 w (sub1 f)) [a]) from rfl).trans (lift_of (mk_sub1 ha))
theorem mkk2_ok (ha : Od 3 a) (hb : Od 3 b) (hl : ns.length = 2) : mkk cn (subR 16 w (sub2 ns)) (c2 (dv b) (c2 (dv a) n0)) = pure (.ins cn (fsOf w ns [a, b])) := (show mkk cn (subR 16 w (sub2 ns)) (c2 (dv b) (c2 (dv a) n0)) = M.lift (mkD cn (subR 16 w (sub2 ns)) [a, b]) from rfl).trans (lift_of (mk_sub2 (mem2 ha hb) hl.symm (by simp)))
theorem mkk3_ok (ha : Od 3 a) (hb : Od 3 b) (hc : Od 3 c) (hl : ns.length = 3) : mkk cn (subR 16 w (sub2 ns)) (c2 (dv c) (c2 (dv b) (c2 (dv a) n0))) = pure (.ins cn (fsOf w ns [a, b, c])) := (show mkk cn (subR 16 w (sub2 ns)) (c2 (dv c) (c2 (dv b) (c2 (dv a) n0))) = M.lift (mkD cn (subR 16 w (sub2 ns)) [a, b, c]) from rfl).trans (lift_of (mk_sub2 (mem3 ha hb hc) hl.symm (by simp)))
end
/-- what a row is -/
inductive IsRow : D → Prop
  | mk {c w : Str} {gs : List (Str × D)} {vs : List D} {t : Bool} (hc : c ∈ papers) (hw : gs.lookup ("word" : Str) = some (D.str w)) (hp : gs.lookup ("parts" : Str) = some (D.tup (vs.map fx))) (hv : ∀ x ∈ vs, Od 3 x) (hl : vs.length ≤ 3)
    (hb : pBool.lookup c = some t) (hd : pDen.lookup c = some (!t)) (ht : pTrue.lookup c = some true) : IsRow (rowD c w gs t vs)
end L2.Ly.K02

set_option Elab.async false
set_option linter.all false
set_option maxRecDepth 100000
set_option maxHeartbeats 1600000
/-! K02v: a row is as it must be. -/
namespace L2.Ly.K02
open PySem PySem.Spec PyProof.Rows L2

section
variable {p : Pen}
theorem t2_go {f : D → D → R D} {ra rb : M D} {x y : D} {b : Bool} (h1 : ra p = (.ok x, p)) (h2 : rb p = (.ok y, p)) (h : f x y = .ok (.bl b)) : (t2 f ra rb) p = (.ok b, p) := by
  refine (gox h1 ((gox h2 ?_)))
  rw [h]
  rfl
theorem u1_go {f : D → R D} {ra : M D} {x y : D} (h1 : ra p = (.ok x, p)) (h : f x = .ok y) : (u1 f ra) p = (.ok y, p) := by
  refine (gox h1 ?_)
  rw [h]
  rfl
theorem l1_go {ra : M (List D)} {xs : List D} (h1 : ra p = (.ok xs, p)) : (l1 ra) p = (.ok (.lst xs), p) := go h1
theorem orB_go {r r' : M Bool} (h : r p = (.ok false, p)) : (orB r r') p = r' p := by
  refine (gox h ?_)
  rw [if_neg (by decide)]
theorem no_go {t : M Bool} {r : M (Out Unit)} (h : t p = (.ok false, p)) : (no_ t r) p = r p := by
  refine (gox h ?_)
  rw [if_neg (by decide)]
theorem orB_gox {r r' : M Bool} {x : R Bool × Pen} (h : r p = (.ok false, p)) (k : r' p = x) : (orB r r') p = x := (orB_go h).trans k
theorem no_gox {t : M Bool} {r : M (Out Unit)} {x : R (Out Unit) × Pen} (h : t p = (.ok false, p)) (k : r p = x) : (no_ t r) p = x := (no_go h).trans k
theorem anB_go {r r' : M Bool} {b : Bool} (h : r p = (.ok b, p)) (h' : b = true → r' p = (.ok false, p)) : (anB r r') p = (.ok false, p) := by
  refine (gox h ?_)
  cases b with
  | false => rfl
  | true =>
    rw [if_pos rfl]
    exact h' rfl
theorem lc_none {t : D → M Bool} {f : D → M D} : ∀ xs : List D, (∀ x ∈ xs, t x p = (.ok false, p)) → lcM R.ok t f xs p = (.ok [], p)
  | [], _ => rfl
  | x :: xs, h => by
    show ((M.lift (R.ok x)).q >>= fun a => (t a).q >>= fun b => if b then (f a).q >>= fun y => lcM R.ok t f xs >>= fun ys => pure (y :: ys) else lcM R.ok t f xs) p = _
    have e : (t x).q p = (.ok false, p) := by
      simp only [M.q, h x (by simp)]
    refine (gox (q := p) (a := x) rfl ((gox e ?_)))
    rw [if_neg (by decide)]
    exact lc_none xs fun y hy => h y (by simp [hy])
theorem tuples_go {vs : List D} (h : ∀ x ∈ vs, Od 3 x) : lcM R.ok (fun _ => pure true) (fun v_one => ((dv v_one) >>= fun x => M.c (m_tuples 19 x))) vs p = (.ok (vs.map fx), p) := by
  have e : (fun v_one : D => ((dv v_one) >>= fun x => M.c (m_tuples 19 x))) = fun a => M.lift (fixR 19 a) := by
    funext a
    show M.c (m_tuples 19 a) = _
    rw [m_tuples_eq]
    rfl
  rw [e, lcM_lift, M.lift_def, map_fix (k := 15) h]
theorem mem_map_fx {vs : List D} (h : ∀ x ∈ vs, Od 3 x) : ∀ x ∈ vs.map fx, Od 3 x := by
  intro x hx
  obtain ⟨y, hy, rfl⟩ := List.mem_map.mp hx
  exact Od.fix 3 y (h y hy)
end
theorem plain_tup {vs : List D} (h : ∀ x ∈ vs, Od 3 x) (hl : vs.length ≤ 3) : (D.tup (vs.map fx)).plain = true ∧ (D.tup (vs.map fx)).depth ≤ 4 := by
  obtain ⟨h1, h2, _⟩ := fine_tup (m := 3) (l := 0) (fun x hx => Od.fine 3 x (mem_map_fx h x hx)) (by rw [List.length_map]; exact hl)
  exact ⟨h1, h2⟩
theorem eqD_strs (w w' : Str) : eqD (.str w) (.str w') = .ok (.bl (w == w')) := rfl
theorem neD_strs (w w' : Str) : neD (.str w) (.str w') = .ok (.bl (!(w == w'))) := rfl
/-- two papers: == tells no more than their words -/
theorem eqR_ok {c c' w w' : Str} {fs fs' : List (Str × D)} {vs vs' : List D} (hc : c ∈ papers) (hc' : c' ∈ papers) (hw : fs.lookup ("word" : Str) = some (D.str w)) (hw' : fs'.lookup ("word" : Str) = some (D.str w')) (hp : fs.lookup ("parts" : Str) = some (D.tup (vs.map fx))) (hp' : fs'.lookup ("parts" : Str) = some (D.tup (vs'.map fx)))
    (hv : ∀ x ∈ vs, Od 3 x) (hv' : ∀ x ∈ vs', Od 3 x) (hl : vs.length ≤ 3) (hl' : vs'.length ≤ 3) (ht' : pTrue.lookup c' = some true) : ∃ b, eqR (.ins c fs) (.ins c' fs') = .ok (.bl b) ∧ (b = true → (w == w') = true) := by
  have e1 : isaI pTrue true (.ins c' fs') = .ok (.bl true) := by
    show (match pTrue.lookup c' with | some b => R.ok (D.bl b) | none => .bad) = _
    rw [ht']
  have f1 : ∀ {c : Str} {fs : List (Str × D)} {f : Str} {d : D}, c ∈ papers → fs.lookup f = some d → fldD papers f (.ins c fs) = .ok d := fun {c fs f d} hc h => by
    show (if c ∈ papers then fldL fs f else .bad) = _
    rw [if_pos hc]
    unfold fldL
    rw [h]
  have e2 : eqF "word" (.ins c fs) (.ins c' fs') = .ok (.bl (w == w')) := by
    unfold eqF
    rw [f1 hc hw, R.ok_bind, f1 hc' hw', R.ok_bind, eqD_strs]
  obtain ⟨p1, d1⟩ := plain_tup hv hl
  obtain ⟨p2, d2⟩ := plain_tup hv' hl'
  have e3 : eqF "parts" (.ins c fs) (.ins c' fs') = .ok (.bl ((D.tup (vs.map fx)).eqv (.tup (vs'.map fx)))) := by
    have ok : okEq (.tup (vs.map fx)) (.tup (vs'.map fx)) = true := by
      unfold okEq
      rw [p1, p2, decide_eq_true (Nat.le_trans (Nat.min_le_left _ _) (Nat.le_trans d1 (by decide)))]
      rfl
    unfold eqF
    rw [f1 hc hp, R.ok_bind, f1 hc' hp', R.ok_bind]
    unfold eqD
    rw [if_pos ok]
  unfold eqR
  rw [e1, R.ok_bind]
  show ∃ b, (if true = true then (eqF "word" (.ins c fs) (.ins c' fs') >>= fun a => toB a >>= fun c_1 => if c_1 then eqF "parts" (.ins c fs) (.ins c' fs') else .ok (.bl false)) else .ok (.bl false)) = .ok (.bl b) ∧ _
  rw [if_pos rfl, e2, R.ok_bind]
  show ∃ b, (if (w == w') = true then eqF "parts" (.ins c fs) (.ins c' fs') else .ok (.bl false)) = .ok (.bl b) ∧ _
  by_cases h : (w == w') = true
  · rw [if_pos h, e3]
    exact ⟨_, rfl, fun _ => h⟩
  · rw [if_neg h]
    exact ⟨false, rfl, fun h => by cases h⟩
theorem eqO_ok {c c' w w' : Str} {fs fs' : List (Str × D)} {vs vs' : List D} (hc : c ∈ papers) (hc' : c' ∈ papers) (hw : fs.lookup ("word" : Str) = some (D.str w)) (hw' : fs'.lookup ("word" : Str) = some (D.str w')) (hp : fs.lookup ("parts" : Str) = some (D.tup (vs.map fx))) (hp' : fs'.lookup ("parts" : Str) = some (D.tup (vs'.map fx)))
    (hv : ∀ x ∈ vs, Od 3 x) (hv' : ∀ x ∈ vs', Od 3 x) (hl : vs.length ≤ 3) (hl' : vs'.length ≤ 3) (ht : pTrue.lookup c = some true) (ht' : pTrue.lookup c' = some true) : ∃ b, eqO papers below eqR (.ins c fs) (.ins c' fs') = .ok (.bl b) ∧ (b = true → (w == w') = true) := by
  show ∃ b, (if c ∈ papers then (if c' ∈ papers then (if (c', c) ∈ below then eqR (.ins c' fs') (.ins c fs) else eqR (.ins c fs) (.ins c' fs')) else .bad) else .bad) = _ ∧ _
  rw [if_pos hc, if_pos hc']
  split
  · obtain ⟨b, h1, h2⟩ := eqR_ok hc' hc hw' hw hp' hp hv' hv hl' hl ht
    refine ⟨b, h1, fun h => ?_⟩
    have e := h2 h
    rw [beq_iff_eq] at e
    rw [e]
    exact beq_self_eq_true w
  · exact eqR_ok hc hc' hw hw' hp hp' hv hv' hl hl' ht'
theorem inner_ok {v : D × D × D} {rows : List D} (hr : ∀ r ∈ rows, IsRow r) {r : D} (h : IsRow r) (p : Pen) : ∃ y, un4 r = .ok y ∧ innerM v (.lst rows) y p = (.ok (.nx ()), p) := by
  cases h with
  | @mk c w fs vs t hc hw hp hv hl hb hd ht =>
    refine ⟨(.ins c fs, .str w, .tup vs, .bl t), rfl, ?_⟩
    have f1 : ∀ {f : Str} {d : D}, fs.lookup f = some d → fldD papers f (.ins c fs) = .ok d := fun {f d} h => by
      show (if c ∈ papers then fldL fs f else .bad) = _
      rw [if_pos hc]
      unfold fldL
      rw [h]
    have hm := mem_map_fx hv
    have er : reprD (.tup (vs.map fx)) = .ok (.str (D.tup (vs.map fx)).py.shown) := by
      show (if okRepr (.tup (vs.map fx)) = true then R.ok (D.str (D.tup (vs.map fx)).py.shown) else .bad) = _
      rw [if_pos (ok_repr_tup hm (by rw [List.length_map]; omega))]
    unfold innerM
    refine (no_gox ?_ ((no_gox ?_ rfl)))
    · refine (orB_gox ?_ ((orB_gox ?_ ((orB_gox ?_ ((orB_gox ?_ ?_)))))))
      · exact t2_go (u1_go rfl (f1 hw)) rfl (ne_strs w)
      · refine t2_go (u1_go (u1_go rfl (f1 hp)) er) (u1_go (u1_go (l1_go ?_) rfl) er) (ne_strs _)
        exact (gox (q := p) (a := vs) rfl (tuples_go hv))
      · refine t2_go (y := D.bl t) (u1_go (x := D.ins c fs) (y := D.bl t) rfl ?_) rfl (by cases t <;> rfl)
        show (match pBool.lookup c with | some b => R.ok (D.bl b) | none => .bad) = _
        rw [hb]
      · have e : (tr (u1 (isaI pTrue false) (dv (.ins c fs)))) p = (.ok true, p) := by
          refine (gox (u1_go (x := D.ins c fs) (y := D.bl true) rfl ?_) rfl)
          show (match pTrue.lookup c with | some b => R.ok (D.bl b) | none => .bad) = _
          rw [ht]
        exact (gox e rfl)
      · refine t2_go (y := D.bl t) (u1_go (x := D.ins c fs) (y := D.bl (!t)) rfl ?_) rfl (by cases t <;> rfl)
        show (match pDen.lookup c with | some b => R.ok (D.bl b) | none => .bad) = _
        rw [hd]
    · refine (orB_gox ?_ ((orB_gox ?_ ?_)))
      · refine t2_go (x := D.lst []) (y := D.lst []) (l1_go ?_) rfl rfl
        refine (gox (q := p) (a := rows) rfl (lc_none rows fun o ho => ?_))
        cases hr o ho with
        | @mk c' w' fs' vs' t' hc' hw' hp' hv' hl' hb' hd' ht' =>
          obtain ⟨b, e1, e2⟩ := eqO_ok hc' hc hw' hw hp' hp hv' hv hl' hl ht' ht
          refine anB_go (t2_go (x := D.ins c' fs') (y := D.ins c fs) rfl rfl e1) fun hbt => t2_go (x := D.str w') (y := D.str w) rfl rfl ?_
          rw [neD_strs, e2 hbt]
          rfl
      · refine t2_go (x := D.ins c fs) (y := D.tup vs) rfl rfl ?_
        show (if c ∈ papers then eqR (.ins c fs) (.tup vs) else .bad) = _
        rw [if_pos hc]
        rfl
      · refine t2_go (x := D.ins c fs) (y := D.str w) rfl rfl ?_
        show (if c ∈ papers then eqR (.ins c fs) (.str w) else .bad) = _
        rw [if_pos hc]
        rfl
theorem loop_ok {v : D × D × D} {rows : List D} (hr : ∀ r ∈ rows, IsRow r) (p : Pen) : ∀ xs : List D, (∀ x ∈ xs, IsRow x) → forM un4 (fun (_ : Unit) y => innerM v (.lst rows) y) xs () p = (.ok (.nx ()), p)
  | [], _ => rfl
  | x :: xs, h => by
    obtain ⟨y, e1, e2⟩ := inner_ok (v := v) hr (h x (by simp)) p
    unfold forM
    refine (gox (q := p) (a := y) ?_ ((gox e2 (loop_ok hr p xs fun z hz => h z (by simp [hz])))))
    rw [e1]
    rfl
end L2.Ly.K02

set_option Elab.async false
set_option linter.all false
set_option maxRecDepth 100000
set_option maxHeartbeats 1600000
/-! K02w: a turn, the law. -/
namespace L2.Ly.K02
open PySem PySem.Spec PyProof.Rows L2

theorem c2_eq {A : M D} {B : M (List D)} {x : D} {xs : List D} (h : A = pure x) (k : B = pure xs) : c2 A B = pure (x :: xs) := by
  subst h k
  rfl
theorem fld_go {c f : Str} {fs : List (Str × D)} {d : D} (hc : c ∈ papers) (h : fs.lookup f = some d) : u1 (fldD papers f) (dv (.ins c fs)) = pure d := by
  have e : fldD papers f (.ins c fs) = .ok d := by
    show (if c ∈ papers then fldL fs f else .bad) = _
    rw [if_pos hc]
    unfold fldL
    rw [h]
  show M.lift (fldD papers f (.ins c fs)) = _
  rw [e]
  rfl
theorem ix_go {xs : List D} {i : Int} {d : D} (h : atI xs i = some d) : b2 ixD (dv (.lst xs)) (vi i) = pure d := by
  show M.lift (match atI xs i with | some d => R.ok d | none => .bad) = _
  rw [h]
  rfl
/-- two texts alike -/
theorem same_go {A : M (List D)} {B : M D} {xs : List D} {r : M (Out Unit)} (h1 : A = pure xs) (h2 : B = pure (.lst xs)) (hx : ∀ x ∈ xs, Od 3 x) (hl : xs.length ≤ 16) (p : Pen) : no_ (t2 neD (u1 reprD (l1 A)) (u1 reprD B)) r p = r p := by
  subst h1 h2
  have er : reprD (.lst xs) = .ok (.str (D.lst xs).py.shown) := by
    show (if okRepr (.lst xs) = true then R.ok (D.str (D.lst xs).py.shown) else .bad) = _
    rw [if_pos (ok_repr_lst hx hl)]
  exact no_go (t2_go (u1_go rfl er) (u1_go rfl er) (ne_strs _))
theorem all3 {P : D → Prop} {a b c : D} (ha : P a) (hb : P b) (hc : P c) {xs : List D} (h : ∀ x ∈ xs, x = a ∨ x = b ∨ x = c) : ∀ x ∈ xs, P x := fun x hx => by
  rcases h x hx with rfl | rfl | rfl <;> assumption
section
variable {a b c : D} (ha : Od 3 a) (hb : Od 3 b) (hc : Od 3 c) (p : Pen)
include ha hb hc
theorem l_eq {A : M (List D)} {xs : List D} (h : A = pure xs) : l1 A = pure (.lst xs) := by
  subst h
  rfl
theorem after4_ok : after4 (a, b, c) (.lst [fx a, fx b, fx c]) p = (.ok (.nx ()), p) := by
  unfold after4
  rw [mkk1_ok ha, mkk1_ok ha, mkk1_ok ha, mkk1_ok ha, mkk1_ok ha]
  refine (same_go (xs := [fx a, fx a, fx a, fx a, fx a]) ?_ rfl (all3 (Od.fix 3 a ha) (Od.fix 3 b hb) (Od.fix 3 c hc) (by simp)) (by simp) p).trans rfl
  exact c2_eq (fld_go (by decide +kernel) rfl) (c2_eq (fld_go (by decide +kernel) rfl) (c2_eq (fld_go (by decide +kernel) rfl) (c2_eq (fld_go (by decide +kernel) rfl) (c2_eq (fld_go (by decide +kernel) rfl) rfl))))
theorem after3_ok : after3 (a, b, c) (.lst [fx a, fx b, fx c]) p = (.ok (.nx ()), p) := by
  unfold after3
  rw [mkk2_ok ha hb rfl, mkk2_ok ha hb rfl, mkk2_ok ha hb rfl]
  refine (gox (q := p) rfl ?_)
  refine (same_go (xs := [fx a, fx b, fx a, fx b, fx a, fx b]) ?_ rfl (all3 (Od.fix 3 a ha) (Od.fix 3 b hb) (Od.fix 3 c hc) (by simp)) (by simp) p).trans (after4_ok ha hb hc p)
  exact c2_eq (fld_go (by decide +kernel) rfl) (c2_eq (fld_go (by decide +kernel) rfl) (c2_eq (fld_go (by decide +kernel) rfl) (c2_eq (fld_go (by decide +kernel) rfl) (c2_eq (fld_go (by decide +kernel) rfl) (c2_eq (fld_go (by decide +kernel) rfl) rfl)))))
theorem after2_ok : after2 (a, b, c) (.lst [fx a, fx b, fx c]) p = (.ok (.nx ()), p) := by
  unfold after2
  rw [mkk2_ok ha hb rfl, mkk2_ok ha hb rfl, mkk3_ok ha hb hc rfl]
  refine (gox (q := p) rfl ?_)
  refine (same_go (xs := [fx a, fx b, fx a, fx b, fx a, fx b, fx c]) ?_ rfl (all3 (Od.fix 3 a ha) (Od.fix 3 b hb) (Od.fix 3 c hc) (by simp)) (by simp) p).trans (after3_ok ha hb hc p)
  exact c2_eq (fld_go (by decide +kernel) rfl) (c2_eq (fld_go (by decide +kernel) rfl) (c2_eq (fld_go (by decide +kernel) rfl) (c2_eq (fld_go (by decide +kernel) rfl) (c2_eq (fld_go (by decide +kernel) rfl) (c2_eq (fld_go (by decide +kernel) rfl) (c2_eq (fld_go (by decide +kernel) rfl) rfl))))))
theorem after1_ok : after1 (a, b, c) (.lst [fx a, fx b, fx c]) p = (.ok (.nx ()), p) := by
  unfold after1
  rw [mkk2_ok ha hb rfl, mkk3_ok ha hb hc rfl]
  refine (gox (q := p) rfl ?_)
  refine (same_go (xs := [fx a, fx b, fx a, fx b, fx c]) ?_ rfl (all3 (Od.fix 3 a ha) (Od.fix 3 b hb) (Od.fix 3 c hc) (by simp)) (by simp) p).trans (after2_ok ha hb hc p)
  exact c2_eq (fld_go (by decide +kernel) rfl) (c2_eq (fld_go (by decide +kernel) rfl) (c2_eq (fld_go (by decide +kernel) rfl) (c2_eq (fld_go (by decide +kernel) rfl) (c2_eq (fld_go (by decide +kernel) rfl) rfl))))
theorem after_ok : afterM (a, b, c) p = (.ok (.nx ()), p) := by
  unfold afterM
  refine (gox (q := p) (a := [fx a, fx b, fx c]) ?_ (after1_ok ha hb hc p))
  exact (gox (q := p) (a := [a, b, c]) rfl (tuples_go (mem3 ha hb hc)))
end
def rws (a b c : D) : List D :=
  [rowD "Keeps" "keeps" (fsOf "keeps" ["rows"] [a]) true [a], rowD "Falls" "falls" (fsOf "falls" ["run"] [a]) false [a], rowD "Run" "run" (fsOf "run" ["first", "events"] [a, b]) true [a, b], rowD "Relies" "relies" (fsOf "relies" ["rows", "sketches"] [a, b]) true [a, b], rowD "Fewest" "fewest" (fsOf "fewest" ["number", "run", "rows"] [a, b, c]) true [a, b, c]] ++
  [rowD "Again" "again" (fsOf "again" ["rows"] [a]) true [a], rowD "Never" "never" (fsOf "never" ["run", "events"] [a, b]) false [a, b], rowD "Explained" "explained" (fsOf "explained" ["run"] [a]) true [a], rowD "Unexplained" "unexplained" (fsOf "unexplained" ["rows"] [a]) false [a], rowD "Sure" "sure" (fsOf "sure" ["records", "papers"] [a, b]) true [a, b]] ++
  [rowD "Borne" "borne" (fsOf "borne" ["bears", "breaks"] [a, b]) true [a, b], rowD "Together" "together" (fsOf "together" ["goes", "breaks"] [a, b]) true [a, b], rowD "Answers" "answers" (fsOf "answers" ["places", "rows", "falls"] [a, b, c]) true [a, b, c], rowD "Paper" "zz" (fs0 "zz" [a, b]) true [a, b], rowD "Denial" "zz" (fs0 "zz" [a]) false [a]]
theorem rws_ok {a b c : D} (ha : Od 3 a) (hb : Od 3 b) (hc : Od 3 c) : ∀ r ∈ rws a b c, IsRow r := by
  have m1 := mem1 ha
  have m2 := mem2 ha hb
  have m3 := mem3 ha hb hc
  intro r hr
  simp only [rws, List.mem_append, List.mem_cons, List.not_mem_nil, or_false] at hr
  rcases hr with ((rfl | rfl | rfl | rfl | rfl) | (rfl | rfl | rfl | rfl | rfl)) | (rfl | rfl | rfl | rfl | rfl) <;>
    exact .mk (by decide +kernel) rfl rfl (by assumption) (by simp) (by decide +kernel) (by decide +kernel) (by decide +kernel)
theorem l1_5 {A B C D' E : M D} {a b c d e : D} (h1 : A = pure a) (h2 : B = pure b) (h3 : C = pure c) (h4 : D' = pure d) (h5 : E = pure e) (p : Pen) : (l1 (c2 A (c2 B (c2 C (c2 D' (c2 E n0)))))) p = (.ok (.lst [a, b, c, d, e]), p) := by
  subst h1 h2 h3 h4 h5
  rfl
theorem add_go {A : M D} {xs ys : List D} {p : Pen} (h : A p = (.ok (.lst ys), p)) (hl : xs.length + ys.length ≤ sizeLine) : (b2 addD (dv (.lst xs)) A) p = (.ok (.lst (xs ++ ys)), p) := by
  refine (gox (q := p) (a := D.lst xs) rfl ((gox h ?_)))
  show ((cat xs ys >>= fun zs => R.ok (D.lst zs)), p) = _
  unfold cat
  rw [if_pos hl]
  rfl
theorem sz30 : 30 ≤ sizeLine := by decide +kernel
theorem turn_ok (p : Pen) (h0 : 0 ≤ p.pos) (h1 : p.pos + 240 ≤ 4194304) : ∃ q, turnM p = (.ok (.nx ()), q) ∧ Near p q 240 := by
  have hf : ∀ (d : D) (p : Pen), 0 ≤ p.pos → p.pos + (66 : Nat) ≤ 4194304 → ∃ x q, ((vi 3) >>= fun x => m_any 17 x) p = (.ok x, q) ∧ Od 3 x ∧ Near p q (66 : Nat) := fun d p g0 g1 => m_any_ok 3 13 p g0 g1
  obtain ⟨ys, q, e1, hl, hy, nr⟩ := lc_ok hf (rangeL 0 3) p h0 (by show p.pos + ((3 : Nat) : Int) * ((66 : Nat) : Int) ≤ 4194304; omega)
  match ys, hl, hy, e1 with
  | [a, b, c], _, hy, e1 =>
    have ha := hy a (by simp)
    have hb := hy b (by simp)
    have hc := hy c (by simp)
    have nr' : Near p q 240 := nr.up (by show (((rangeL 0 3).length * 66 : Nat) : Int) ≤ 240; decide +kernel)
    refine ⟨q, ?_, nr'⟩
    unfold turnM
    refine (gox (q := q) (a := D.lst [a, b, c]) ((gox e1 rfl)) ?_)
    refine (gox (q := q) (a := (a, b, c)) rfl ?_)
    refine (gox (l1_5 (row1 ha) (row1 ha) (row2 ha hb rfl) (row2 ha hb rfl) (row3 ha hb hc rfl) q) ?_)
    refine (gox (add_go (l1_5 (row1 ha) (row2 ha hb rfl) (row1 ha) (row1 ha) (row2 ha hb rfl) q) (Nat.le_trans (by simp) sz30)) ?_)
    refine (gox (add_go (l1_5 (row2 ha hb rfl) (row2 ha hb rfl) (row3 ha hb hc rfl) (rowP2 ha hb) (rowP1 ha) q) (Nat.le_trans (by simp) sz30)) ?_)
    refine (gox (q := q) (a := rws a b c) rfl ?_)
    exact (gox (loop_ok (v := (a, b, c)) (rws_ok ha hb hc) q (rws a b c) (rws_ok ha hb hc)) (after_ok ha hb hc q))
theorem end_ok (p : Pen) : (endM p).1 = .ok (.bl true) := by kernel_rfl
theorem turns_ok : ∀ (xs : List D) (p : Pen), 0 ≤ p.pos → p.pos + xs.length * 240 ≤ 4194304 → ∃ q, forM R.ok (fun (_ : Unit) (_ : D) => turnM) xs () p = (.ok (.nx ()), q)
  | [], p, _, _ => ⟨p, rfl⟩
  | x :: xs, p, h0, h1 => by
    have e : ((x :: xs).length : Int) * 240 = xs.length * 240 + 240 := by
      rw [List.length_cons, Int.natCast_add, Int.add_mul]
      rfl
    rw [e] at h1
    have hz : (0 : Int) ≤ xs.length * 240 := Int.mul_nonneg (by omega) (by omega)
    obtain ⟨q, e1, nr⟩ := turn_ok p h0 (by omega)
    have := nr.lo
    have := nr.hi
    obtain ⟨r, e2⟩ := turns_ok xs q (by omega) (by omega)
    refine ⟨r, ?_⟩
    unfold forM
    exact (gox (q := p) (a := x) rfl ((gox e1 e2)))
theorem law_ok (ns : List Int) : (m_law ⟨ns, 0, 0⟩).1 = .ok (.bl true) := by
  obtain ⟨q, e⟩ := turns_ok (rangeL 0 4) ⟨ns, 0, 0⟩ (Int.le_refl _) (by show (0 : Int) + ((4 : Nat) : Int) * 240 ≤ 4194304; decide)
  have e2 : m_law ⟨ns, 0, 0⟩ = endM q := by
    unfold m_law
    exact (gox (q := ⟨ns, 0, 0⟩) (a := rangeL 0 4) rfl (go e))
  rw [e2]
  exact end_ok q
end L2.Ly.K02

/-! The end. -/
set_option maxRecDepth 100000 in
set_option maxHeartbeats 8000000 in
theorem PySem.Challenge.cw_leanon_k02_papers_and_errors_holds : PySem.Challenge.rw_leanon_k02_papers_and_errors.Holds := by
  exact L2.Ly.K02.holds_of fun ns _ => L2.Ly.K02.law_ok ns

