import PyProof.Rows.All
import Wide.All
import OpenK.AllK
import Wide.FinOn
import HandS.ForMost
import HandS.Walk
import HandS.Exc
import HandS.TryOnly
import HandS.ExcOwn
import HandS.WordsExc
import HandS.Wide
import HandS.Style
import HandS.TupAny
import HandS.TupMul
import HandS.Deep
import HandS.IsInst
import HandS.Zip
import HandS.SetFor
import HandS.Strs
import HandS.SortInts
import HandS.TupSets
import KE.GoesMore
import KE.GoesEnum
import PyProof.CollectStr
import PyProof.StrOps2
import PyProof.StrLoop
import PyProof.StrWalks
import HandS.List
import HandS.ExcIs
import PySem.Challenge.RW_rowmasks_k39_whole_more_dots_make_more
set_option Elab.async false
set_option linter.all false
set_option maxRecDepth 100000
/-! The data layer: a def's meaning as a plain function over data (PyData), on top of the readings. -/
namespace L2
namespace DL
open PySem PySem.Spec PyProof.Rows

abbrev D := PyData
/-- an object that is shared and changed in place -/
inductive Ob where
  | lst (ds : List D)
abbrev Wd := List Ob
/-- an error that leaves -/
structure Ex where
  cls : Str
  fs : List (Str × D)
inductive R (α : Type) where
  | ok (a : α) (s : Wd)
  | ex (e : Ex) (s : Wd)
  | no
def M (α : Type) := Wd → R α
def M.ret {α : Type} (a : α) : M α := fun s => .ok a s
def M.no {α : Type} : M α := fun _ => .no
def R.thn {α β : Type} : R α → (α → M β) → R β
  | .ok a s, f => f a s
  | .ex e s, _ => .ex e s
  | .no, _ => .no
def M.bind {α β : Type} (m : M α) (f : α → M β) : M β := fun s => (m s).thn f
instance : Monad M where
  pure := M.ret
  bind := M.bind
def ofO {α : Type} : Option α → M α
  | some a => M.ret a
  | none => M.no

/-- a handle: the n-th shared object -/
def hnd (n : Nat) : D := .dict [(.int n, .none)]

/-- where the shared objects stand; what is hidden (it stands, nothing speaks of it) -/
structure Mu where
  at_ : Nat → Addr
  hid : List Addr
/-- the heap without the shared objects and what is hidden -/
def Nh (μ : Mu) (n : Nat) (H : Hp) : Hp := fun a => if ((List.range n).any (fun k => μ.at_ k == a) || μ.hid.contains a) = true then none else H a
theorem nh_some {μ : Mu} {n : Nat} {H : Hp} {a : Addr} {o : HO} : Nh μ n H a = some o ↔ H a = some o ∧ (∀ k, k < n → μ.at_ k ≠ a) ∧ a ∉ μ.hid := by
  unfold Nh
  by_cases h : ((List.range n).any (fun k => μ.at_ k == a) || μ.hid.contains a) = true
  · rw [if_pos h]
    refine ⟨fun q => (by cases q), fun q => ?_⟩
    rcases Bool.or_eq_true_iff.mp h with h | h
    · obtain ⟨k, hk, e⟩ := List.any_eq_true.mp h
      exact absurd (by simpa using e) (q.2.1 k (List.mem_range.mp hk))
    · exact absurd (by simpa using h) q.2.2
  · rw [if_neg h]
    refine ⟨fun q => ⟨q, fun k hk e => h (Bool.or_eq_true_iff.mpr (.inl (List.any_eq_true.mpr ⟨k, List.mem_range.mpr hk, by simpa using e⟩))), fun z => h (Bool.or_eq_true_iff.mpr (.inr (by simpa using z)))⟩, fun q => q.1⟩
theorem nh_same {μ : Mu} {n : Nat} {H : Hp} : Same (Nh μ n H) H := fun _ _ h => (nh_some.mp h).1

structure Step (μ : Mu) (n : Nat) (H : Hp) (μ' : Mu) (n' : Nat) (H' : Hp) : Prop where
  le : n ≤ n'
  ag : ∀ k, k < n → μ'.at_ k = μ.at_ k
  hd : μ'.hid = μ.hid
  hk : ∀ a, a ∈ μ.hid → H' a = H a
  keep : Same (Nh μ n H) (Nh μ' n' H')
theorem Step.refl (μ : Mu) (n : Nat) (H : Hp) : Step μ n H μ n H := ⟨Nat.le_refl _, fun _ _ => rfl, rfl, fun _ _ => rfl, Same.refl _⟩
theorem Step.trans {μ μ1 μ2 : Mu} {n n1 n2 : Nat} {H H1 H2 : Hp} (a : Step μ n H μ1 n1 H1) (b : Step μ1 n1 H1 μ2 n2 H2) : Step μ n H μ2 n2 H2 :=
  ⟨Nat.le_trans a.le b.le, fun k hk => (b.ag k (Nat.lt_of_lt_of_le hk a.le)).trans (a.ag k hk), b.hd.trans a.hd, fun x hx => (b.hk x (by rw [a.hd]; exact hx)).trans (a.hk x hx), a.keep.trans b.keep⟩

/-! data without lists -/
mutual
def flat : PyData → Bool
  | .none => true
  | .bool _ => true
  | .int _ => true
  | .str _ => true
  | .tuple ds => flatAll ds
  | .list _ => false
  | .dict _ => false
def flatAll : List PyData → Bool
  | [] => true
  | d :: ds => flat d && flatAll ds
end
section
variable (K : PySem.W.Frag)
def ObOk (Hn H : Hp) (a : Addr) : Ob → Prop
  | .lst ds => flatAll ds = true ∧ ∃ vs, H a = some (.lst vs) ∧ DpAll K Hn vs ds
structure WOk (μ : Mu) (S : Wd) (H : Hp) : Prop where
  inj : ∀ i j, i < S.length → j < S.length → μ.at_ i = μ.at_ j → i = j
  ob : ∀ k o, S[k]? = some o → ObOk K (Nh μ S.length H) H (μ.at_ k) o
  ht : ∀ a, a ∈ μ.hid → ∃ o, H a = some o
  hn : ∀ k, k < S.length → μ.at_ k ∉ μ.hid
/-- a value is this data -/
def At (μ : Mu) (n : Nat) (Hn : Hp) (v : V) (d : D) : Prop := (∃ k, k < n ∧ d = hnd k ∧ v = .ref (μ.at_ k)) ∨ Dp K Hn v d
abbrev Env' := List (Option D)
structure EnvOk (μ : Mu) (n : Nat) (Hn : Hp) (ρ : Env') (σ : St) : Prop where
  len : ρ.length = σ.length
  at_ : ∀ (i : Nat) (d : D), ρ[i]? = some (some d) → ∃ v, σ[i]? = some (some v) ∧ At K μ n Hn v d
end

theorem seqT_mono {K : PySem.W.Frag} {H H' : Hp} {a : Addr} {xs : List V} (e : Same H H') (h : SqT K H a xs) : SqT K H' a xs := by
  rcases h with (h | ⟨o, h⟩) | h
  · exact .inl (.inl (e _ _ h))
  · exact .inl (.inr ⟨o, e _ _ h⟩)
  · exact .inr h
section
variable {K : PySem.W.Frag} {H H' : Hp}
mutual
theorem dp_mono (e : Same H H') : ∀ (d : PyData) (v : V), Dp K H v d → Dp K H' v d
  | .none, _, h => by cases h; exact .non
  | .bool b, _, h => by cases h; exact .bl b
  | .int i, _, h => by cases h; exact .int i
  | .str x, _, h => by cases h; exact .str x
  | .list ds, _, h => by
    cases h with
    | lst hs ha => exact .lst (e.seq hs) (dpAll_mono e ds _ ha)
  | .tuple ds, _, h => by
    cases h with
    | tup hs ha => exact .tup (seqT_mono e hs) (dpAll_mono e ds _ ha)
  | .dict kvs, _, h => by cases h
theorem dpAll_mono (e : Same H H') : ∀ (ds : List PyData) (vs : List V), DpAll K H vs ds → DpAll K H' vs ds
  | [], _, h => by cases h; exact .nil
  | d :: ds, _, h => by
    cases h with
    | cons h1 h2 => exact .cons (dp_mono e d _ h1) (dpAll_mono e ds _ h2)
end
/-- tuples stand -/
def Tups (H H' : Hp) : Prop := ∀ a xs, Rd H a (.tup xs) → Rd H' a (.tup xs)
theorem Same.tups (e : Same H H') : Tups H H' := fun a xs h => by
  rcases h with h | ⟨o, h⟩
  · exact .inl (e _ _ h)
  · exact .inr ⟨o, e _ _ h⟩
mutual
theorem dp_flat (e : Tups H H') : ∀ (d : PyData) (v : V), flat d = true → Dp K H v d → Dp K H' v d
  | .none, _, _, h => by cases h; exact .non
  | .bool b, _, _, h => by cases h; exact .bl b
  | .int i, _, _, h => by cases h; exact .int i
  | .str x, _, _, h => by cases h; exact .str x
  | .list ds, _, f, h => by simp [flat] at f
  | .tuple ds, _, f, h => by
    cases h with
    | tup hs ha =>
      refine .tup ?_ (dpAll_flat e ds _ (by simpa [flat] using f) ha)
      rcases hs with hs | hs
      · exact .inl (e _ _ hs)
      · exact .inr hs
  | .dict kvs, _, _, h => by cases h
theorem dpAll_flat (e : Tups H H') : ∀ (ds : List PyData) (vs : List V), flatAll ds = true → DpAll K H vs ds → DpAll K H' vs ds
  | [], _, _, h => by cases h; exact .nil
  | d :: ds, _, f, h => by
    have f' : flat d = true ∧ flatAll ds = true := by simpa [flatAll] using f
    cases h with
    | cons h1 h2 => exact .cons (dp_flat e d _ f'.1 h1) (dpAll_flat e ds _ f'.2 h2)
end
theorem dpAll_length : ∀ {vs : List V} {ds : List PyData}, DpAll K H vs ds → vs.length = ds.length
  | _, _, .nil => rfl
  | _, _, .cons _ t => by rw [List.length_cons, List.length_cons, dpAll_length t]
theorem dpAll_get : ∀ {vs : List V} {ds : List PyData} {i : Nat} {v : V}, DpAll K H vs ds → vs[i]? = some v → ∃ d, ds[i]? = some d ∧ Dp K H v d
  | _, _, _, _, .nil, e => by simp at e
  | _, _, 0, _, .cons h _, e => by
    simp at e; subst e
    exact ⟨_, rfl, h⟩
  | _, _, i + 1, v, .cons _ t, e => by
    obtain ⟨d, h1, h2⟩ := dpAll_get (i := i) (v := v) t (by simpa using e)
    exact ⟨d, by simpa using h1, h2⟩
theorem dpAll_get' : ∀ {vs : List V} {ds : List PyData} {i : Nat} {d : PyData}, DpAll K H vs ds → ds[i]? = some d → ∃ v, vs[i]? = some v ∧ Dp K H v d
  | _, _, _, _, .nil, e => by simp at e
  | _, _, 0, _, .cons h _, e => by
    simp at e; subst e
    exact ⟨_, rfl, h⟩
  | _, _, i + 1, d, .cons _ t, e => by
    obtain ⟨v, h1, h2⟩ := dpAll_get' (i := i) (d := d) t (by simpa using e)
    exact ⟨v, by simpa using h1, h2⟩
theorem dpAll_append : ∀ {vs ws : List V} {ds es : List PyData}, DpAll K H vs ds → DpAll K H ws es → DpAll K H (vs ++ ws) (ds ++ es)
  | _, _, _, _, .nil, h => h
  | _, _, _, _, .cons h t, h' => .cons h (dpAll_append t h')
theorem dpAll_drop : ∀ {vs : List V} {ds : List PyData} (n : Nat), DpAll K H vs ds → DpAll K H (vs.drop n) (ds.drop n)
  | _, _, 0, h => h
  | _, _, _ + 1, .nil => .nil
  | _, _, n + 1, .cons _ t => dpAll_drop n t
theorem dpAll_take : ∀ {vs : List V} {ds : List PyData} (n : Nat), DpAll K H vs ds → DpAll K H (vs.take n) (ds.take n)
  | _, _, 0, _ => .nil
  | _, _, _ + 1, .nil => .nil
  | _, _, n + 1, .cons h t => .cons h (dpAll_take n t)
theorem dpAll_set : ∀ {vs : List V} {ds : List PyData} (i : Nat) {v : V} {d : PyData}, Dp K H v d → DpAll K H vs ds → DpAll K H (vs.set i v) (ds.set i d)
  | _, _, _, _, _, _, .nil => .nil
  | _, _, 0, _, _, q, .cons _ t => .cons q t
  | _, _, i + 1, _, _, q, .cons h t => .cons h (dpAll_set i q t)
theorem dpAll_reverse {vs : List V} {ds : List PyData} (h : DpAll K H vs ds) : DpAll K H vs.reverse ds.reverse := by
  induction vs generalizing ds with
  | nil => cases h; exact .nil
  | cons v vs ih =>
    cases h with
    | cons h1 h2 =>
      rw [List.reverse_cons, List.reverse_cons]
      exact dpAll_append (ih h2) (.cons h1 .nil)
theorem dpAll_int : ∀ {ns : List Int} {vs : List V}, DpAll K H vs (ns.map PyData.int) → vs = ns.map V.int
  | [], _, h => by cases h; rfl
  | n :: ns, _, h => by
    cases h with
    | cons h1 h2 => cases h1; rw [dpAll_int h2]; rfl
theorem dpAll_of_int : ∀ (ns : List Int), DpAll K H (ns.map V.int) (ns.map PyData.int)
  | [] => .nil
  | n :: ns => .cons (.int n) (dpAll_of_int ns)
theorem dpAll_bool : ∀ {ns : List Bool} {vs : List V}, DpAll K H vs (ns.map PyData.bool) → vs = ns.map V.bl
  | [], _, h => by cases h; rfl
  | n :: ns, _, h => by
    cases h with
    | cons h1 h2 => cases h1; rw [dpAll_bool h2]; rfl
theorem dpAll_str : ∀ {ns : List Str} {vs : List V}, DpAll K H vs (ns.map PyData.str) → vs = ns.map V.str
  | [], _, h => by cases h; rfl
  | n :: ns, _, h => by
    cases h with
    | cons h1 h2 => cases h1; rw [dpAll_str h2]; rfl
end
section
variable {K : PySem.W.Frag} {μ μ' : Mu} {n n' : Nat} {H H' : Hp} {S : Wd}
theorem At.step {v : V} {d : D} (s : Step μ n H μ' n' H') (h : At K μ n (Nh μ n H) v d) : At K μ' n' (Nh μ' n' H') v d := by
  rcases h with ⟨k, hk, e1, e2⟩ | h
  · exact .inl ⟨k, Nat.lt_of_lt_of_le hk s.le, e1, by rw [s.ag k hk]; exact e2⟩
  · exact .inr (dp_mono s.keep _ _ h)
theorem EnvOk.step {ρ : Env'} {σ : St} (s : Step μ n H μ' n' H') (h : EnvOk K μ n (Nh μ n H) ρ σ) : EnvOk K μ' n' (Nh μ' n' H') ρ σ :=
  ⟨h.len, fun i d e => let ⟨v, e1, a⟩ := h.at_ i d e; ⟨v, e1, a.step s⟩⟩
theorem WOk.tracked (w : WOk K μ S H) {k : Nat} (hk : k < S.length) : ∃ o, H (μ.at_ k) = some o := by
  have q := w.ob k S[k] (List.getElem?_eq_getElem hk)
  cases e : S[k] with
  | lst ds => rw [e] at q; obtain ⟨_, vs, h, _⟩ := q; exact ⟨_, h⟩
theorem WOk.new (w : WOk K μ S H) {p : Addr} (hp : H p = none) {k : Nat} (hk : k < S.length) : μ.at_ k ≠ p := fun e => by
  obtain ⟨o, h⟩ := w.tracked hk
  rw [e, hp] at h; cases h
theorem WOk.newH (w : WOk K μ S H) {p : Addr} (hp : H p = none) : p ∉ μ.hid := fun e => by
  obtain ⟨o, h⟩ := w.ht p e
  rw [hp] at h; cases h
theorem ObOk.mono {Hn Hn' : Hp} {a : Addr} {o : Ob} (e : Same Hn Hn') (e2 : H' a = H a) (h : ObOk K Hn H a o) : ObOk K Hn' H' a o := by
  cases o with
  | lst ds => obtain ⟨hf, vs, h1, h2⟩ := h; exact ⟨hf, vs, e2.trans h1, dpAll_mono e _ _ h2⟩
theorem step_new (w : WOk K μ S H) {p : Addr} (hp : H p = none) (o : HO) : Step μ S.length H μ S.length (upd H p o) ∧ WOk K μ S (upd H p o) := by
  have k : Same (Nh μ S.length H) (Nh μ S.length (upd H p o)) := fun a u e => by
    obtain ⟨e1, e2⟩ := nh_some.mp e
    exact nh_some.mpr ⟨by rw [upd_ne (ne_of_none e1 hp)]; exact e1, e2⟩
  have hh : ∀ a, a ∈ μ.hid → upd H p o a = H a := fun a ha => upd_ne fun z => w.newH hp (by rw [← z]; exact ha)
  refine ⟨⟨Nat.le_refl _, fun _ _ => rfl, rfl, hh, k⟩, w.inj, fun i ob h => ?_, fun a ha => by rw [hh a ha]; exact w.ht a ha, w.hn⟩
  have hi : i < S.length := (List.getElem?_eq_some_iff.mp h).1
  exact (w.ob i ob h).mono k (upd_ne (w.new hp hi))
theorem nh_new (w : WOk K μ S H) {p : Addr} (hp : H p = none) (o : HO) : Nh μ S.length (upd H p o) p = some o :=
  nh_some.mpr ⟨upd_same, fun k hk => w.new hp hk, w.newH hp⟩
end

/-! ### what comes of a meaning -/
section
variable (K : PySem.W.Frag) (mg : Str → Option Value)
def ClsOf (x : Str) (c : Value) : Prop := mg x = some c ∨ (mg x = none ∧ bootBuiltins x = some c)
def FsOk (Hn H : Hp) (dx : Option Addr) (fs : List (Str × D)) : Prop :=
  (dx = none ∧ fs = []) ∨ ∃ a vs, fs ≠ [] ∧ dx = some a ∧ H a = some (.xd vs) ∧ Paired (fun (p : Str × V) (q : Str × D) => p.1 = q.1 ∧ Dp K Hn p.2 q.2) vs fs
def EOk (Ec : XK) (e : Ex) (Hn H : Hp) : Prop := ∀ c dx, ClsOf mg e.cls c → FsOk K Hn H dx e.fs → Ec c dx H
def Post {α : Type} (Ec : XK) (μ : Mu) (S : Wd) (H : Hp) : R α → (α → Mu → Wd → Hp → Prop) → Prop
  | .ok a S', P => ∀ μ' H', Step μ S.length H μ' S'.length H' → WOk K μ' S' H' → P a μ' S' H'
  | .ex e S', _ => ∀ μ' H', Step μ S.length H μ' S'.length H' → WOk K μ' S' H' → EOk K mg Ec e (Nh μ' S'.length H') H'
  | .no, _ => False
/-- an expression's reading by its meaning -/
def tE (W : WX) (f : Env' → M D) : TE := fun σ H Q => ∃ μ S ρ, EnvOk K μ S.length (Nh μ S.length H) ρ σ ∧ WOk K μ S H ∧
  Post K mg (fun c d H' => W c d σ H') μ S H (f ρ S) (fun d μ' S' H' => ∀ v, At K μ' S'.length (Nh μ' S'.length H') v d → Q v H')
def tB (W : WX) (f : Env' → M Bool) : TT := fun σ H Q => ∃ μ S ρ, EnvOk K μ S.length (Nh μ S.length H) ρ σ ∧ WOk K μ S H ∧
  Post K mg (fun c d H' => W c d σ H') μ S H (f ρ S) (fun b μ' S' H' => Q b H')
def tA (W : WX) (f : Env' → M (List D)) : TA := fun σ H Q => ∃ μ S ρ, EnvOk K μ S.length (Nh μ S.length H) ρ σ ∧ WOk K μ S H ∧
  Post K mg (fun c d H' => W c d σ H') μ S H (f ρ S) (fun ds μ' S' H' => ∀ vs, Paired (At K μ' S'.length (Nh μ' S'.length H')) vs ds → Q vs H')
end
section
variable {K : PySem.W.Frag} {mg : Str → Option Value} {α β : Type} {Ec : XK} {μ μ1 : Mu} {S S1 : Wd} {H H1 : Hp}
theorem Post.rebase {r : R α} {P : α → Mu → Wd → Hp → Prop} (s : Step μ S.length H μ1 S1.length H1) (h : Post K mg Ec μ S H r P) : Post K mg Ec μ1 S1 H1 r P := by
  cases r with
  | ok a S' => exact fun μ' H' s' w => h μ' H' (s.trans s') w
  | ex e S' => exact fun μ' H' s' w => h μ' H' (s.trans s') w
  | no => exact h
theorem Post.mono {r : R α} {P P' : α → Mu → Wd → Hp → Prop} (h : Post K mg Ec μ S H r P) (k : ∀ a μ' S' H', Step μ S.length H μ' S'.length H' → WOk K μ' S' H' → P a μ' S' H' → P' a μ' S' H') : Post K mg Ec μ S H r P' := by
  cases r with
  | ok a S' => exact fun μ' H' s' w => k _ _ _ _ s' w (h μ' H' s' w)
  | ex e S' => exact h
  | no => exact h
theorem Post.bind {m : M α} {f : α → M β} {P : β → Mu → Wd → Hp → Prop} (h : Post K mg Ec μ S H (M.bind m f S) P) :
    Post K mg Ec μ S H (m S) (fun a μ1 S1 H1 => Post K mg Ec μ1 S1 H1 (f a S1) P) := by
  unfold M.bind at h
  cases e : m S with
  | ok a S' =>
    rw [e] at h
    exact fun μ' H' s' w => Post.rebase s' h
  | ex e' S' => rw [e] at h; exact h
  | no => rw [e] at h; exact h
theorem Post.bindB {μ0 : Mu} {S0 : Wd} {H0 : Hp} {m : M α} {f : α → M β} {P : β → Mu → Wd → Hp → Prop} (h : Post K mg Ec μ0 S0 H0 (M.bind m f S) P) (s : Step μ0 S0.length H0 μ S.length H) :
    Post K mg Ec μ S H (m S) (fun a μ1 S1 H1 => Post K mg Ec μ0 S0 H0 (f a S1) P) := by
  unfold M.bind at h
  cases e : m S with
  | ok a S' =>
    rw [e] at h
    exact fun μ' H' s' w => h
  | ex e' S' => rw [e] at h; exact h.rebase s
  | no => rw [e] at h; exact h
theorem Post.ofO {o : Option α} {P : α → Mu → Wd → Hp → Prop} (h : Post K mg Ec μ S H (DL.ofO o S) P) : ∃ a, o = some a ∧ Post K mg Ec μ S H (.ok a S) P := by
  cases o with
  | none => exact h.elim
  | some a => exact ⟨a, rfl, h⟩
theorem Post.here {a : α} {P : α → Mu → Wd → Hp → Prop} (h : Post K mg Ec μ S H (.ok a S) P) (w : WOk K μ S H) : P a μ S H := h μ H (Step.refl ..) w
theorem Post.new {a : α} {P : α → Mu → Wd → Hp → Prop} (h : Post K mg Ec μ S H (.ok a S) P) (w : WOk K μ S H) {p : Addr} (hp : H p = none) (o : HO) : P a μ S (upd H p o) := h μ _ (step_new w hp o).1 (step_new w hp o).2
end

/-! ### the judgements -/
def EJ (X : Cx) (W : WX) (e : Expr) (f : Env' → M D) : Prop := PE X e (tE X.K X.mg W f)
def BJ (X : Cx) (W : WX) (e : Expr) (f : Env' → M Bool) : Prop := PT X e (tB X.K X.mg W f)
def BW (X : Cx) (W : WX) (e : Expr) (f : Env' → M Bool) : Prop := PW X e (tB X.K X.mg W f)
def AJ (X : Cx) (W : WX) (es : List Expr) (f : Env' → M (List D)) : Prop := PA X es (tA X.K X.mg W f)
section
variable {X : Cx} {W : WX} {e : Expr}
theorem pe_imp {t t' : TE} (h : PE X e t) (k : ∀ σ H Q, t' σ H Q → t σ H Q) : PE X e t' := ⟨fun pins s σ H Q I q => h.run pins s σ H Q I (k σ H Q q)⟩
theorem pt_imp {t t' : TT} (h : PT X e t) (k : ∀ σ H Q, t' σ H Q → t σ H Q) : PT X e t' := ⟨fun pins s σ H Q I q => h.run pins s σ H Q I (k σ H Q q)⟩
theorem pw_imp {t t' : TT} (h : PW X e t) (k : ∀ σ H Q, t' σ H Q → t σ H Q) : PW X e t' := ⟨fun wh pins s σ H Q I q => h.run wh pins s σ H Q I (k σ H Q q)⟩
theorem pa_imp {es : List Expr} {t t' : TA} (h : PA X es t) (k : ∀ σ H Q, t' σ H Q → t σ H Q) : PA X es t' := ⟨fun pos pins s σ H Q I q => h.run pos pins s σ H Q I (k σ H Q q)⟩
/-- lists and tuples have their largest length -/
def Sz (K : PySem.W.Frag) (H : Hp) : Prop := (∀ a xs, SqL K H a xs → xs.length ≤ sizeLine) ∧ ∀ a xs, SqT K H a xs → xs.length ≤ sizeLine
theorem sz_of {pins : List (Addr × Obj)} {σ : St} {H : Hp} {s : Shared} (I : Inv X pins σ H s) : Sz X.K H :=
  ⟨fun a xs h => let ⟨_, _, _, z⟩ := I.list h; z, fun a xs h => let ⟨_, _, _, z⟩ := I.tuple h; z⟩
theorem pe_sz {t : TE} (h : PE X e t) : PE X e (fun σ H Q => t σ H fun v H' => Sz X.K H' → Q v H') := ⟨fun pins s σ H Q I q =>
  thn (h.run pins s σ H _ I q) fun u s' ⟨v, H', I', r, k⟩ => ⟨v, H', I', r, k (sz_of I')⟩⟩
theorem pa_sz {es : List Expr} {t : TA} (h : PA X es t) : PA X es (fun σ H Q => t σ H fun v H' => Sz X.K H' → Q v H') := ⟨fun pos pins s σ H Q I q =>
  thn (h.run pos pins s σ H _ I q) fun u s' ⟨v, H', I', r, k⟩ => ⟨v, H', I', r, k (sz_of I')⟩⟩

/-! ### names and constants -/
def xVar (i : Nat) : Env' → M D := fun ρ => match ρ[i]? with
  | some (some d) => M.ret d
  | _ => M.no
def xC (d : D) : Env' → M D := fun _ => M.ret d
theorem ej_var (i : Nat) {x : Str} {pos : Pos} (hN : X.N[i]? = some x := by rfl) (hv : Vis X.env.scope x := by first | exact Or.inl rfl | exact Or.inr (Or.inl rfl) | exact Or.inr (Or.inr rfl)) (hd : (x == ("__debug__" : Str)) = false := by decide)
    (hcd : (x == ("__classdict__" : Str)) = false := by decide) : EJ X W (.Name x pos) (xVar i) := by
  refine pe_imp (pe_var hN hv hd hcd) fun σ H Q h => ?_
  obtain ⟨μ, S, ρ, he, hw, h⟩ := h
  unfold xVar at h
  match e : ρ[i]? with
  | some (some d) =>
    rw [e] at h
    obtain ⟨v, e1, a⟩ := he.at_ i d e
    exact ⟨v, e1, h.here hw v a⟩
  | some none => rw [e] at h; exact h.elim
  | none => rw [e] at h; exact h.elim
theorem ej_const {te : TE} {d : D} {v : V} (h : PE X e te) (hd : ∀ H, Dp X.K H v d) (ht : te = tC v) : EJ X W e (xC d) := by
  subst ht
  refine pe_imp h fun σ H Q h => ?_
  obtain ⟨μ, S, ρ, he, hw, h⟩ := h
  exact h.here hw v (.inr (hd _))
theorem ej_int {i j pos} : EJ X W (.Constant (.int i) j pos) (xC (.int i)) := ej_const pe_int (fun _ => .int i) rfl
theorem ej_bl {b j pos} : EJ X W (.Constant (.bool b) j pos) (xC (.bool b)) := ej_const pe_bl (fun _ => .bl b) rfl
theorem ej_non {j pos} : EJ X W (.Constant .none j pos) (xC .none) := ej_const pe_non (fun _ => .non) rfl
theorem ej_str {x j pos} : EJ X W (.Constant (.str x) j pos) (xC (.str x)) := ej_const pe_str (fun _ => .str x) rfl
/-- a module's constant -/
def GlK (K : PySem.W.Frag) (mg : Str → Option Value) (x : Str) (d : D) : Prop := ∃ u v, mg x = some u ∧ RelV v u ∧ ∀ H, Dp K H v d
abbrev GlD (X : Cx) (x : Str) (d : D) : Prop := GlK X.K X.mg x d
theorem ej_glob {x : Str} {d : D} {pos : Pos} (g : GlD X x d) (hg : Gl X x := by rfl) (hd : (x == ("__debug__" : Str)) = false := by decide) : EJ X W (.Name x pos) (xC d) := by
  obtain ⟨u, v, hm, r, k⟩ := g
  exact ej_const (pe_glob hg hm r hd) k rfl
/-! ### operators -/
/-- what an operator's rule asks is what its meaning gives -/
def OpS (K : PySem.W.Frag) (mg : Str → Option Value) (r : R2) (g : D → D → M D) : Prop := ∀ (Ec : XK) (μ : Mu) (S : Wd) (H : Hp) (x y : V) (d e : D) (Q : VK), Sz K H → WOk K μ S H → At K μ S.length (Nh μ S.length H) x d → At K μ S.length (Nh μ S.length H) y e →
  Post K mg Ec μ S H (g d e S) (fun z μ' S' H' => ∀ v, At K μ' S'.length (Nh μ' S'.length H') v z → Q v H') → r x y H Q
def x2 (g : D → D → M D) (fa fb : Env' → M D) : Env' → M D := fun ρ => M.bind (fa ρ) fun x => M.bind (fb ρ) fun y => g x y
theorem ej_two {a b : Expr} {r : R2} {g : D → D → M D} {fa fb : Env' → M D} (hs : OpS X.K X.mg r g) (ha : EJ X W a fa) (hb : EJ X W b fb) (mk : ∀ {ta tb : TE}, PE X a ta → PE X b tb → PE X e (tOp r ta tb)) : EJ X W e (x2 g fa fb) := by
  refine pe_imp (mk ha (pe_sz hb)) fun σ H Q h => ?_
  obtain ⟨μ, S, ρ, he, hw, h⟩ := h
  refine ⟨μ, S, ρ, he, hw, h.bind.mono fun x μ1 S1 H1 s1 w1 h1 v a1 => ?_⟩
  refine ⟨μ1, S1, ρ, he.step s1, w1, h1.bind.mono fun y μ2 S2 H2 s2 w2 h2 u a2 sz => ?_⟩
  exact hs _ μ2 S2 H2 v u x y Q sz w2 (a1.step s2) a2 h2
theorem ej_bin {a b : Expr} {op : Operator} {r : R2} {g : D → D → M D} {fa fb : Env' → M D} {pos : Pos} (ho : OpR X (binaryOp op) r) (hs : OpS X.K X.mg r g) (ha : EJ X W a fa) (hb : EJ X W b fb) : EJ X W (.BinOp a op b pos) (x2 g fa fb) :=
  ej_two hs ha hb fun h1 h2 => pe_op ho h1 h2
theorem ej_cmp {a b : Expr} {op : CmpOp} {r : R2} {g : D → D → M D} {fa fb : Env' → M D} {pos : Pos} (ho : OpR X (compareOp op) r) (hs : OpS X.K X.mg r g) (ha : EJ X W a fa) (hb : EJ X W b fb) (hm : behindInMarks op b = false := by exact nomark _) : EJ X W (.Compare a [op] [b] pos) (x2 g fa fb) :=
  ej_two hs ha hb fun h1 h2 => pe_cmpR ho h1 h2 hm
end
end DL
end L2

set_option Elab.async false
set_option linter.all false
set_option maxRecDepth 100000
/-! operators over data -/
namespace L2
namespace DL
open PySem PySem.Spec PyProof.Rows
section
variable {K : PySem.W.Frag} {mg : Str → Option Value} {μ : Mu} {n : Nat} {H : Hp} {S : Wd} {x y : V}
theorem at_int {i : Int} (h : At K μ n (Nh μ n H) x (.int i)) : x = .int i := by
  rcases h with ⟨k, _, e, _⟩ | h
  · cases e
  · cases h; rfl
theorem at_bool {i : Bool} (h : At K μ n (Nh μ n H) x (.bool i)) : x = .bl i := by
  rcases h with ⟨k, _, e, _⟩ | h
  · cases e
  · cases h; rfl
theorem at_str {i : Str} (h : At K μ n (Nh μ n H) x (.str i)) : x = .str i := by
  rcases h with ⟨k, _, e, _⟩ | h
  · cases e
  · cases h; rfl
theorem at_none (h : At K μ n (Nh μ n H) x .none) : x = .non := by
  rcases h with ⟨k, _, e, _⟩ | h
  · cases e
  · cases h; rfl
theorem at_list {ds : List D} (h : At K μ n (Nh μ n H) x (.list ds)) : ∃ a xs, x = .ref a ∧ SqL K (Nh μ n H) a xs ∧ DpAll K (Nh μ n H) xs ds := by
  rcases h with ⟨k, _, e, _⟩ | h
  · cases e
  · cases h with
    | lst h1 h2 => exact ⟨_, _, rfl, h1, h2⟩
theorem at_tup {ds : List D} (h : At K μ n (Nh μ n H) x (.tuple ds)) : ∃ a xs, x = .ref a ∧ SqT K (Nh μ n H) a xs ∧ DpAll K (Nh μ n H) xs ds := by
  rcases h with ⟨k, _, e, _⟩ | h
  · cases e
  · cases h with
    | tup h1 h2 => exact ⟨_, _, rfl, h1, h2⟩
theorem at_dp {d : D} (h : At K μ n (Nh μ n H) x d) (hd : ∀ kvs, d ≠ .dict kvs) : Dp K (Nh μ n H) x d := by
  rcases h with ⟨k, _, e, _⟩ | h
  · exact absurd e (hd _)
  · exact h
theorem at_new_list {p : Addr} {vs : List V} {ds : List D} (w : WOk K μ S H) (hp : H p = none) (h : DpAll K (Nh μ S.length H) vs ds) : At K μ S.length (Nh μ S.length (upd H p (.lst vs))) (.ref p) (.list ds) :=
  .inr (.lst (.inl (.inl (nh_new w hp _))) (dpAll_mono (step_new w hp _).1.keep _ _ h))
theorem at_new_tup {p : Addr} {vs : List V} {ds : List D} (w : WOk K μ S H) (hp : H p = none) (h : DpAll K (Nh μ S.length H) vs ds) : At K μ S.length (Nh μ S.length (upd H p (.tup vs))) (.ref p) (.tuple ds) :=
  .inr (.tup (.inl (.inl (nh_new w hp _))) (dpAll_mono (step_new w hp _).1.keep _ _ h))
end
section
variable {X : Cx}
/-- list + list, both read -/
def rCatR (K : PySem.W.Frag) : R2 := fun x y H Q => ∃ l b xs zs, x = .ref l ∧ y = .ref b ∧ SqL K H l xs ∧ SqL K H b zs ∧ xs.length + zs.length ≤ sizeLine ∧ ∀ p, H p = none → Q (.ref p) (upd H p (.lst (xs ++ zs)))
theorem list_shape {h : Heap} {a : Addr} {vs : Array Value} (q : PlainL h a vs) : ∃ sl n, h.get? a = some { cls := .type "list", dict := none, data := .seq vs n, slots := sl } := by
  obtain ⟨⟨c, d, dt, sl⟩, n, h1, h2, h3, h4⟩ := q
  simp only at h2 h3 h4
  subst h2 h3 h4
  exact ⟨sl, n, h1⟩
theorem op_catR : OpR X (binaryOp .Add) (rCatR X.K) := by
  intro pins s σ H x y v u Q I rx ry h
  obtain ⟨l, b, xs, zs, rfl, rfl, hH, hB, hz, q⟩ := h
  cases rx
  cases ry
  obtain ⟨its, r, p1, _⟩ := I.list hH
  obtain ⟨its2, r2, p2, _⟩ := I.list hB
  obtain ⟨sl, n, ho⟩ := list_shape p1
  obtain ⟨sl2, n2, ho2⟩ := list_shape p2
  have hl := r.length
  have hl2 := r2.length
  have ea : its.toArray ++ its2.toArray = (its ++ its2).toArray := by simp
  refine concat_meets ⟨_, ho, rfl⟩ ⟨_, ho2, rfl⟩ noFill_list_add seq_list_add PySem.F.slot_list_add PySem.F.entry_list_add (PySem.F.args_list_add_2 _ _) (PyProof.Rows.list_addW l b its.toArray its2.toArray n n2 none none sl sl2 (by rw [List.size_toArray, List.size_toArray]; omega)) ⟨ho, ho2, ?_⟩
  rw [ea]
  exact ⟨.ref _, _, I.lnew (t' := s.toks) (r.append r2) (by rw [List.length_append]; omega), rfl, q _ I.fresh⟩
end
/-! ### meanings of operators -/
def szOk (n : Nat) : Bool := decide (n ≤ 16777216)
theorem szOk_le {n : Nat} (h : szOk n = true) : n ≤ sizeLine := by rw [sizeLine_eq]; exact of_decide_eq_true h
def gAdd : D → D → M D
  | .int i, .int j => M.ret (.int (i + j))
  | .str a, .str b => if szOk (a.length + b.length) = true then M.ret (.str (a ++ b)) else M.no
  | .list a, .list b => if szOk (a.length + b.length) = true then M.ret (.list (a ++ b)) else M.no
  | .tuple a, .tuple b => if szOk (a.length + b.length) = true then M.ret (.tuple (a ++ b)) else M.no
  | _, _ => M.no
def gSub : D → D → M D
  | .int i, .int j => M.ret (.int (i - j))
  | _, _ => M.no
def mulOk (i j : Int) : Bool := (decide (-(18446744073709551616 : Int) < i) && decide (i < 18446744073709551616)) || (decide (-(18446744073709551616 : Int) < j) && decide (j < 18446744073709551616))
def gMul : D → D → M D
  | .int i, .int j => if mulOk i j = true then M.ret (.int (i * j)) else M.no
  | _, _ => M.no
def gFdiv : D → D → M D
  | .int i, .int j => if decide (0 < j ∧ j < 1152921504606846976) = true then M.ret (.int (i / j)) else M.no
  | _, _ => M.no
def gMod : D → D → M D
  | .int i, .int j => if decide (0 < j) = true then M.ret (.int (i % j)) else M.no
  | _, _ => M.no
def gAnd : D → D → M D
  | .int i, .int j => M.ret (.int (Builtin.bitAnd i j))
  | _, _ => M.no
def gOr : D → D → M D
  | .int i, .int j => M.ret (.int (Builtin.bitOr i j))
  | _, _ => M.no
def gPow : D → D → M D
  | .int i, .int j => if decide (0 ≤ j ∧ j ≤ 1000000 ∧ i.natAbs < 2 ^ 64) = true then M.ret (.int (i ^ j.toNat)) else M.no
  | _, _ => M.no
def gI (p : Int → Int → Bool) : D → D → M D
  | .int i, .int j => M.ret (.bool (p i j))
  | _, _ => M.no
def gLt : D → D → M D := gI fun i j => decide (i < j)
def gLe : D → D → M D := gI fun i j => decide (i ≤ j)
def gGt : D → D → M D := gI fun i j => decide (j < i)
def gGe : D → D → M D := gI fun i j => decide (j ≤ i)
def gEq : D → D → M D := fun d e => if (SeqAt.shaped d && SeqAt.shaped e) = true then M.ret (.bool (PyData.eqv d e)) else M.no
def gNe : D → D → M D := fun d e => if (SeqAt.shaped d && SeqAt.shaped e) = true then M.ret (.bool (!PyData.eqv d e)) else M.no
def gIn : D → D → M D
  | d, .list es => if (SeqAt.shaped d && SeqAt.shaped (.list es)) = true then M.ret (.bool (es.any fun z => PyData.eqv z d)) else M.no
  | d, .tuple es => if (SeqAt.shaped d && SeqAt.shaped (.tuple es)) = true then M.ret (.bool (es.any fun z => PyData.eqv z d)) else M.no
  | .str c, .str z => M.ret (.bool (!(Builtin.Str.occurrences z c 0 z.length 1).isEmpty))
  | _, _ => M.no
def gNotIn : D → D → M D := fun d e => M.bind (gIn d e) fun
  | .bool b => M.ret (.bool (!b))
  | _ => M.no
section
variable {K : PySem.W.Frag} {mg : Str → Option Value}
theorem ops_or {r r' : R2} {g : D → D → M D} (h : ∀ (Ec : XK) (μ : Mu) (S : Wd) (H : Hp) (x y : V) (d e : D) (Q : VK), Sz K H → WOk K μ S H → At K μ S.length (Nh μ S.length H) x d → At K μ S.length (Nh μ S.length H) y e →
    Post K mg Ec μ S H (g d e S) (fun z μ' S' H' => ∀ v, At K μ' S'.length (Nh μ' S'.length H') v z → Q v H') → r x y H Q ∨ r' x y H Q) : OpS K mg (fun x y H Q => r x y H Q ∨ r' x y H Q) g := h
theorem ops_add : OpS K mg (fun x y H Q => rI0 (fun i j => .int (i + j)) x y H Q ∨ (∃ i j, x = .str i ∧ y = .str j ∧ i.length + j.length ≤ sizeLine ∧ Q (.str (i ++ j)) H) ∨ rCatR K x y H Q ∨ rCatA K x y H Q) gAdd := by
  intro Ec μ S H x y d e Q sz w ax ay h
  cases d <;> cases e <;> (try exact h.elim)
  · rw [at_int ax, at_int ay]
    exact .inl ⟨_, _, rfl, rfl, h.here w _ (.inr (.int _))⟩
  · rw [at_str ax, at_str ay]
    simp only [gAdd] at h
    split at h
    · rename_i hz
      exact .inr (.inl ⟨_, _, rfl, rfl, szOk_le hz, h.here w _ (.inr (.str _))⟩)
    · exact h.elim
  · obtain ⟨a, xs, rfl, h1, h2⟩ := at_list ax
    obtain ⟨b, ys, rfl, h3, h4⟩ := at_list ay
    simp only [gAdd] at h
    split at h
    · rename_i hz
      refine .inr (.inr (.inl ⟨a, b, xs, ys, rfl, rfl, nh_same.seq h1, nh_same.seq h3, ?_, fun p hp => ?_⟩))
      · rw [dpAll_length h2, dpAll_length h4]; exact szOk_le hz
      · exact h.new w hp _ _ (at_new_list w hp (dpAll_append h2 h4))
    · exact h.elim
  · obtain ⟨a, xs, rfl, h1, h2⟩ := at_tup ax
    obtain ⟨b, ys, rfl, h3, h4⟩ := at_tup ay
    simp only [gAdd] at h
    split at h
    · rename_i hz
      refine .inr (.inr (.inr ⟨a, b, xs, ys, rfl, rfl, seqT_mono nh_same h1, seqT_mono nh_same h3, ?_, fun e => ?_, fun _ e => ?_, fun _ _ p hp => ?_⟩))
      · rw [dpAll_length h2, dpAll_length h4]; exact szOk_le hz
      · subst e
        cases h2
        exact h.here w _ (.inr (.tup h3 h4))
      · subst e
        cases h4
        rw [List.append_nil] at h
        exact h.here w _ (.inr (.tup h1 h2))
      · exact h.new w hp _ _ (at_new_tup w hp (dpAll_append h2 h4))
    · exact h.elim
theorem ops_i {f : Int → Int → Int} {g : D → D → M D} (hi : ∀ i j, g (.int i) (.int j) = M.ret (.int (f i j))) (hn : ∀ d e, (∀ i j, ¬ (d = .int i ∧ e = .int j)) → g d e = M.no) : OpS K mg (rI0 fun i j => .int (f i j)) g := by
  intro Ec μ S H x y d e Q sz w ax ay h
  by_cases k : ∃ i j, d = .int i ∧ e = .int j
  · obtain ⟨i, j, rfl, rfl⟩ := k
    rw [hi] at h
    rw [at_int ax, at_int ay]
    exact ⟨_, _, rfl, rfl, h.here w _ (.inr (.int _))⟩
  · rw [hn d e fun i j q => k ⟨i, j, q⟩] at h
    exact h.elim
theorem ops_ic {f : Int → Int → Int} {c : Int → Int → Bool} {C : Int → Int → Prop} {g : D → D → M D} (hc : ∀ i j, c i j = true → C i j) (hi : ∀ i j, g (.int i) (.int j) = if c i j = true then M.ret (.int (f i j)) else M.no) (hn : ∀ d e, (∀ i j, ¬ (d = .int i ∧ e = .int j)) → g d e = M.no) :
    OpS K mg (rI C fun i j => .int (f i j)) g := by
  intro Ec μ S H x y d e Q sz w ax ay h
  by_cases k : ∃ i j, d = .int i ∧ e = .int j
  · obtain ⟨i, j, rfl, rfl⟩ := k
    rw [hi] at h
    split at h
    · rename_i q
      rw [at_int ax, at_int ay]
      exact ⟨_, _, rfl, rfl, hc _ _ q, h.here w _ (.inr (.int _))⟩
    · exact h.elim
  · rw [hn d e fun i j q => k ⟨i, j, q⟩] at h
    exact h.elim
theorem ops_b (p : Int → Int → Bool) : OpS K mg (rI0 fun i j => .bl (p i j)) (gI p) := by
  intro Ec μ S H x y d e Q sz w ax ay h
  cases d <;> cases e <;> (try exact h.elim)
  rw [at_int ax, at_int ay]
  exact ⟨_, _, rfl, rfl, h.here w _ (.inr (.bl _))⟩
theorem no_of {g : D → D → M D} (h : ∀ d e, (∀ i j, ¬ (d = .int i ∧ e = .int j)) → g d e = M.no) : ∀ d e, (∀ i j, ¬ (d = .int i ∧ e = .int j)) → g d e = M.no := h
theorem ops_sub : OpS K mg (rI0 fun i j => .int (i - j)) gSub := ops_i (fun _ _ => rfl) fun d e k => by
  cases d <;> cases e <;> first | rfl | exact absurd ⟨rfl, rfl⟩ (k _ _)
theorem ops_and : OpS K mg (rI0 fun i j => .int (Builtin.bitAnd i j)) gAnd := ops_i (fun _ _ => rfl) fun d e k => by
  cases d <;> cases e <;> first | rfl | exact absurd ⟨rfl, rfl⟩ (k _ _)
theorem ops_orI : OpS K mg (rI0 fun i j => .int (Builtin.bitOr i j)) gOr := ops_i (fun _ _ => rfl) fun d e k => by
  cases d <;> cases e <;> first | rfl | exact absurd ⟨rfl, rfl⟩ (k _ _)
theorem ops_mul : OpS K mg (rI CMul fun i j => .int (i * j)) gMul := ops_ic (c := mulOk) (fun i j h => by
    have h' : ((-(18446744073709551616 : Int) < i) ∧ i < 18446744073709551616) ∨ ((-(18446744073709551616 : Int) < j) ∧ j < 18446744073709551616) := by simpa [mulOk] using h
    exact h') (fun _ _ => rfl) fun d e k => by
  cases d <;> cases e <;> first | rfl | exact absurd ⟨rfl, rfl⟩ (k _ _)
theorem ops_fdiv : OpS K mg (rI CDivW fun i j => .int (i / j)) gFdiv := ops_ic (c := fun i j => decide (0 < j ∧ j < 1152921504606846976)) (fun i j h => wide_div (b := 60) (of_decide_eq_true h : 0 < j ∧ j < 1152921504606846976).1 (by have := (of_decide_eq_true h : 0 < j ∧ j < 1152921504606846976); show j.natAbs < 1152921504606846976; omega) (by decide) (by decide)) (fun _ _ => rfl) fun d e k => by
  cases d <;> cases e <;> first | rfl | exact absurd ⟨rfl, rfl⟩ (k _ _)
theorem ops_mod : OpS K mg (rI (fun _ j => 0 < j) fun i j => .int (i % j)) gMod := ops_ic (c := fun i j => decide (0 < j)) (fun i j h => of_decide_eq_true h) (fun _ _ => rfl) fun d e k => by
  cases d <;> cases e <;> first | rfl | exact absurd ⟨rfl, rfl⟩ (k _ _)
theorem ops_pow : OpS K mg (rI CPow fun i j => .int (i ^ j.toNat)) gPow := ops_ic (c := fun i j => decide (0 ≤ j ∧ j ≤ 1000000 ∧ i.natAbs < 2 ^ 64)) (fun i j h => show CPow i j from (of_decide_eq_true h : 0 ≤ j ∧ j ≤ 1000000 ∧ i.natAbs < 2 ^ 64)) (fun _ _ => rfl) fun d e k => by
  cases d <;> cases e <;> first | rfl | exact absurd ⟨rfl, rfl⟩ (k _ _)
theorem nodict {d : D} (h : SeqAt.shaped d = true) : ∀ kvs, d ≠ .dict kvs := fun kvs e => by
  subst e
  have := SeqAt.canLay_of_shaped h
  simp [PyData.canLay0] at this
theorem ops_eq : OpS K mg (rEqD K) gEq := by
  intro Ec μ S H x y d e Q sz w ax ay h
  unfold gEq at h
  split at h
  · rename_i q
    obtain ⟨q1, q2⟩ := Bool.and_eq_true_iff.mp q
    exact ⟨d, e, dp_mono nh_same _ _ (at_dp ax (nodict q1)), dp_mono nh_same _ _ (at_dp ay (nodict q2)), q1, q2, h.here w _ (.inr (.bl _))⟩
  · exact h.elim
theorem ops_ne : OpS K mg (rNeD K) gNe := by
  intro Ec μ S H x y d e Q sz w ax ay h
  unfold gNe at h
  split at h
  · rename_i q
    obtain ⟨q1, q2⟩ := Bool.and_eq_true_iff.mp q
    exact ⟨d, e, dp_mono nh_same _ _ (at_dp ax (nodict q1)), dp_mono nh_same _ _ (at_dp ay (nodict q2)), q1, q2, h.here w _ (.inr (.bl _))⟩
  · exact h.elim
end
/-! ### in -/
section
variable {X : Cx}
def rInT (K : PySem.W.Frag) (neg : Bool) : R2 := fun x y H Q => ∃ d ds, Dp K H x d ∧ Dp K H y (.tuple ds) ∧ SeqAt.shaped d = true ∧ SeqAt.shaped (.tuple ds) = true ∧ Q (.bl (if neg then !ds.any fun z => PyData.eqv z d else ds.any fun z => PyData.eqv z d)) H
theorem room_inT {A : Around} {xs : List PyData} {d : PyData} (hd : SeqAt.shaped d = true) (hu : A.units + 64 < cLine) : A.units + 1 + min (PyData.depthAll xs) d.depth ≤ A.units + 65 := by
  have := SeqAt.depth_of_shaped hd
  omega
theorem op_inT (hu : X.A.units + 65 < cLine) : OpR X (compareOp .In) (rInT X.K false) := by
  intro pins s σ H x y v u Q I rx ry h
  obtain ⟨d, ds, hd, he, sd, se, q⟩ := h
  obtain ⟨as, r1⟩ := Dp.reads I d x v hd rx
  obtain ⟨bs, r2⟩ := Dp.reads I (.tuple ds) y u he ry
  exact SeqAt.in_tuple_reads r2 r1 (SeqAt.canLay_of_shaped se) (SeqAt.canLay_of_shaped sd) (room_in_shaped sd hu) ⟨.bl _, H, I, rfl, q⟩
theorem op_notInT (hu : X.A.units + 65 < cLine) : OpR X (compareOp .NotIn) (rInT X.K true) := by
  intro pins s σ H x y v u Q I rx ry h
  obtain ⟨d, ds, hd, he, sd, se, q⟩ := h
  obtain ⟨as, r1⟩ := Dp.reads I d x v hd rx
  obtain ⟨bs, r2⟩ := Dp.reads I (.tuple ds) y u he ry
  exact SeqAt.notIn_tuple_reads r2 r1 (SeqAt.canLay_of_shaped se) (SeqAt.canLay_of_shaped sd) (room_in_shaped sd hu) ⟨.bl _, H, I, rfl, q⟩
end
section
variable {K : PySem.W.Frag} {mg : Str → Option Value}
theorem ops_in : OpS K mg (fun x y H Q => rInD K x y H Q ∨ rInT K false x y H Q ∨ (∃ i j, x = .str i ∧ y = .str j ∧ Q (.bl (!(Builtin.Str.occurrences j i 0 j.length 1).isEmpty)) H)) gIn := by
  intro Ec μ S H x y d e Q sz w ax ay h
  have fin : ∀ es : List D, (e = .list es ∨ e = .tuple es) → gIn d e = (if (SeqAt.shaped d && SeqAt.shaped e) = true then M.ret (.bool (es.any fun z => PyData.eqv z d)) else M.no) := fun es k => by
    rcases k with rfl | rfl <;> cases d <;> rfl
  cases e with
  | list es =>
    rw [fin es (.inl rfl)] at h
    split at h
    · rename_i q
      obtain ⟨q1, q2⟩ := Bool.and_eq_true_iff.mp q
      exact .inl ⟨d, es, dp_mono nh_same _ _ (at_dp ax (nodict q1)), dp_mono nh_same _ _ (at_dp ay (nodict q2)), q1, q2, h.here w _ (.inr (.bl _))⟩
    · exact h.elim
  | tuple es =>
    rw [fin es (.inr rfl)] at h
    split at h
    · rename_i q
      obtain ⟨q1, q2⟩ := Bool.and_eq_true_iff.mp q
      exact .inr (.inl ⟨d, es, dp_mono nh_same _ _ (at_dp ax (nodict q1)), dp_mono nh_same _ _ (at_dp ay (nodict q2)), q1, q2, h.here w _ (.inr (.bl _))⟩)
    · exact h.elim
  | str z =>
    cases d <;> (try exact h.elim)
    rw [at_str ax, at_str ay]
    exact .inr (.inr ⟨_, _, rfl, rfl, h.here w _ (.inr (.bl _))⟩)
  | _ => cases d <;> exact h.elim
theorem ops_notIn : OpS K mg (fun x y H Q => rNotInD K x y H Q ∨ rInT K true x y H Q ∨ (∃ i j, x = .str i ∧ y = .str j ∧ Q (.bl (!(!(Builtin.Str.occurrences j i 0 j.length 1).isEmpty))) H)) gNotIn := by
  intro Ec μ S H x y d e Q sz w ax ay h
  unfold gNotIn at h
  have fin : ∀ es : List D, (e = .list es ∨ e = .tuple es) → gIn d e = (if (SeqAt.shaped d && SeqAt.shaped e) = true then M.ret (.bool (es.any fun z => PyData.eqv z d)) else M.no) := fun es k => by
    rcases k with rfl | rfl <;> cases d <;> rfl
  cases e with
  | list es =>
    rw [fin es (.inl rfl)] at h
    split at h
    · rename_i q
      obtain ⟨q1, q2⟩ := Bool.and_eq_true_iff.mp q
      exact .inl ⟨d, es, dp_mono nh_same _ _ (at_dp ax (nodict q1)), dp_mono nh_same _ _ (at_dp ay (nodict q2)), q1, q2, Post.here h w _ (.inr (.bl _))⟩
    · exact h.elim
  | tuple es =>
    rw [fin es (.inr rfl)] at h
    split at h
    · rename_i q
      obtain ⟨q1, q2⟩ := Bool.and_eq_true_iff.mp q
      exact .inr (.inl ⟨d, es, dp_mono nh_same _ _ (at_dp ax (nodict q1)), dp_mono nh_same _ _ (at_dp ay (nodict q2)), q1, q2, Post.here h w _ (.inr (.bl _))⟩)
    · exact h.elim
  | str z =>
    cases d <;> (try exact h.elim)
    rw [at_str ax, at_str ay]
    exact .inr (.inr ⟨_, _, rfl, rfl, Post.here h w _ (.inr (.bl _))⟩)
  | _ => cases d <;> exact h.elim
end
end DL
end L2

set_option Elab.async false
set_option linter.all false
set_option maxRecDepth 100000
/-! tests, displays, calls of built-ins -/
namespace L2
namespace DL
open PySem PySem.Spec PyProof.Rows
def nd : D → Bool
  | .dict _ => false
  | _ => true
section
variable {X : Cx} {W : WX} {e a b c : Expr} {fa fb fc : Env' → M D} {pos : Pos}
def toB : D → M Bool
  | .bool b => M.ret b
  | _ => M.no
def bV (f : Env' → M D) : Env' → M Bool := fun ρ => M.bind (f ρ) toB
theorem bpost {K : PySem.W.Frag} {mg : Str → Option Value} {Ec : XK} {μ : Mu} {S : Wd} {H : Hp} {d : D} {v : V} {P : Bool → Mu → Wd → Hp → Prop} (w : WOk K μ S H) (a : At K μ S.length (Nh μ S.length H) v d) (h : Post K mg Ec μ S H (toB d S) P) : ∃ k, v = .bl k ∧ P k μ S H := by
  cases d <;> (try exact h.elim)
  exact ⟨_, at_bool a, h.here w⟩
theorem bj_val (h : EJ X W e fa) (he : ∀ whole, isTrue e X.env whole = (do let v ← whole; standAt e.pos; holding [v] (truthy v)) := by intro _; rfl) : BJ X W e (bV fa) := by
  refine pt_imp (pt_val h he) fun σ H Q hh => ?_
  obtain ⟨μ, S, ρ, he, hw, hh⟩ := hh
  exact ⟨μ, S, ρ, he, hw, hh.bind.mono fun x μ1 S1 H1 s1 w1 h1 v a1 => bpost w1 a1 h1⟩
theorem bj_cmp {op : CmpOp} {r : R2} {g : D → D → M D} (ho : OpR X (compareOp op) r) (hs : OpS X.K X.mg r g) (ha : EJ X W a fa) (hb : EJ X W b fb) (hm : behindInMarks op b = false := by exact nomark _) : BJ X W (.Compare a [op] [b] pos) (bV (x2 g fa fb)) := by
  refine pt_imp (pt_cmpR ho ha (pe_sz hb) hm) fun σ H Q h => ?_
  obtain ⟨μ, S, ρ, he, hw, h⟩ := h
  refine ⟨μ, S, ρ, he, hw, h.bind.bind.mono fun x μ1 S1 H1 s1 w1 h1 v a1 => ?_⟩
  refine ⟨μ1, S1, ρ, he.step s1, w1, h1.bind.mono fun y μ2 S2 H2 s2 w2 h2 u a2 sz => ?_⟩
  refine hs _ μ2 S2 H2 v u x y _ sz w2 (a1.step s2) a2 (h2.mono fun d μ3 S3 H3 s3 w3 h3 k a3 => bpost w3 a3 h3)
/-- a < b < c -/
def x3 (g g' : D → D → M D) (fa fb fc : Env' → M D) : Env' → M D := fun ρ => M.bind (fa ρ) fun x => M.bind (fb ρ) fun y => M.bind (g x y) fun z => M.bind (toB z) fun k => if k = true then M.bind (fc ρ) fun w => g' y w else M.ret (.bool false)
theorem chain_read {t3 : TE} {op op' : CmpOp} {r r' : R2} {g g' : D → D → M D} (hs : OpS X.K X.mg r g) (hs' : OpS X.K X.mg r' g') {σ : St} {H : Hp} {Q : VK} {tb : TE}
    (h : tE X.K X.mg W (x3 g g' fa fb fc) σ H Q) : tChain r r' (tE X.K X.mg W fa) (fun σ H Q => tE X.K X.mg W fb σ H fun v H' => Sz X.K H' → Q v H') (fun σ H Q => tE X.K X.mg W fc σ H fun v H' => Sz X.K H' → Q v H') σ H Q := by
  obtain ⟨μ, S, ρ, he, hw, h⟩ := h
  refine ⟨μ, S, ρ, he, hw, h.bind.mono fun x μ1 S1 H1 s1 w1 h1 v a1 => ?_⟩
  refine ⟨μ1, S1, ρ, he.step s1, w1, h1.bind.mono fun y μ2 S2 H2 s2 w2 h2 u a2 sz => ?_⟩
  refine hs _ μ2 S2 H2 v u x y _ sz w2 (a1.step s2) a2 (h2.bind.mono fun d μ3 S3 H3 s3 w3 h3 k a3 => ?_)
  obtain ⟨c, e, h3⟩ := bpost w3 a3 h3.bind
  refine ⟨c, e, ?_⟩
  cases c with
  | false => exact Post.here h3 w3 _ (.inr (.bl _))
  | true =>
    simp only [if_true] at h3 ⊢
    refine ⟨μ3, S3, ρ, (he.step s1).step (s2.trans s3), w3, h3.bind.mono fun z μ4 S4 H4 s4 w4 h4 u' a4 sz' => ?_⟩
    exact hs' _ μ4 S4 H4 u u' y z Q sz' w4 (a2.step (s3.trans s4)) a4 h4
theorem ej_chain {op op' : CmpOp} {r r' : R2} {g g' : D → D → M D} (ho : OpR X (compareOp op) r) (ho' : OpR X (compareOp op') r') (hs : OpS X.K X.mg r g) (hs' : OpS X.K X.mg r' g') (ha : EJ X W a fa) (hb : EJ X W b fb) (hc : EJ X W c fc) (hm : lastMarks [op, op'] [b, c] = false := by with_unfolding_all rfl) :
    EJ X W (.Compare a [op, op'] [b, c] pos) (x3 g g' fa fb fc) :=
  pe_imp (pe_chain ho ho' ha (pe_sz hb) (pe_sz hc) hm) fun σ H Q h => chain_read (t3 := tE X.K X.mg W fa) (op := op) (op' := op') (tb := tE X.K X.mg W fa) hs hs' h
theorem bj_chain {op op' : CmpOp} {r r' : R2} {g g' : D → D → M D} (ho : OpR X (compareOp op) r) (ho' : OpR X (compareOp op') r') (hs : OpS X.K X.mg r g) (hs' : OpS X.K X.mg r' g') (ha : EJ X W a fa) (hb : EJ X W b fb) (hc : EJ X W c fc) (hm : lastMarks [op, op'] [b, c] = false := by with_unfolding_all rfl) :
    BJ X W (.Compare a [op, op'] [b, c] pos) (bV (x3 g g' fa fb fc)) := by
  refine pt_imp (pt_chain ho ho' ha (pe_sz hb) (pe_sz hc) hm) fun σ H Q h => ?_
  have h' : tE X.K X.mg W (x3 g g' fa fb fc) σ H (fun v H' => ∃ k, v = .bl k ∧ Q k H') := by
    obtain ⟨μ, S, ρ, he, hw, h⟩ := h
    exact ⟨μ, S, ρ, he, hw, h.bind.mono fun x μ1 S1 H1 s1 w1 h1 v a1 => bpost w1 a1 h1⟩
  exact chain_read (t3 := tE X.K X.mg W fa) (op := op) (op' := op') (tb := tE X.K X.mg W fa) hs hs' h'
/-! ### and, or, not -/
def bAnd (f g : Env' → M Bool) : Env' → M Bool := fun ρ => M.bind (f ρ) fun c => if c = true then g ρ else M.ret false
def bOr (f g : Env' → M Bool) : Env' → M Bool := fun ρ => M.bind (f ρ) fun c => if c = true then M.ret true else g ρ
def bNot (f : Env' → M Bool) : Env' → M Bool := fun ρ => M.bind (f ρ) fun c => M.ret (!c)
variable {ba bb : Env' → M Bool} {rest : List Expr}
theorem bw_and1 (ha : BJ X W a ba) : BW X W (.BoolOp .And [a] pos) ba := pw_and1 ha
theorem bw_or1 (ha : BJ X W a ba) : BW X W (.BoolOp .Or [a] pos) ba := pw_or1 ha
theorem bw_and (ha : BJ X W a ba) (hb : BW X W (.BoolOp .And (b :: rest) pos) bb) : BW X W (.BoolOp .And (a :: b :: rest) pos) (bAnd ba bb) := by
  refine pw_imp (pw_and ha hb) fun σ H Q h => ?_
  obtain ⟨μ, S, ρ, he, hw, h⟩ := h
  refine ⟨μ, S, ρ, he, hw, h.bind.mono fun c μ1 S1 H1 s1 w1 h1 => ?_⟩
  cases c with
  | true => exact ⟨μ1, S1, ρ, he.step s1, w1, h1⟩
  | false => exact Post.here h1 w1
theorem bw_or (ha : BJ X W a ba) (hb : BW X W (.BoolOp .Or (b :: rest) pos) bb) : BW X W (.BoolOp .Or (a :: b :: rest) pos) (bOr ba bb) := by
  refine pw_imp (pw_or ha hb) fun σ H Q h => ?_
  obtain ⟨μ, S, ρ, he, hw, h⟩ := h
  refine ⟨μ, S, ρ, he, hw, h.bind.mono fun c μ1 S1 H1 s1 w1 h1 => ?_⟩
  cases c with
  | false => exact ⟨μ1, S1, ρ, he.step s1, w1, h1⟩
  | true => exact Post.here h1 w1
theorem bj_of (h : BW X W e ba) : BJ X W e ba := PW.pt h
theorem bj_not (ha : BJ X W a ba) : BJ X W (.UnaryOp .Not a pos) (bNot ba) := by
  refine pt_imp (pt_not ha) fun σ H Q h => ?_
  obtain ⟨μ, S, ρ, he, hw, h⟩ := h
  exact ⟨μ, S, ρ, he, hw, h.bind.mono fun c μ1 S1 H1 s1 w1 h1 => h1.here w1⟩
def xAnd (fa fb : Env' → M D) : Env' → M D := fun ρ => M.bind (fa ρ) fun x => M.bind (toB x) fun c => if c = true then fb ρ else M.ret (.bool false)
def xOr (fa fb : Env' → M D) : Env' → M D := fun ρ => M.bind (fa ρ) fun x => M.bind (toB x) fun c => if c = true then M.ret (.bool true) else fb ρ
def xNot (fa : Env' → M D) : Env' → M D := fun ρ => M.bind (fa ρ) fun x => M.bind (toB x) fun c => M.ret (.bool (!c))
theorem ej_one {op} (h : EJ X W a fa) : EJ X W (.BoolOp op [a] pos) fa := pe_one h
theorem ej_and (ha : EJ X W a fa) (hb : EJ X W (.BoolOp .And (b :: rest) pos) fb) : EJ X W (.BoolOp .And (a :: b :: rest) pos) (xAnd fa fb) := by
  refine pe_imp (pe_and ha hb) fun σ H Q h => ?_
  obtain ⟨μ, S, ρ, he, hw, h⟩ := h
  refine ⟨μ, S, ρ, he, hw, h.bind.mono fun c μ1 S1 H1 s1 w1 h1 v a1 => ?_⟩
  obtain ⟨k, e, h1⟩ := bpost w1 a1 h1.bind
  refine ⟨k, e, ?_⟩
  cases k with
  | true => exact ⟨μ1, S1, ρ, he.step s1, w1, h1⟩
  | false => exact Post.here h1 w1 _ (.inr (.bl _))
theorem ej_or (ha : EJ X W a fa) (hb : EJ X W (.BoolOp .Or (b :: rest) pos) fb) : EJ X W (.BoolOp .Or (a :: b :: rest) pos) (xOr fa fb) := by
  refine pe_imp (pe_or ha hb) fun σ H Q h => ?_
  obtain ⟨μ, S, ρ, he, hw, h⟩ := h
  refine ⟨μ, S, ρ, he, hw, h.bind.mono fun c μ1 S1 H1 s1 w1 h1 v a1 => ?_⟩
  obtain ⟨k, e, h1⟩ := bpost w1 a1 h1.bind
  refine ⟨k, e, ?_⟩
  cases k with
  | false => exact ⟨μ1, S1, ρ, he.step s1, w1, h1⟩
  | true => exact Post.here h1 w1 _ (.inr (.bl _))
theorem ej_not (ha : EJ X W a fa) : EJ X W (.UnaryOp .Not a pos) (xNot fa) := by
  refine pe_imp (pe_not ha) fun σ H Q h => ?_
  obtain ⟨μ, S, ρ, he, hw, h⟩ := h
  refine ⟨μ, S, ρ, he, hw, h.bind.mono fun c μ1 S1 H1 s1 w1 h1 v a1 => ?_⟩
  obtain ⟨k, e, h1⟩ := bpost w1 a1 h1.bind
  exact ⟨k, e, Post.here h1 w1 _ (.inr (.bl _))⟩
def xIf (fc : Env' → M Bool) (fa fb : Env' → M D) : Env' → M D := fun ρ => M.bind (fc ρ) fun c => if c = true then fa ρ else fb ρ
theorem ej_if (hc : BJ X W c ba) (ha : EJ X W a fa) (hb : EJ X W b fb) : EJ X W (.IfExp c a b pos) (xIf ba fa fb) := by
  refine pe_imp (pe_ifExp hc ha hb) fun σ H Q h => ?_
  obtain ⟨μ, S, ρ, he, hw, h⟩ := h
  refine ⟨μ, S, ρ, he, hw, h.bind.mono fun k μ1 S1 H1 s1 w1 h1 => ?_⟩
  cases k with
  | true => exact ⟨μ1, S1, ρ, he.step s1, w1, h1⟩
  | false => exact ⟨μ1, S1, ρ, he.step s1, w1, h1⟩
/-! ### is -/
def isNone : D → Bool
  | .none => true
  | _ => false
def gIsN : D → M D := fun d => if nd d = true then M.ret (.bool (isNone d)) else M.no
def gNotN : D → M D := fun d => if nd d = true then M.ret (.bool (!isNone d)) else M.no
def gIsB : D → D → M D
  | .bool i, .bool j => M.ret (.bool (decide (i = j)))
  | _, _ => M.no
def gNotB : D → D → M D
  | .bool i, .bool j => M.ret (.bool (!decide (i = j)))
  | _, _ => M.no
def x1 (g : D → M D) (fa : Env' → M D) : Env' → M D := fun ρ => M.bind (fa ρ) g
theorem dp_non {K : PySem.W.Frag} {H : Hp} {v : V} {d : D} (h : Dp K H v d) : decide (v = .non) = isNone d := by
  cases h <;> simp [isNone]
theorem ops_isB {K : PySem.W.Frag} {mg : Str → Option Value} : OpS K mg rIsB gIsB := by
  intro Ec μ S H x y d e Q sz w ax ay h
  cases d <;> cases e <;> (try exact h.elim)
  rw [at_bool ax, at_bool ay]
  exact ⟨_, _, rfl, rfl, h.here w _ (.inr (.bl _))⟩
theorem ops_notB {K : PySem.W.Frag} {mg : Str → Option Value} : OpS K mg rNotB gNotB := by
  intro Ec μ S H x y d e Q sz w ax ay h
  cases d <;> cases e <;> (try exact h.elim)
  rw [at_bool ax, at_bool ay]
  exact ⟨_, _, rfl, rfl, h.here w _ (.inr (.bl _))⟩
theorem isN_read {σ : St} {H : Hp} {Q : VK} (h : tE X.K X.mg W (x1 gIsN fa) σ H Q) : tOp (fun x y H Q => y = .non ∧ Q (.bl (decide (x = .non))) H) (tE X.K X.mg W fa) (tC .non) σ H Q := by
  obtain ⟨μ, S, ρ, he, hw, h⟩ := h
  refine ⟨μ, S, ρ, he, hw, h.bind.mono fun k μ1 S1 H1 s1 w1 h1 v a1 => ⟨rfl, ?_⟩⟩
  unfold gIsN at h1
  split at h1
  · rename_i q
    rw [dp_non (at_dp a1 fun kvs z => by rw [z] at q; cases q)]
    exact Post.here h1 w1 _ (.inr (.bl _))
  · exact h1.elim
theorem notN_read {σ : St} {H : Hp} {Q : VK} (h : tE X.K X.mg W (x1 gNotN fa) σ H Q) : tOp (fun x y H Q => y = .non ∧ Q (.bl (!decide (x = .non))) H) (tE X.K X.mg W fa) (tC .non) σ H Q := by
  obtain ⟨μ, S, ρ, he, hw, h⟩ := h
  refine ⟨μ, S, ρ, he, hw, h.bind.mono fun k μ1 S1 H1 s1 w1 h1 v a1 => ⟨rfl, ?_⟩⟩
  unfold gNotN at h1
  split at h1
  · rename_i q
    rw [dp_non (at_dp a1 fun kvs z => by rw [z] at q; cases q)]
    exact Post.here h1 w1 _ (.inr (.bl _))
  · exact h1.elim
theorem ej_isN {j pos'} (ha : EJ X W a fa) : EJ X W (.Compare a [.Is] [.Constant .none j pos'] pos) (x1 gIsN fa) := pe_imp (pe_cmpR op_isN ha pe_non (nomark _)) fun _ _ _ h => isN_read h
theorem ej_notN {j pos'} (ha : EJ X W a fa) : EJ X W (.Compare a [.IsNot] [.Constant .none j pos'] pos) (x1 gNotN fa) := pe_imp (pe_cmpR op_notN ha pe_non (nomark _)) fun _ _ _ h => notN_read h
theorem b_of_read {t : TE} {g : Env' → M D} (k : ∀ σ H Q, tE X.K X.mg W g σ H Q → t σ H Q) (σ : St) (H : Hp) (Q : Bool → Hp → Prop) (h : tB X.K X.mg W (bV g) σ H Q) : tTest t σ H Q := by
  refine k σ H _ ?_
  obtain ⟨μ, S, ρ, he, hw, h⟩ := h
  exact ⟨μ, S, ρ, he, hw, h.bind.mono fun x μ1 S1 H1 s1 w1 h1 v a1 => bpost w1 a1 h1⟩
theorem bj_isN {j pos'} (ha : EJ X W a fa) : BJ X W (.Compare a [.Is] [.Constant .none j pos'] pos) (bV (x1 gIsN fa)) := pt_imp (pt_cmpR op_isN ha pe_non (nomark _)) fun σ H Q h => b_of_read (fun _ _ _ h => isN_read h) σ H Q h
theorem bj_notN {j pos'} (ha : EJ X W a fa) : BJ X W (.Compare a [.IsNot] [.Constant .none j pos'] pos) (bV (x1 gNotN fa)) := pt_imp (pt_cmpR op_notN ha pe_non (nomark _)) fun σ H Q h => b_of_read (fun _ _ _ h => notN_read h) σ H Q h
/-! ### -a -/
def gNeg : D → M D
  | .int i => M.ret (.int (-i))
  | _ => M.no
theorem ej_neg (ha : EJ X W a fa) : EJ X W (.UnaryOp .USub a pos) (x1 gNeg fa) := by
  refine pe_imp (pe_un un_neg ha) fun σ H Q h => ?_
  obtain ⟨μ, S, ρ, he, hw, h⟩ := h
  refine ⟨μ, S, ρ, he, hw, h.bind.mono fun d μ1 S1 H1 s1 w1 h1 v a1 => ?_⟩
  cases d <;> (try exact h1.elim)
  exact ⟨_, at_int a1, Post.here h1 w1 _ (.inr (.int _))⟩
/-! ### arguments, displays -/
def aNil : Env' → M (List D) := fun _ => M.ret []
def aCons (f : Env' → M D) (g : Env' → M (List D)) : Env' → M (List D) := fun ρ => M.bind (f ρ) fun x => M.bind (g ρ) fun xs => M.ret (x :: xs)
theorem aj_nil : AJ X W [] aNil := by
  refine pa_imp pa_nil fun σ H Q h => ?_
  obtain ⟨μ, S, ρ, he, hw, h⟩ := h
  exact h.here hw _ .nil
theorem paired_step {K : PySem.W.Frag} {μ μ' : Mu} {n n' : Nat} {H H' : Hp} {vs : List V} {ds : List D} (s : Step μ n H μ' n' H') (h : Paired (At K μ n (Nh μ n H)) vs ds) : Paired (At K μ' n' (Nh μ' n' H')) vs ds := Paired.mapP h fun _ _ a => a.step s
theorem aj_cons {es : List Expr} {f : Env' → M D} {g : Env' → M (List D)} (ha : EJ X W e f) (hr : AJ X W es g) (hs : starEach (e :: es) X.env = (false, eval e X.env) :: starEach es X.env := by rfl) : AJ X W (e :: es) (aCons f g) := by
  refine pa_imp (pa_cons ha hr hs) fun σ H Q h => ?_
  obtain ⟨μ, S, ρ, he, hw, h⟩ := h
  refine ⟨μ, S, ρ, he, hw, h.bind.mono fun x μ1 S1 H1 s1 w1 h1 v a1 => ?_⟩
  refine ⟨μ1, S1, ρ, he.step s1, w1, h1.bind.mono fun xs μ2 S2 H2 s2 w2 h2 vs a2 => ?_⟩
  exact Post.here h2 w2 _ (.cons (a1.step s2) a2)
theorem dpAll_of {K : PySem.W.Frag} {μ : Mu} {n : Nat} {H : Hp} : ∀ {vs : List V} {ds : List D}, Paired (At K μ n (Nh μ n H)) vs ds → ds.all nd = true → DpAll K (Nh μ n H) vs ds
  | _, _, .nil, _ => .nil
  | _, _, .cons a t, q => by
    have q' := (Bool.and_eq_true_iff.mp (by rw [List.all_cons] at q; exact q))
    exact .cons (at_dp a fun kvs z => by rw [z] at q'; cases q'.1) (dpAll_of t q'.2)
def xTup (f : Env' → M (List D)) : Env' → M D := fun ρ => M.bind (f ρ) fun ds => if (ds.all nd && szOk ds.length) = true then M.ret (.tuple ds) else M.no
def xLst (f : Env' → M (List D)) : Env' → M D := fun ρ => M.bind (f ρ) fun ds => if (ds.all nd && szOk ds.length) = true then M.ret (.list ds) else M.no
theorem paired_len {α β : Type} {F : α → β → Prop} : ∀ {xs : List α} {ys : List β}, Paired F xs ys → xs.length = ys.length
  | _, _, .nil => rfl
  | _, _, .cons _ t => by rw [List.length_cons, List.length_cons, paired_len t]
theorem ej_tup {es : List Expr} {x1'} {f : Env' → M (List D)} (h : AJ X W es f) : EJ X W (.Tuple es x1' pos) (xTup f) := by
  refine pe_imp (pe_tup h) fun σ H Q h => ?_
  obtain ⟨μ, S, ρ, he, hw, h⟩ := h
  refine ⟨μ, S, ρ, he, hw, h.bind.mono fun ds μ1 S1 H1 s1 w1 h1 vs a1 => ?_⟩
  split at h1
  · rename_i q
    obtain ⟨q1, q2⟩ := Bool.and_eq_true_iff.mp q
    exact ⟨by rw [paired_len a1]; exact szOk_le q2, fun p hp => Post.new h1 w1 hp _ _ (at_new_tup w1 hp (dpAll_of a1 q1))⟩
  · exact h1.elim
theorem ej_lst {es : List Expr} {f : Env' → M (List D)} (h : AJ X W es f) : EJ X W (.List es pos) (xLst f) := by
  refine pe_imp (pe_lst h) fun σ H Q h => ?_
  obtain ⟨μ, S, ρ, he, hw, h⟩ := h
  refine ⟨μ, S, ρ, he, hw, h.bind.mono fun ds μ1 S1 H1 s1 w1 h1 vs a1 => ?_⟩
  split at h1
  · rename_i q
    obtain ⟨q1, q2⟩ := Bool.and_eq_true_iff.mp q
    exact ⟨by rw [paired_len a1]; exact szOk_le q2, fun p hp => Post.new h1 w1 hp _ _ (at_new_list w1 hp (dpAll_of a1 q1))⟩
  · exact h1.elim
/-! ### calls of built-ins -/
def CallS (K : PySem.W.Frag) (mg : Str → Option Value) (r : List V → Hp → VK → Prop) (g : List D → M D) : Prop := ∀ (Ec : XK) (μ : Mu) (S : Wd) (H : Hp) (vs : List V) (ds : List D) (Q : VK), Sz K H → WOk K μ S H → Paired (At K μ S.length (Nh μ S.length H)) vs ds →
  Post K mg Ec μ S H (g ds S) (fun z μ' S' H' => ∀ v, At K μ' S'.length (Nh μ' S'.length H') v z → Q v H') → r vs H Q
def xCall (g : List D → M D) (fa : Env' → M (List D)) : Env' → M D := fun ρ => M.bind (fa ρ) g
theorem call_read {es : List Expr} {r : List V → Hp → VK → Prop} {g : List D → M D} {f : Env' → M (List D)} (hs : CallS X.K X.mg r g) {σ : St} {H : Hp} {Q : VK} (h : tE X.K X.mg W (xCall g f) σ H Q) :
    tCB r (fun σ H Q => tA X.K X.mg W f σ H fun v H' => Sz X.K H' → Q v H') σ H Q := by
  obtain ⟨μ, S, ρ, he, hw, h⟩ := h
  exact ⟨μ, S, ρ, he, hw, h.bind.mono fun ds μ1 S1 H1 s1 w1 h1 vs a1 sz => hs _ μ1 S1 H1 vs ds Q sz w1 a1 h1⟩
theorem ej_callB {id : String} {x : Str} {p : Pos} {es : List Expr} {r : List V → Hp → VK → Prop} {g : List D → M D} {f : Env' → M (List D)} (hc : CallR X (.builtin id) r) (hs : CallS X.K X.mg r g) (hm : X.mg x = none) (hv : bootBuiltins x = some (.builtin id)) (ha : AJ X W (e :: es) f)
    (hg : Gl X x := by rfl) (hn : x ≠ "__name__" := by decide) (hdb : (x == ("__debug__" : Str)) = false := by decide)
    (he : starEach (e :: es) X.env = (false, eval e X.env) :: starEach es X.env := by rfl) (hpl : (backTo pos (starEach es X.env)).any (·.1) = false := by rfl) : EJ X W (.Call (.Name x p) (e :: es) [] pos) (xCall g f) :=
  pe_imp (pe_callB hc hg hm hv (pa_sz ha) hn hdb he hpl) fun _ _ _ h => call_read (es := es) hs h
theorem ej_callTy {T : String} {x : Str} {p : Pos} {es : List Expr} {r : List V → Hp → VK → Prop} {g : List D → M D} {f : Env' → M (List D)} (hc : CallR X (.type T) r) (hs : CallS X.K X.mg r g) (hm : X.mg x = none) (hv : bootBuiltins x = some (.type T)) (ha : AJ X W (e :: es) f)
    (hg : Gl X x := by rfl) (hn : x ≠ "__name__" := by decide) (hdb : (x == ("__debug__" : Str)) = false := by decide)
    (he : starEach (e :: es) X.env = (false, eval e X.env) :: starEach es X.env := by rfl) (hpl : (backTo pos (starEach es X.env)).any (·.1) = false := by rfl) : EJ X W (.Call (.Name x p) (e :: es) [] pos) (xCall g f) :=
  pe_imp (pe_callTy hc hg hm hv (pa_sz ha) hn hdb he hpl) fun _ _ _ h => call_read (es := es) hs h
end
end DL
end L2

set_option Elab.async false
set_option linter.all false
set_option maxRecDepth 100000
/-! built-ins over data -/
namespace L2
namespace DL
open PySem PySem.Spec PyProof.Rows
def asInt : D → Option Int
  | .int i => some i
  | _ => none
def asBool : D → Option Bool
  | .bool i => some i
  | _ => none
def asStr : D → Option Str
  | .str i => some i
  | _ => none
def allOf {α : Type} (f : D → Option α) : List D → Option (List α)
  | [] => some []
  | d :: ds => match f d, allOf f ds with
    | some a, some as => some (a :: as)
    | _, _ => none
theorem allOf_map {α : Type} {f : D → Option α} {g : α → D} (h : ∀ a, f (g a) = some a) : ∀ as : List α, allOf f (as.map g) = some as
  | [] => rfl
  | a :: as => by
    show (match f (g a), allOf f (as.map g) with
      | some a, some as => some (a :: as)
      | _, _ => none) = _
    rw [h, allOf_map h as]
theorem of_allOf {α : Type} {f : D → Option α} {g : α → D} (h : ∀ d a, f d = some a → d = g a) : ∀ {ds : List D} {as : List α}, allOf f ds = some as → ds = as.map g
  | [], as, e => by
    have e' : some ([] : List α) = some as := e
    cases e'; rfl
  | d :: ds, as, e => by
    have e' : (match f d, allOf f ds with
      | some a, some as => some (a :: as)
      | _, _ => none) = some as := e
    cases h1 : f d with
    | none => rw [h1] at e'; cases e'
    | some a =>
      cases h2 : allOf f ds with
      | none => rw [h1, h2] at e'; cases e'
      | some bs =>
        rw [h1, h2] at e'
        cases e'
        rw [h d a h1, of_allOf h h2]
        rfl
def intsD : List D → Option (List Int) := allOf asInt
def boolsD : List D → Option (List Bool) := allOf asBool
def strsD : List D → Option (List Str) := allOf asStr
theorem ints_map (ns : List Int) : intsD (ns.map PyData.int) = some ns := allOf_map (f := asInt) (g := PyData.int) (fun _ => rfl) _
theorem bools_map (ns : List Bool) : boolsD (ns.map PyData.bool) = some ns := allOf_map (f := asBool) (g := PyData.bool) (fun _ => rfl) _
theorem strs_map (ns : List Str) : strsD (ns.map PyData.str) = some ns := allOf_map (f := asStr) (g := PyData.str) (fun _ => rfl) _
theorem of_ints {ds : List D} {ns : List Int} (h : intsD ds = some ns) : ds = ns.map PyData.int := of_allOf (fun d a e => by cases d <;> first | (cases e; rfl) | cases e) h
theorem of_bools {ds : List D} {ns : List Bool} (h : boolsD ds = some ns) : ds = ns.map PyData.bool := of_allOf (fun d a e => by cases d <;> first | (cases e; rfl) | cases e) h
theorem of_strs {ds : List D} {ns : List Str} (h : strsD ds = some ns) : ds = ns.map PyData.str := of_allOf (fun d a e => by cases d <;> first | (cases e; rfl) | cases e) h

def oLen : List D → Option D
  | [.list ds] => some (.int ds.length)
  | [.tuple ds] => some (.int ds.length)
  | [.str z] => if szOk z.length = true then some (.int z.length) else none
  | _ => none
def oSum : List D → Option D
  | [.list ds] => (intsD ds).map fun ns => .int ns.sum
  | _ => none
def maxL : List Int → Int
  | [] => 0
  | x :: xs => xs.foldl (fun a b => if b > a then b else a) x
def minL : List Int → Int
  | [] => 0
  | x :: xs => xs.foldl (fun a b => if b < a then b else a) x
theorem maxL_spec : ∀ (xs : List Int) (x : Int), xs.foldl (fun a b => if b > a then b else a) x ∈ x :: xs ∧ ∀ y, y ∈ x :: xs → y ≤ xs.foldl (fun a b => if b > a then b else a) x
  | [], x => ⟨List.mem_cons_self, fun y hy => by simp at hy; subst hy; exact Int.le_refl _⟩
  | z :: zs, x => by
    rw [List.foldl_cons]
    have ih := maxL_spec zs (if z > x then z else x)
    refine ⟨?_, fun y hy => ?_⟩
    · rcases List.mem_cons.mp ih.1 with e | e
      · rw [e]
        split
        · exact List.mem_cons_of_mem _ List.mem_cons_self
        · exact List.mem_cons_self
      · exact List.mem_cons_of_mem _ (List.mem_cons_of_mem _ e)
    · have h0 := ih.2 _ List.mem_cons_self
      rcases List.mem_cons.mp hy with e | hy
      · subst e
        split at h0 <;> rename_i q
        · rw [if_pos q]; omega
        · rw [if_neg q]; exact h0
      · rcases List.mem_cons.mp hy with e | hy
        · subst e
          split at h0 <;> rename_i q
          · rw [if_pos q]; exact h0
          · rw [if_neg q]; omega
        · exact ih.2 y (List.mem_cons_of_mem _ hy)
theorem minL_spec : ∀ (xs : List Int) (x : Int), xs.foldl (fun a b => if b < a then b else a) x ∈ x :: xs ∧ ∀ y, y ∈ x :: xs → xs.foldl (fun a b => if b < a then b else a) x ≤ y
  | [], x => ⟨List.mem_cons_self, fun y hy => by simp at hy; subst hy; exact Int.le_refl _⟩
  | z :: zs, x => by
    rw [List.foldl_cons]
    have ih := minL_spec zs (if z < x then z else x)
    refine ⟨?_, fun y hy => ?_⟩
    · rcases List.mem_cons.mp ih.1 with e | e
      · rw [e]
        split
        · exact List.mem_cons_of_mem _ List.mem_cons_self
        · exact List.mem_cons_self
      · exact List.mem_cons_of_mem _ (List.mem_cons_of_mem _ e)
    · have h0 := ih.2 _ List.mem_cons_self
      rcases List.mem_cons.mp hy with e | hy
      · subst e
        split at h0 <;> rename_i q
        · rw [if_pos q]; omega
        · rw [if_neg q]; exact h0
      · rcases List.mem_cons.mp hy with e | hy
        · subst e
          split at h0 <;> rename_i q
          · rw [if_pos q]; exact h0
          · rw [if_neg q]; omega
        · exact ih.2 y (List.mem_cons_of_mem _ hy)
theorem maxL_is {ns : List Int} (h : 0 < ns.length) : maxL ns ∈ ns ∧ ∀ y, y ∈ ns → y ≤ maxL ns := by
  cases ns with
  | nil => simp at h
  | cons x xs => exact maxL_spec xs x
theorem minL_is {ns : List Int} (h : 0 < ns.length) : minL ns ∈ ns ∧ ∀ y, y ∈ ns → minL ns ≤ y := by
  cases ns with
  | nil => simp at h
  | cons x xs => exact minL_spec xs x
def oMax : List D → Option D
  | [.list ds] => (intsD ds).bind fun ns => if decide (0 < ns.length) = true then some (.int (maxL ns)) else none
  | [.int i, .int j] => some (.int (if j > i then j else i))
  | _ => none
def oMin : List D → Option D
  | [.list ds] => (intsD ds).bind fun ns => if decide (0 < ns.length) = true then some (.int (minL ns)) else none
  | [.int i, .int j] => some (.int (if j < i then j else i))
  | _ => none
def oAny : List D → Option D
  | [.list ds] => (boolsD ds).map fun ns => .bool (ns.any id)
  | _ => none
def oAll : List D → Option D
  | [.list ds] => (boolsD ds).map fun ns => .bool (ns.all id)
  | _ => none
def oAbs : List D → Option D
  | [.int i] => some (.int (if i < 0 then -i else i))
  | _ => none
def oInt : List D → Option D
  | [.int i] => some (.int i)
  | _ => none
def oTuple : List D → Option D
  | [.list ds] => some (.tuple ds)
  | [.tuple ds] => some (.tuple ds)
  | _ => none
def oList : List D → Option D
  | [.list ds] => some (.list ds)
  | [.tuple ds] => some (.list ds)
  | _ => none
def gO (o : List D → Option D) : List D → M D := fun ds => ofO (o ds)
section
variable {K : PySem.W.Frag} {mg : Str → Option Value} {X : Cx}
/-- what may follow from here with d -/
def Fin (K : PySem.W.Frag) (μ : Mu) (S : Wd) (H : Hp) (d : D) (Q : VK) : Prop := ∀ μ' H', Step μ S.length H μ' S.length H' → WOk K μ' S H' → ∀ v, At K μ' S.length (Nh μ' S.length H') v d → Q v H'
theorem Fin.here {μ : Mu} {S : Wd} {H : Hp} {d : D} {Q : VK} (f : Fin K μ S H d Q) (w : WOk K μ S H) {v : V} (a : At K μ S.length (Nh μ S.length H) v d) : Q v H := f μ H (Step.refl ..) w v a
theorem Fin.new {μ : Mu} {S : Wd} {H : Hp} {d : D} {Q : VK} (f : Fin K μ S H d Q) (w : WOk K μ S H) {p : Addr} (hp : H p = none) {o : HO} {v : V} (a : At K μ S.length (Nh μ S.length (upd H p o)) v d) : Q v (upd H p o) := f μ _ (step_new w hp o).1 (step_new w hp o).2 v a
theorem cs_of {r : List V → Hp → VK → Prop} {o : List D → Option D} (h : ∀ (μ : Mu) (S : Wd) (H : Hp) (vs : List V) (ds : List D) (d : D) (Q : VK), Sz K H → WOk K μ S H → Paired (At K μ S.length (Nh μ S.length H)) vs ds → o ds = some d → Fin K μ S H d Q → r vs H Q) : CallS K mg r (gO o) := by
  intro Ec μ S H vs ds Q sz w a q
  unfold gO at q
  cases e : o ds with
  | none => rw [e] at q; exact q.elim
  | some d => rw [e] at q; exact h μ S H vs ds d Q sz w a e q
theorem fin_of {Ec : XK} {μ : Mu} {S : Wd} {H : Hp} {o : Option D} {Q : VK} (h : Post K mg Ec μ S H (ofO o S) (fun z μ' S' H' => ∀ v, At K μ' S'.length (Nh μ' S'.length H') v z → Q v H')) : ∃ d, o = some d ∧ Fin K μ S H d Q := by
  cases o with
  | none => exact h.elim
  | some d => exact ⟨d, rfl, h⟩
theorem pr1 {α β : Type} {F : α → β → Prop} {vs : List α} {d : β} (h : Paired F vs [d]) : ∃ v, vs = [v] ∧ F v d := by
  cases h with
  | cons a t => cases t; exact ⟨_, rfl, a⟩
theorem pr2 {α β : Type} {F : α → β → Prop} {vs : List α} {d e : β} (h : Paired F vs [d, e]) : ∃ v w, vs = [v, w] ∧ F v d ∧ F w e := by
  cases h with
  | cons a t =>
    obtain ⟨w, rfl, b⟩ := pr1 t
    exact ⟨_, _, rfl, a, b⟩
theorem at_ints {μ : Mu} {S : Wd} {H : Hp} {v : V} {ds : List D} {ns : List Int} (a : At K μ S.length (Nh μ S.length H) v (.list ds)) (e : intsD ds = some ns) : ∃ p, v = .ref p ∧ SqL K H p (ns.map V.int) := by
  obtain ⟨p, xs, rfl, h1, h2⟩ := at_list a
  rw [of_ints e] at h2
  rw [dpAll_int h2] at h1
  exact ⟨p, rfl, nh_same.seq h1⟩
theorem at_bools {μ : Mu} {S : Wd} {H : Hp} {v : V} {ds : List D} {ns : List Bool} (a : At K μ S.length (Nh μ S.length H) v (.list ds)) (e : boolsD ds = some ns) : ∃ p, v = .ref p ∧ SqL K H p (ns.map V.bl) := by
  obtain ⟨p, xs, rfl, h1, h2⟩ := at_list a
  rw [of_bools e] at h2
  rw [dpAll_bool h2] at h1
  exact ⟨p, rfl, nh_same.seq h1⟩
theorem at_strs {μ : Mu} {S : Wd} {H : Hp} {v : V} {ds : List D} {ns : List Str} (a : At K μ S.length (Nh μ S.length H) v (.list ds)) (e : strsD ds = some ns) : ∃ p, v = .ref p ∧ SqL K H p (ns.map V.str) := by
  obtain ⟨p, xs, rfl, h1, h2⟩ := at_list a
  rw [of_strs e] at h2
  rw [dpAll_str h2] at h1
  exact ⟨p, rfl, nh_same.seq h1⟩
theorem cs_len : CallS K mg (fun xs H Q => ∃ x n, xs = [x] ∧ LenV K x H n ∧ Q (.int n) H) (gO oLen) := cs_of fun μ S H vs ds d Q sz w a e f => by
  unfold oLen at e
  split at e
  · cases e
    obtain ⟨v, rfl, b⟩ := pr1 a
    obtain ⟨p, xs, rfl, h1, h2⟩ := at_list b
    exact ⟨_, xs.length, rfl, .inl ⟨xs, nh_same.seq h1, rfl⟩, by rw [dpAll_length h2]; exact f.here w (.inr (.int _))⟩
  · cases e
    obtain ⟨v, rfl, b⟩ := pr1 a
    obtain ⟨p, xs, rfl, h1, h2⟩ := at_tup b
    exact ⟨_, xs.length, rfl, .inr ⟨xs, seqT_mono nh_same h1, rfl⟩, by rw [dpAll_length h2]; exact f.here w (.inr (.int _))⟩
  · obtain ⟨v, rfl, b⟩ := pr1 a
    rw [at_str b]
    split at e
    · rename_i z q
      cases e
      exact ⟨_, z.length, rfl, ⟨szOk_le q, rfl⟩, f.here w (.inr (.int _))⟩
    · cases e
  · cases e
theorem cs_sum : CallS K mg (rSum K) (gO oSum) := cs_of fun μ S H vs ds d Q sz w a e f => by
  unfold oSum at e
  split at e
  · obtain ⟨v, rfl, b⟩ := pr1 a
    obtain ⟨ns, e1, rfl⟩ := Option.map_eq_some_iff.mp e
    obtain ⟨p, rfl, q⟩ := at_ints b e1
    exact ⟨p, ns, rfl, q, f.here w (.inr (.int _))⟩
  · cases e
theorem cs_max : CallS K mg (fun vs H Q => rMax K vs H Q ∨ ∃ i j, vs = [.int i, .int j] ∧ Q (.int (if j > i then j else i)) H) (gO oMax) := cs_of fun μ S H vs ds d Q sz w a e f => by
  unfold oMax at e
  split at e
  · obtain ⟨v, rfl, b⟩ := pr1 a
    obtain ⟨ns, e1, e2⟩ := Option.bind_eq_some_iff.mp e
    split at e2
    · rename_i q0
      cases e2
      have hn : 0 < ns.length := of_decide_eq_true q0
      obtain ⟨p, rfl, q⟩ := at_ints b e1
      refine .inl ⟨p, ns, rfl, q, hn, fun m hm hy => ?_⟩
      obtain ⟨k1, k2⟩ := maxL_is hn
      have e1 : m = maxL ns := Int.le_antisymm (k2 m hm) (hy _ k1)
      rw [e1]
      exact f.here w (.inr (.int _))
    · cases e2
  · cases e
    obtain ⟨v, u, rfl, b, c⟩ := pr2 a
    rw [at_int b, at_int c]
    exact .inr ⟨_, _, rfl, f.here w (.inr (.int _))⟩
  · cases e
theorem cs_min : CallS K mg (fun vs H Q => rMin K vs H Q ∨ ∃ i j, vs = [.int i, .int j] ∧ Q (.int (if j < i then j else i)) H) (gO oMin) := cs_of fun μ S H vs ds d Q sz w a e f => by
  unfold oMin at e
  split at e
  · obtain ⟨v, rfl, b⟩ := pr1 a
    obtain ⟨ns, e1, e2⟩ := Option.bind_eq_some_iff.mp e
    split at e2
    · rename_i q0
      cases e2
      have hn : 0 < ns.length := of_decide_eq_true q0
      obtain ⟨p, rfl, q⟩ := at_ints b e1
      refine .inl ⟨p, ns, rfl, q, hn, fun m hm hy => ?_⟩
      obtain ⟨k1, k2⟩ := minL_is hn
      have e1 : m = minL ns := Int.le_antisymm (hy _ k1) (k2 m hm)
      rw [e1]
      exact f.here w (.inr (.int _))
    · cases e2
  · cases e
    obtain ⟨v, u, rfl, b, c⟩ := pr2 a
    rw [at_int b, at_int c]
    exact .inr ⟨_, _, rfl, f.here w (.inr (.int _))⟩
  · cases e
theorem cr_max2 (hc : X.calm = true) : CallR X (.builtin "max") (fun vs H Q => rMax X.K vs H Q ∨ ∃ i j, vs = [.int i, .int j] ∧ Q (.int (if j > i then j else i)) H) := (cr_max hc).or (call_max2 hc)
theorem cr_min2 (hc : X.calm = true) : CallR X (.builtin "min") (fun vs H Q => rMin X.K vs H Q ∨ ∃ i j, vs = [.int i, .int j] ∧ Q (.int (if j < i then j else i)) H) := (cr_min hc).or (call_min2 hc)
theorem cs_any : CallS K mg (rAny K) (gO oAny) := cs_of fun μ S H vs ds d Q sz w a e f => by
  unfold oAny at e
  split at e
  · obtain ⟨v, rfl, b⟩ := pr1 a
    obtain ⟨ns, e1, rfl⟩ := Option.map_eq_some_iff.mp e
    obtain ⟨p, rfl, q⟩ := at_bools b e1
    exact ⟨p, ns, rfl, q, f.here w (.inr (.bl _))⟩
  · cases e
theorem cs_all : CallS K mg (rAll K) (gO oAll) := cs_of fun μ S H vs ds d Q sz w a e f => by
  unfold oAll at e
  split at e
  · obtain ⟨v, rfl, b⟩ := pr1 a
    obtain ⟨ns, e1, rfl⟩ := Option.map_eq_some_iff.mp e
    obtain ⟨p, rfl, q⟩ := at_bools b e1
    exact ⟨p, ns, rfl, q, f.here w (.inr (.bl _))⟩
  · cases e
theorem cs_abs : CallS K mg (fun xs H Q => ∃ i, xs = [.int i] ∧ Q (.int (if i < 0 then -i else i)) H) (gO oAbs) := cs_of fun μ S H vs ds d Q sz w a e f => by
  unfold oAbs at e
  split at e
  · cases e
    obtain ⟨v, rfl, b⟩ := pr1 a
    rw [at_int b]
    exact ⟨_, rfl, f.here w (.inr (.int _))⟩
  · cases e
theorem cs_int : CallS K mg (fun xs H Q => (∃ i, xs = [.int i] ∧ Q (.int i) H) ∨ ∃ k, xs = [.bl k] ∧ Q (.int (if k then 1 else 0)) H) (gO oInt) := cs_of fun μ S H vs ds d Q sz w a e f => by
  unfold oInt at e
  split at e
  · cases e
    obtain ⟨v, rfl, b⟩ := pr1 a
    rw [at_int b]
    exact .inl ⟨_, rfl, f.here w (.inr (.int _))⟩
  · cases e
theorem cs_tuple : CallS K mg (fun xs H Q => ∃ p ys, xs = [.ref p] ∧ ((SqL K H p ys ∧ ∀ l, H l = none → Q (.ref l) (upd H l (.tup ys))) ∨ (SqT K H p ys ∧ Q (.ref p) H))) (gO oTuple) := cs_of fun μ S H vs ds d Q sz w a e f => by
  unfold oTuple at e
  split at e
  · cases e
    obtain ⟨v, rfl, b⟩ := pr1 a
    obtain ⟨p, xs, rfl, h1, h2⟩ := at_list b
    exact ⟨p, xs, rfl, .inl ⟨nh_same.seq h1, fun l hl => f.new w hl (at_new_tup w hl h2)⟩⟩
  · cases e
    obtain ⟨v, rfl, b⟩ := pr1 a
    obtain ⟨p, xs, rfl, h1, h2⟩ := at_tup b
    exact ⟨p, xs, rfl, .inr ⟨seqT_mono nh_same h1, f.here w (.inr (.tup h1 h2))⟩⟩
  · cases e
theorem cs_list : CallS K mg (fun xs H Q => ∃ p ys, xs = [.ref p] ∧ (SqL K H p ys ∨ SqT K H p ys) ∧ ∀ l, H l = none → Q (.ref l) (upd H l (.lst ys))) (gO oList) := cs_of fun μ S H vs ds d Q sz w a e f => by
  unfold oList at e
  split at e
  · cases e
    obtain ⟨v, rfl, b⟩ := pr1 a
    obtain ⟨p, xs, rfl, h1, h2⟩ := at_list b
    exact ⟨p, xs, rfl, .inl (nh_same.seq h1), fun l hl => f.new w hl (at_new_list w hl h2)⟩
  · cases e
    obtain ⟨v, rfl, b⟩ := pr1 a
    obtain ⟨p, xs, rfl, h1, h2⟩ := at_tup b
    exact ⟨p, xs, rfl, .inr (seqT_mono nh_same h1), fun l hl => f.new w hl (at_new_list w hl h2)⟩
  · cases e
end
/-! ### isinstance -/
/-- which built-in type a value has -/
def tyName : D → Option String
  | .none => some "NoneType"
  | .bool _ => some "bool"
  | .int _ => some "int"
  | .str _ => some "str"
  | .list _ => some "list"
  | .tuple _ => some "tuple"
  | .dict _ => none
def isiB (c : String) (d : D) : Option Bool := match d with
  | .none => kitB "NoneType" c
  | .bool _ => kitB "bool" c
  | .int _ => kitB "int" c
  | .str _ => kitB "str" c
  | .list _ => kitB "list" c
  | .tuple _ => kitB "tuple" c
  | .dict _ => none
def gIsi (t : D → Option Bool) : D → M D := fun d => match t d with
  | some b => M.ret (.bool b)
  | none => M.no
theorem tyx_of {K : PySem.W.Frag} {H : Hp} {v : V} {d : D} (h : Dp K H v d) : ∃ t, tyName d = some t ∧ TyX K H v (.type t) := by
  cases h with
  | non => exact ⟨_, rfl, .base .non⟩
  | bl b => exact ⟨_, rfl, .base (.bl b)⟩
  | int i => exact ⟨_, rfl, .base (.int i)⟩
  | str x => exact ⟨_, rfl, .base (.str x)⟩
  | lst h1 h2 =>
    refine ⟨_, rfl, ?_⟩
    rcases h1 with (h1 | ⟨o, h1⟩) | ⟨o, its, n, h1, h3, _⟩
    · exact .base (.lst h1)
    · exact .base (.frz h1)
    · exact .kList h1 h3
  | tup h1 h2 =>
    refine ⟨_, rfl, ?_⟩
    rcases h1 with (h1 | ⟨o, h1⟩) | ⟨o, its, n, h1, h3, _⟩
    · exact .base (.tup h1)
    · exact .fTuple h1
    · exact .kTuple h1 h3
section
variable {X : Cx} {W : WX} {e a b c : Expr} {fa fb fc : Env' → M D} {pos : Pos}
/-- isinstance(a, T), T a built-in class; t its answers, by decide -/
theorem ej_isi {T : Str} {c : String} {t : D → Option Bool} {p p2 : Pos} (ha : EJ X W a fa) (hm : X.mg "isinstance" = none) (hT : X.mg T = none) (hv : bootBuiltins T = some (.type c)) (ht : ∀ d b, t d = some b → isiB c d = some b)
    (hg : Gl X "isinstance" := by rfl) (hg2 : Gl X T := by rfl) (hn : T ≠ "__name__" := by decide) (hd : (T == ("__debug__" : Str)) = false := by decide) (hv0 : bootBuiltins "isinstance" = some (.builtin "isinstance") := by decide +kernel)
    (he : starEach (a :: [.Name T p2]) X.env = (false, eval a X.env) :: starEach [.Name T p2] X.env := by rfl) (he2 : starEach (.Name T p2 :: []) X.env = (false, eval (.Name T p2) X.env) :: starEach [] X.env := by rfl)
    (hpl : (backTo pos (starEach [.Name T p2] X.env)).any (·.1) = false := by rfl) : EJ X W (.Call (.Name "isinstance" p) [a, .Name T p2] [] pos) (x1 (gIsi t) fa) := by
  refine pe_imp (pe_callB call_isi hg hm hv0 (pa_cons ha (pa_cons (pe_bltn (v := .ty c) hg2 hT hv rfl hn hd) pa_nil he2) he) (by decide) (by decide) he hpl) fun σ H Q h => ?_
  obtain ⟨μ, S, ρ, he, hw, h⟩ := h
  refine ⟨μ, S, ρ, he, hw, h.bind.mono fun d μ1 S1 H1 s1 w1 h1 v a1 => ?_⟩
  unfold gIsi at h1
  cases ed : t d with
  | none => rw [ed] at h1; exact h1.elim
  | some b =>
    rw [ed] at h1
    have k := ht d b ed
    have nodict : ∀ kvs, d ≠ .dict kvs := fun kvs z => by subst z; cases k
    obtain ⟨ty, e1, tx⟩ := tyx_of (dp_mono nh_same _ _ (at_dp a1 nodict))
    refine ⟨v, .ty c, .type ty, .type c, b, rfl, .ty c, tx, kit_ty ?_, Post.here h1 w1 _ (.inr (.bl _))⟩
    cases d <;> first | (cases e1; exact k) | cases e1
def tInt : D → Option Bool
  | .int _ => some true
  | .bool _ => some true
  | .dict _ => none
  | _ => some false
def tBool : D → Option Bool
  | .bool _ => some true
  | .dict _ => none
  | _ => some false
def tStr : D → Option Bool
  | .str _ => some true
  | .dict _ => none
  | _ => some false
def tTuple : D → Option Bool
  | .tuple _ => some true
  | .dict _ => none
  | _ => some false
def tList : D → Option Bool
  | .list _ => some true
  | .dict _ => none
  | _ => some false
theorem tInt_ok : ∀ d b, tInt d = some b → isiB "int" d = some b := fun d b h => by
  cases d <;> first | (cases h; simp only [isiB]; decide +kernel) | cases h
theorem tBool_ok : ∀ d b, tBool d = some b → isiB "bool" d = some b := fun d b h => by
  cases d <;> first | (cases h; simp only [isiB]; decide +kernel) | cases h
theorem tStr_ok : ∀ d b, tStr d = some b → isiB "str" d = some b := fun d b h => by
  cases d <;> first | (cases h; simp only [isiB]; decide +kernel) | cases h
theorem tTuple_ok : ∀ d b, tTuple d = some b → isiB "tuple" d = some b := fun d b h => by
  cases d <;> first | (cases h; simp only [isiB]; decide +kernel) | cases h
theorem tList_ok : ∀ d b, tList d = some b → isiB "list" d = some b := fun d b h => by
  cases d <;> first | (cases h; simp only [isiB]; decide +kernel) | cases h
/-! ### subscripts -/
/-- which handle -/
def hOf : D → Option Nat
  | .dict [(.int i, .none)] => if 0 ≤ i then some i.toNat else none
  | _ => none
theorem hOf_hnd (n : Nat) : hOf (hnd n) = some n := by
  show (if (0 : Int) ≤ (n : Int) then some (n : Int).toNat else none) = some n
  rw [if_pos (by omega)]
  rfl
theorem at_hnd {K : PySem.W.Frag} {μ : Mu} {n : Nat} {Hn : Hp} {v : V} {d : D} {k : Nat} (a : At K μ n Hn v d) (e : hOf d = some k) : k < n ∧ v = .ref (μ.at_ k) := by
  rcases a with ⟨j, hj, rfl, rfl⟩ | h
  · rw [hOf_hnd] at e; cases e; exact ⟨hj, rfl⟩
  · cases h <;> cases e
def gIx : D → D → M D := fun d i => match d, i with
  | .list ds, .int i => ofO (atI ds i)
  | .tuple ds, .int i => ofO (atI ds i)
  | .str z, .int i => if szOk z.length = true then ofO ((atI z.cps.toList i).map fun c => .str ⟨#[c]⟩) else M.no
  | d, .int i => fun s => match hOf d with
    | some k => match s[k]? with
      | some (.lst ds) => ofO (atI ds i) s
      | none => .no
    | none => .no
  | _, _ => M.no
theorem atI_dp {K : PySem.W.Frag} {H : Hp} {xs : List V} {ds : List D} {i : Int} {d : D} (h : DpAll K H xs ds) (e : atI ds i = some d) : ∃ v, atI xs i = some v ∧ Dp K H v d := by
  unfold atI at e ⊢
  rw [dpAll_length h]
  cases q : ixN ds.length i with
  | none => rw [q] at e; cases e
  | some j =>
    rw [q] at e
    exact dpAll_get' h e
theorem ops_ix {K : PySem.W.Frag} {mg : Str → Option Value} : OpS K mg (rIx K) gIx := by
  intro Ec μ S H x y d e Q sz w ax ay h
  cases e with
  | int i =>
    rw [at_int ay]
    cases d with
    | list ds =>
      obtain ⟨p, xs, rfl, h1, h2⟩ := at_list ax
      have h : Post K mg Ec μ S H (ofO (atI ds i) S) _ := h
      cases q : atI ds i with
      | none => rw [q] at h; exact h.elim
      | some d =>
        rw [q] at h
        obtain ⟨v, e1, k⟩ := atI_dp h2 q
        exact .inl ⟨p, xs, i, v, rfl, rfl, nh_same.seq h1, e1, h.here w _ (.inr k)⟩
    | tuple ds =>
      obtain ⟨p, xs, rfl, h1, h2⟩ := at_tup ax
      have h : Post K mg Ec μ S H (ofO (atI ds i) S) _ := h
      cases q : atI ds i with
      | none => rw [q] at h; exact h.elim
      | some d =>
        rw [q] at h
        obtain ⟨v, e1, k⟩ := atI_dp h2 q
        exact .inr (.inl ⟨p, xs, i, v, rfl, rfl, seqT_mono nh_same h1, e1, h.here w _ (.inr k)⟩)
    | str z =>
      rw [at_str ax]
      have h : Post K mg Ec μ S H ((if szOk z.length = true then ofO ((atI z.cps.toList i).map fun c => PyData.str ⟨#[c]⟩) else M.no) S) _ := h
      split at h
      · rename_i hz
        cases q : atI z.cps.toList i with
        | none => rw [q] at h; exact h.elim
        | some c =>
          rw [q] at h
          exact .inr (.inr ⟨z, i, c, rfl, rfl, szOk_le hz, q, Post.here h w _ (.inr (.str _))⟩)
      · exact h.elim
    | dict kvs =>
      have h : Post K mg Ec μ S H (match hOf (.dict kvs) with
        | some k => match S[k]? with
          | some (.lst ds) => ofO (atI ds i) S
          | none => .no
        | none => .no) _ := h
      cases q : hOf (.dict kvs) with
      | none => rw [q] at h; exact h.elim
      | some k =>
        rw [q] at h
        obtain ⟨hk, rfl⟩ := at_hnd ax q
        simp only at h
        cases q2 : S[k]? with
        | none => rw [q2] at h; exact h.elim
        | some o =>
          cases o with
          | lst ds =>
            rw [q2] at h
            obtain ⟨_, xs, h1, h2⟩ := w.ob k _ q2
            simp only at h
            cases q3 : atI ds i with
            | none => rw [q3] at h; exact h.elim
            | some d =>
              rw [q3] at h
              obtain ⟨v, e1, k⟩ := atI_dp h2 q3
              exact .inl ⟨_, xs, i, v, rfl, rfl, SqL.of h1, e1, Post.here h w _ (.inr k)⟩
    | none => exact h.elim
    | bool _ => exact h.elim
    | int _ => exact h.elim
  | _ => cases d <;> exact h.elim
theorem ej_ix {fi : Env' → M D} (ha : EJ X W a fa) (hi : EJ X W b fi) (hs : PlainIx b := by exact fun _ _ => rfl) : EJ X W (.Subscript a b pos) (x2 gIx fa fi) :=
  ej_two ops_ix ha hi fun h1 h2 => pe_ix ix_seq h1 h2 hs
/-! ### slices -/
def fO (f : Env' → M D) : Env' → M (Option Int) := fun ρ => M.bind (f ρ) fun
  | .int i => M.ret (some i)
  | _ => M.no
def fNo : Env' → M (Option Int) := fun _ => M.ret none
def tOO (K : PySem.W.Frag) (mg : Str → Option Value) (W : WX) (f : Env' → M (Option Int)) : TO := fun σ H Q => ∃ μ S ρ, EnvOk K μ S.length (Nh μ S.length H) ρ σ ∧ WOk K μ S H ∧
  Post K mg (fun c d H' => W c d σ H') μ S H (f ρ S) (fun o μ' S' H' => Q o H')
def OJ (X : Cx) (W : WX) (e : Option Expr) (f : Env' → M (Option Int)) : Prop := PO X e (tOO X.K X.mg W f)
theorem po_imp {e : Option Expr} {t t' : TO} (h : PO X e t) (k : ∀ σ H Q, t' σ H Q → t σ H Q) : PO X e t' := by
  cases h with
  | mk run => exact ⟨fun pins s σ H Q I q => run pins s σ H Q I (k σ H Q q)⟩
theorem oj_none : OJ X W none fNo := po_imp po_none fun σ H Q h => by
  obtain ⟨μ, S, ρ, he, hw, h⟩ := h
  exact h.here hw
theorem oj_some (ha : EJ X W a fa) : OJ X W (some a) (fO fa) := po_imp (po_some ha) fun σ H Q h => by
  obtain ⟨μ, S, ρ, he, hw, h⟩ := h
  refine ⟨μ, S, ρ, he, hw, h.bind.mono fun d μ1 S1 H1 s1 w1 h1 v a1 => ?_⟩
  cases d <;> (try exact h1.elim)
  exact ⟨_, at_int a1, Post.here h1 w1⟩
def cutD (ds : List D) (lo hi : Option Int) : List D := (ds.drop (HT.sIx ds.length 0 lo)).take (HT.sIx ds.length ds.length hi - HT.sIx ds.length 0 lo)
theorem cut_dp {K : PySem.W.Frag} {H : Hp} {xs : List V} {ds : List D} (h : DpAll K H xs ds) (lo hi : Option Int) : DpAll K H (cutV xs lo hi) (cutD ds lo hi) := by
  unfold cutV cutD
  rw [dpAll_length h]
  exact dpAll_take _ (dpAll_drop _ h)
def gSl : D → Option Int → Option Int → M D
  | .list ds, lo, hi => M.ret (.list (cutD ds lo hi))
  | .tuple ds, lo, hi => M.ret (.tuple (cutD ds lo hi))
  | .str z, lo, hi => if szOk z.length = true then M.ret (.str (cutS z lo hi)) else M.no
  | _, _, _ => M.no
def xSl (fa : Env' → M D) (fl fh : Env' → M (Option Int)) : Env' → M D := fun ρ => M.bind (fa ρ) fun x => M.bind (fl ρ) fun l => M.bind (fh ρ) fun h => gSl x l h
def rSlAll (K : PySem.W.Frag) : V → Option Int → Option Int → Hp → VK → Prop := fun x lo hi H Q => rSlL K x lo hi H Q ∨ rSlA K x lo hi H Q ∨ rSlS x lo hi H Q
theorem sl_all : SlR X (rSlAll X.K) := sl_list.or (sl_tupA.or sl_str)
theorem ej_sl {lo hi : Option Expr} {fl fh : Env' → M (Option Int)} {p2 : Pos} (ha : EJ X W a fa) (hl : OJ X W lo fl) (hh : OJ X W hi fh) : EJ X W (.Subscript a (.Slice lo hi none p2) pos) (xSl fa fl fh) := by
  refine pe_imp (pe_slice sl_all ha hl hh) fun σ H Q h => ?_
  obtain ⟨μ, S, ρ, he, hw, h⟩ := h
  refine ⟨μ, S, ρ, he, hw, h.bind.mono fun d μ1 S1 H1 s1 w1 h1 v a1 => ?_⟩
  refine ⟨μ1, S1, ρ, he.step s1, w1, h1.bind.mono fun lo μ2 S2 H2 s2 w2 h2 => ?_⟩
  refine ⟨μ2, S2, ρ, he.step (s1.trans s2), w2, h2.bind.mono fun hi μ3 S3 H3 s3 w3 h3 => ?_⟩
  have a3 := a1.step (s2.trans s3)
  cases d with
  | list ds =>
    obtain ⟨p, xs, rfl, k1, k2⟩ := at_list a3
    exact .inl ⟨p, xs, rfl, nh_same.seq k1, fun q hq => Post.new h3 w3 hq _ _ (at_new_list w3 hq (cut_dp k2 lo hi))⟩
  | tuple ds =>
    obtain ⟨p, xs, rfl, k1, k2⟩ := at_tup a3
    refine .inr (.inl ⟨p, xs, rfl, seqT_mono nh_same k1, fun q => ?_, fun _ q hq => Post.new h3 w3 hq _ _ (at_new_tup w3 hq (cut_dp k2 lo hi))⟩)
    have e : cutD ds lo hi = ds := by
      unfold cutD
      rw [← dpAll_length k2, q.1, q.2, dpAll_length k2, List.drop_zero, Nat.sub_zero, List.take_length]
    have h3 : Post X.K X.mg _ μ3 S3 H3 (R.ok (PyData.tuple (cutD ds lo hi)) S3) _ := h3
    rw [e] at h3
    exact h3.here w3 _ (.inr (.tup k1 k2))
  | str z =>
    rw [at_str a3]
    have h3 : Post X.K X.mg _ μ3 S3 H3 ((if szOk z.length = true then M.ret (PyData.str (cutS z lo hi)) else M.no) S3) _ := h3
    split at h3
    · rename_i hz
      exact .inr (.inr ⟨z, rfl, szOk_le hz, Post.here h3 w3 _ (.inr (.str _))⟩)
    · exact h3.elim
  | _ => exact h3.elim
/-! ### join -/
def oJoin (a : Str) : D → Option D
  | .list ds => (strsD ds).bind fun ys => if decide ((ys.map (·.length)).sum + ys.length * a.length ≤ 16777216) = true then some (.str (Txt.join a ys)) else none
  | _ => none
def gJoin (a : Str) : D → M D := fun d => ofO (oJoin a d)
def onStr (k : Str → M D) : D → M D
  | .str a => k a
  | _ => M.no
def xJoin (fa fb : Env' → M D) : Env' → M D := fun ρ => M.bind (fa ρ) (onStr fun a => M.bind (fb ρ) (gJoin a))
theorem ej_join {apos : Pos} (ha : EJ X W a fa) (hb : EJ X W b fb) (hs : starEach [b] X.env = [(false, eval b X.env)] := by rfl) (hbase : attributeBase a "join" X.env (eval a X.env) = eval a X.env := by rfl) (hline : (apos.endLine == pos.line) = true := by rfl) :
    EJ X W (.Call (.Attribute a "join" apos) [b] [] pos) (xJoin fa fb) := by
  refine pe_imp (pe_join ha hb hs hbase hline) fun σ H Q h => ?_
  obtain ⟨μ, S, ρ, he, hw, h⟩ := h
  refine ⟨μ, S, ρ, he, hw, h.bind.mono fun d μ1 S1 H1 s1 w1 h1 v a1 => ?_⟩
  cases d with
  | str z =>
    rw [at_str a1]
    refine ⟨⟨z, rfl⟩, μ1, S1, ρ, he.step s1, w1, (Post.bind (m := fb ρ) (f := gJoin z) h1).mono fun e μ2 S2 H2 s2 w2 h2 u a2 => ?_⟩
    obtain ⟨d, e1, f⟩ := fin_of h2
    unfold oJoin at e1
    split at e1
    · obtain ⟨ys, q, e2⟩ := Option.bind_eq_some_iff.mp e1
      split at e2
      · rename_i k
        cases e2
        obtain ⟨p, rfl, hq⟩ := at_strs a2 q
        exact ⟨z, p, ys, rfl, rfl, .inl hq, of_decide_eq_true k, f.here w2 (.inr (.str _))⟩
      · cases e2
    · cases e1
  | _ => exact h1.elim
end
end DL
end L2

set_option Elab.async false
set_option linter.all false
set_option maxRecDepth 100000
/-! what is walked; comprehensions -/
namespace L2
namespace DL
open PySem PySem.Spec PyProof.Rows
/-- an item that a walk gives: data that stands, or a new pair of two such -/
def YOk (K : PySem.W.Frag) (Hb H : Hp) (x : V) (H' : Hp) (d : D) : Prop :=
  (H' = H ∧ Dp K Hb x d) ∨ ∃ T x1 x2 d1 d2, x = .ref T ∧ H T = none ∧ H' = upd H T (.tup [x1, x2]) ∧ d = .tuple [d1, d2] ∧ Dp K Hb x1 d1 ∧ Dp K Hb x2 d2
structure IterOk (K : PySem.W.Frag) (Hb : Hp) (J : It) (ds : List D) : Prop where
  len : ds.length ≤ sizeLine
  goes : ∀ i H, i < ds.length → Same Hb H → J.go i H
  stops : ∀ H, Same Hb H → J.stop ds.length H
  yields : ∀ i H x H', i < ds.length → Same Hb H → J.yld i H x H' → ∃ d, ds[i]? = some d ∧ YOk K Hb H x H' d
def tI (K : PySem.W.Frag) (mg : Str → Option Value) (W : WX) (f : Env' → M (List D)) : TI := fun σ H R => ∃ μ S ρ, EnvOk K μ S.length (Nh μ S.length H) ρ σ ∧ WOk K μ S H ∧
  Post K mg (fun c d H' => W c d σ H') μ S H (f ρ S) (fun ds μ' S' H' => ∀ J, IterOk K (Nh μ' S'.length H') J ds → R J H')
def IJ (X : Cx) (W : WX) (tg e : Expr) (f : Env' → M (List D)) : Prop := PI X tg e (tI X.K X.mg W f)
section
variable {X : Cx} {W : WX} {tg e a b : Expr} {fa fb : Env' → M D} {pos : Pos}
theorem pi_imp {t t' : TI} (h : PI X tg e t) (k : ∀ σ H Q, t' σ H Q → t σ H Q) : PI X tg e t' := ⟨fun pins s σ H Q I q => h.run pins s σ H Q I (k σ H Q q)⟩
theorem pi_or {t t' : TI} (h : PI X tg e t) (h' : PI X tg e t') : PI X tg e (fun σ H R => t σ H R ∨ t' σ H R) := ⟨fun pins s σ H Q I q => q.elim (h.run pins s σ H Q I) (h'.run pins s σ H Q I)⟩
def sgn (c : Nat) : D := .str ⟨#[c]⟩
def itD : D → Option (List D)
  | .list ds => some ds
  | .tuple ds => some ds
  | .str z => if szOk z.length = true then some (z.cps.toList.map sgn) else none
  | _ => none
def iD (fa : Env' → M D) : Env' → M (List D) := fun ρ => M.bind (fa ρ) fun d => ofO (itD d)
theorem iter_list {K : PySem.W.Frag} {Hb : Hp} {a : Addr} {xs : List V} {ds : List D} (h : SqL K Hb a xs) (k : DpAll K Hb xs ds) (z : xs.length ≤ sizeLine) : IterOk K Hb (Itl K a) ds := by
  have hl := dpAll_length k
  refine ⟨by rw [← hl]; exact z, fun i H hi e => (walk_list (K := K) (a := a) (xs := xs)).goes i H (by omega) (e.seq h), fun H e => by rw [← hl]; exact (walk_list (K := K) (a := a) (xs := xs)).stops H (e.seq h), fun i H x H' hi e y => ?_⟩
  obtain ⟨e1, e2⟩ := (walk_list (K := K) (a := a) (xs := xs)).yields i H x H' (by omega) (e.seq h) y
  obtain ⟨d, h1, h2⟩ := dpAll_get k e2
  exact ⟨d, h1, .inl ⟨e1, h2⟩⟩
theorem iter_tup {K : PySem.W.Frag} {Hb : Hp} {a : Addr} {xs : List V} {ds : List D} (h : SqT K Hb a xs) (k : DpAll K Hb xs ds) (z : xs.length ≤ sizeLine) : IterOk K Hb (Itt K a) ds := by
  have hl := dpAll_length k
  refine ⟨by rw [← hl]; exact z, fun i H hi e => (walk_tup (K := K) (a := a) (xs := xs)).goes i H (by omega) (seqT_mono e h), fun H e => by rw [← hl]; exact (walk_tup (K := K) (a := a) (xs := xs)).stops H (seqT_mono e h), fun i H x H' hi e y => ?_⟩
  obtain ⟨e1, e2⟩ := (walk_tup (K := K) (a := a) (xs := xs)).yields i H x H' (by omega) (seqT_mono e h) y
  obtain ⟨d, h1, h2⟩ := dpAll_get k e2
  exact ⟨d, h1, .inl ⟨e1, h2⟩⟩
theorem iter_str {K : PySem.W.Frag} {Hb : Hp} {z : Str} (hz : szOk z.length = true) : IterOk K Hb (Its z) (z.cps.toList.map sgn) := by
  have hl : (z.cps.toList.map sgn).length = z.cps.size := by rw [List.length_map, Array.length_toList]
  refine ⟨by rw [hl]; exact szOk_le hz, fun i H hi e => (walk_str (z := z)).goes i H (by omega) trivial, fun H e => by rw [hl]; exact (walk_str (z := z)).stops H trivial, fun i H x H' hi e y => ?_⟩
  obtain ⟨e1, c, e2, e3⟩ := (walk_str (z := z)).yields i H x H' (by omega) trivial y
  refine ⟨sgn c, ?_, .inl ⟨e1, ?_⟩⟩
  · rw [List.getElem?_map, Array.getElem?_toList, e2]
    rfl
  · rw [e3]
    exact .str _
theorem szT {K : PySem.W.Frag} {μ : Mu} {n : Nat} {H : Hp} {a : Addr} {xs : List V} (z : Sz K H) (h : SqT K (Nh μ n H) a xs) : xs.length ≤ sizeLine := z.2 a xs (seqT_mono nh_same h)
theorem szL {K : PySem.W.Frag} {μ : Mu} {n : Nat} {H : Hp} {a : Addr} {xs : List V} (z : Sz K H) (h : SqL K (Nh μ n H) a xs) : xs.length ≤ sizeLine := z.1 a xs (nh_same.seq h)
theorem ij_data (ha : EJ X W a fa) : IJ X W tg a (iD fa) := by
  refine pi_imp (pi_or (pi_list (pe_sz ha)) (pi_or (pi_tup (pe_sz ha)) (pi_str (pe_sz ha)))) fun σ H R h => ?_
  obtain ⟨μ, S, ρ, he, hw, h⟩ := h
  have hb := h.bind
  -- by what comes of the expression
  cases q : fa ρ S with
  | no => rw [q] at hb; exact hb.elim
  | ex e' S' =>
    refine .inl ⟨μ, S, ρ, he, hw, ?_⟩
    rw [q] at hb ⊢
    exact hb
  | ok d S' =>
    have go : ∀ {P : D → Mu → Wd → Hp → Prop}, (∀ μ1 H1, Step μ S.length H μ1 S'.length H1 → WOk X.K μ1 S' H1 → (∃ ds, itD d = some ds ∧ ∀ J, IterOk X.K (Nh μ1 S'.length H1) J ds → R J H1) → P d μ1 S' H1) → Post X.K X.mg (fun c d H' => W c d σ H') μ S H (fa ρ S) P := fun k => by
      rw [q] at hb ⊢
      intro μ1 H1 s1 w1
      obtain ⟨ds, e, h1⟩ := Post.ofO (hb μ1 H1 s1 w1)
      exact k μ1 H1 s1 w1 ⟨ds, e, h1.here w1⟩
    cases d with
    | list ds =>
      refine .inl ⟨μ, S, ρ, he, hw, go fun μ1 H1 s1 w1 ⟨es, e, k⟩ v a1 sz => ?_⟩
      cases e
      obtain ⟨p, xs, rfl, h1, h2⟩ := at_list a1
      exact ⟨p, rfl, ⟨xs, nh_same.seq h1⟩, k _ (iter_list h1 h2 (szL sz h1))⟩
    | tuple ds =>
      refine .inr (.inl ⟨μ, S, ρ, he, hw, go fun μ1 H1 s1 w1 ⟨es, e, k⟩ v a1 sz => ?_⟩)
      cases e
      obtain ⟨p, xs, rfl, h1, h2⟩ := at_tup a1
      exact ⟨p, rfl, ⟨xs, seqT_mono nh_same h1⟩, k _ (iter_tup h1 h2 (szT sz h1))⟩
    | str z =>
      refine .inr (.inr ⟨μ, S, ρ, he, hw, go fun μ1 H1 s1 w1 ⟨es, e, k⟩ v a1 sz => ?_⟩)
      simp only [itD] at e
      split at e
      · rename_i hz
        cases e
        exact ⟨z, at_str a1, k _ (iter_str hz)⟩
      · cases e
    | _ =>
      refine .inl ⟨μ, S, ρ, he, hw, go fun μ1 H1 s1 w1 ⟨es, e, k⟩ v a1 sz => ?_⟩
      cases e
/-! ### range -/
def rgD (lo : Int) (n : Nat) : List D := (List.range n).map fun i => PyData.int (lo + (i : Nat))
def rgOk (i j : Int) : Bool := decide (-4611686018427387904 ≤ i ∧ i < 4611686018427387904 ∧ -4611686018427387904 ≤ j ∧ j < 4611686018427387904 ∧ j - i ≤ 16777216)
def oRg1 : List D → Option (List D)
  | [.int j] => if rgOk 0 j = true then some (rgD 0 j.toNat) else none
  | _ => none
def oRg2 : List D → Option (List D)
  | [.int i, .int j] => if rgOk i j = true then some (rgD i (j - i).toNat) else none
  | _ => none
def iA (o : List D → Option (List D)) (fa : Env' → M (List D)) : Env' → M (List D) := fun ρ => M.bind (fa ρ) fun ds => ofO (o ds)
theorem rgOk_is {i j : Int} (h : rgOk i j = true) : -4611686018427387904 ≤ i ∧ i < 4611686018427387904 ∧ -4611686018427387904 ≤ j ∧ j < 4611686018427387904 ∧ j - i ≤ 16777216 := of_decide_eq_true h
theorem iter_rg {K : PySem.W.Frag} {Hb : Hp} {lo : Int} {n : Nat} (hz : n ≤ 16777216) : IterOk K Hb (Itr lo n) (rgD lo n) := by
  have hl : (rgD lo n).length = n := by unfold rgD; rw [List.length_map, List.length_range]
  refine ⟨by rw [hl, sizeLine_eq]; exact hz, fun i H hi e => by rw [hl] at hi; exact hi, fun H e => by rw [hl]; exact Nat.le_refl _, fun i H x H' hi e y => ?_⟩
  rw [hl] at hi
  obtain ⟨e1, e2⟩ := y
  refine ⟨.int (lo + (i : Nat)), ?_, .inl ⟨e1, ?_⟩⟩
  · unfold rgD
    rw [List.getElem?_map, List.getElem?_range hi]
    rfl
  · rw [e2]
    exact .int _
theorem ij_range1 {p : Pos} {f : Env' → M (List D)} (ha : AJ X W [a] f) (hm : X.mg "range" = none) (hg : Gl X "range" := by rfl) (hs : starEach [a] X.env = [(false, eval a X.env)] := by rfl) : IJ X W tg (.Call (.Name "range" p) [a] [] pos) (iA oRg1 f) := by
  refine pi_imp (pi_range1 hg hm ha hs) fun σ H R h => ?_
  obtain ⟨μ, S, ρ, he, hw, h⟩ := h
  refine ⟨μ, S, ρ, he, hw, h.bind.mono fun ds μ1 S1 H1 s1 w1 h1 vs a1 => ?_⟩
  obtain ⟨es, e, h1⟩ := h1.ofO
  unfold oRg1 at e
  split at e
  · split at e
    · rename_i j q
      cases e
      obtain ⟨v, rfl, b⟩ := pr1 a1
      rw [at_int b]
      obtain ⟨_, _, q1, q2, q3⟩ := rgOk_is q
      exact ⟨j, rfl, q1, q2, h1.here w1 _ (iter_rg (by omega))⟩
    · cases e
  · cases e
theorem ij_range2 {p : Pos} {f : Env' → M (List D)} (ha : AJ X W [a, b] f) (hm : X.mg "range" = none) (hg : Gl X "range" := by rfl) (hs : starEach [a, b] X.env = [(false, eval a X.env), (false, eval b X.env)] := by rfl) (hs2 : starEach [b] X.env = [(false, eval b X.env)] := by rfl) : IJ X W tg (.Call (.Name "range" p) [a, b] [] pos) (iA oRg2 f) := by
  refine pi_imp (pi_range2 hg hm ha hs hs2) fun σ H R h => ?_
  obtain ⟨μ, S, ρ, he, hw, h⟩ := h
  refine ⟨μ, S, ρ, he, hw, h.bind.mono fun ds μ1 S1 H1 s1 w1 h1 vs a1 => ?_⟩
  obtain ⟨es, e, h1⟩ := h1.ofO
  unfold oRg2 at e
  split at e
  · split at e
    · rename_i i j q
      cases e
      obtain ⟨v, u, rfl, b, c⟩ := pr2 a1
      rw [at_int b, at_int c]
      obtain ⟨q1, q2, q3, q4, q5⟩ := rgOk_is q
      exact ⟨i, j, rfl, ⟨q1, q2, q3, q4⟩, h1.here w1 _ (iter_rg (by omega))⟩
    · cases e
  · cases e
/-! ### zip -/
def oZip : List D → Option (List D)
  | [.list xs, .list ys] => some ((xs.zip ys).map fun p => .tuple [p.1, p.2])
  | [.tuple xs, .tuple ys] => some ((xs.zip ys).map fun p => .tuple [p.1, p.2])
  | _ => none
theorem zip_get {xs ys : List D} {i : Nat} {d : D} (h1 : i < (xs.zip ys).length) : ∃ x y, xs[i]? = some x ∧ ys[i]? = some y ∧ ((xs.zip ys).map fun p => PyData.tuple [p.1, p.2])[i]? = some (.tuple [x, y]) := by
  have hl : (xs.zip ys).length = min xs.length ys.length := List.length_zip
  have a1 : i < xs.length := by omega
  have a2 : i < ys.length := by omega
  refine ⟨xs[i], ys[i], List.getElem?_eq_getElem a1, List.getElem?_eq_getElem a2, ?_⟩
  rw [List.getElem?_map, List.getElem?_eq_getElem h1, List.getElem_zip]
  rfl
theorem iter_zipL {K : PySem.W.Frag} {Hb : Hp} {a b : Addr} {vs ws : List V} {xs ys : List D} (h : SqL K Hb a vs) (k : DpAll K Hb vs xs) (z : vs.length ≤ sizeLine) (h' : SqL K Hb b ws) (k' : DpAll K Hb ws ys) :
    IterOk K Hb (Itz K a b) ((xs.zip ys).map fun p => .tuple [p.1, p.2]) := by
  have l1 := dpAll_length k
  have l2 := dpAll_length k'
  have hl : ((xs.zip ys).map fun p => PyData.tuple [p.1, p.2]).length = min vs.length ws.length := by rw [List.length_map, List.length_zip, l1, l2]
  refine ⟨by rw [hl]; exact Nat.le_trans (Nat.min_le_left _ _) z, fun i H hi e => ⟨vs, ws, vs[i]'(by omega), ws[i]'(by omega), e.seq h, e.seq h', List.getElem?_eq_getElem _, List.getElem?_eq_getElem _⟩, fun H e => ⟨vs, ws, e.seq h, e.seq h', by omega⟩, fun i H x H' hi e y => ?_⟩
  obtain ⟨T, x1, x2, rfl, hT, rfl, f1, f2⟩ := y
  obtain ⟨d1, d2, e1, e2, e3⟩ := zip_get (xs := xs) (ys := ys) (i := i) (d := .none) (by rw [List.length_map] at hi; exact hi)
  obtain ⟨v1, g1, q1⟩ := dpAll_get' k e1
  obtain ⟨v2, g2, q2⟩ := dpAll_get' k' e2
  have z1 : x1 = v1 := Option.some.inj ((f1 _ (e.seq h)).symm.trans g1)
  have z2 : x2 = v2 := Option.some.inj ((f2 _ (e.seq h')).symm.trans g2)
  subst z1 z2
  exact ⟨_, e3, .inr ⟨T, x1, x2, d1, d2, rfl, hT, rfl, rfl, q1, q2⟩⟩
theorem iter_zipT {K : PySem.W.Frag} {Hb : Hp} {a b : Addr} {vs ws : List V} {xs ys : List D} (h : SqT K Hb a vs) (k : DpAll K Hb vs xs) (z : vs.length ≤ sizeLine) (h' : SqT K Hb b ws) (k' : DpAll K Hb ws ys) :
    IterOk K Hb (RZ.ItzT K a b) ((xs.zip ys).map fun p => .tuple [p.1, p.2]) := by
  have l1 := dpAll_length k
  have l2 := dpAll_length k'
  have hl : ((xs.zip ys).map fun p => PyData.tuple [p.1, p.2]).length = min vs.length ws.length := by rw [List.length_map, List.length_zip, l1, l2]
  refine ⟨by rw [hl]; exact Nat.le_trans (Nat.min_le_left _ _) z, fun i H hi e => ⟨vs, ws, vs[i]'(by omega), ws[i]'(by omega), seqT_mono e h, seqT_mono e h', List.getElem?_eq_getElem _, List.getElem?_eq_getElem _⟩, fun H e => ⟨vs, ws, seqT_mono e h, seqT_mono e h', by omega⟩, fun i H x H' hi e y => ?_⟩
  obtain ⟨T, x1, x2, rfl, hT, rfl, f1, f2⟩ := y
  obtain ⟨d1, d2, e1, e2, e3⟩ := zip_get (xs := xs) (ys := ys) (i := i) (d := .none) (by rw [List.length_map] at hi; exact hi)
  obtain ⟨v1, g1, q1⟩ := dpAll_get' k e1
  obtain ⟨v2, g2, q2⟩ := dpAll_get' k' e2
  have z1 : x1 = v1 := Option.some.inj ((f1 _ (seqT_mono e h)).symm.trans g1)
  have z2 : x2 = v2 := Option.some.inj ((f2 _ (seqT_mono e h')).symm.trans g2)
  subst z1 z2
  exact ⟨_, e3, .inr ⟨T, x1, x2, d1, d2, rfl, hT, rfl, rfl, q1, q2⟩⟩
theorem ij_zip {p tpos : Pos} {elts : List Expr} {kk : Nat} {f : Env' → M (List D)} (ha : AJ X W [a, b] f) (hm : X.mg "zip" = none) (hg : Gl X "zip" := by rfl) (hs : starEach [a, b] X.env = (false, eval a X.env) :: starEach [b] X.env := by rfl) (hpl : (backTo pos (starEach [b] X.env)).any (·.1) = false := by rfl) :
    IJ X W (.Tuple elts kk tpos) (.Call (.Name "zip" p) [a, b] [] pos) (iA oZip f) := by
  refine pi_imp (RZ.pi_zipA hg hm (pa_sz ha) hs hpl) fun σ H R h => ?_
  obtain ⟨μ, S, ρ, he, hw, h⟩ := h
  refine ⟨μ, S, ρ, he, hw, h.bind.mono fun ds μ1 S1 H1 s1 w1 h1 vs a1 sz => ?_⟩
  obtain ⟨es, e, h1⟩ := h1.ofO
  unfold oZip at e
  split at e
  · cases e
    obtain ⟨v, u, rfl, b, c⟩ := pr2 a1
    obtain ⟨p1, xs, rfl, k1, k2⟩ := at_list b
    obtain ⟨p2, ys, rfl, k3, k4⟩ := at_list c
    exact ⟨p1, p2, xs, ys, rfl, .inl ⟨nh_same.seq k1, nh_same.seq k3, h1.here w1 _ (iter_zipL k1 k2 (szL sz k1) k3 k4)⟩⟩
  · cases e
    obtain ⟨v, u, rfl, b, c⟩ := pr2 a1
    obtain ⟨p1, xs, rfl, k1, k2⟩ := at_tup b
    obtain ⟨p2, ys, rfl, k3, k4⟩ := at_tup c
    exact ⟨p1, p2, xs, ys, rfl, .inr ⟨seqT_mono nh_same k1, seqT_mono nh_same k3, h1.here w1 _ (iter_zipT k1 k2 (szT sz k1) k3 k4)⟩⟩
  · cases e
/-! ### targets -/
def tG (K : PySem.W.Frag) (gt : D → Env' → Option Env') (is : List Nat) : TG := fun v σ H Q => ∃ μ S ρ d ρ', EnvOk K μ S (Nh μ S H) ρ σ ∧ At K μ S (Nh μ S H) v d ∧ gt d ρ = some ρ' ∧
  ∀ σ', EnvOk K μ S (Nh μ S H) ρ' σ' → σ'.length = σ.length → (∀ j, j ∉ is → σ'[j]? = σ[j]?) → Q σ' H
def TJ (X : Cx) (tg : Expr) (gt : D → Env' → Option Env') (is : List Nat) : Prop := PG X tg (tG X.K gt is)
theorem pg_imp {t t' : TG} (h : PG X tg t) (k : ∀ v σ H Q, t' v σ H Q → t v σ H Q) : PG X tg t' := ⟨fun pins s σ H v u Q I r q => h.run pins s σ H v u Q I r (k v σ H Q q)⟩
def gN (i : Nat) : D → Env' → Option Env' := fun d ρ => some (ρ.set i (some d))
theorem EnvOk.set {K : PySem.W.Frag} {μ : Mu} {n : Nat} {Hn : Hp} {ρ : Env'} {σ : St} (h : EnvOk K μ n Hn ρ σ) {v : V} {d : D} (a : At K μ n Hn v d) (i : Nat) : EnvOk K μ n Hn (ρ.set i (some d)) (σ.set i (some v)) := by
  refine ⟨by rw [List.length_set, List.length_set]; exact h.len, fun j e q => ?_⟩
  by_cases hj : i = j
  · subst hj
    by_cases hl : i < ρ.length
    · rw [List.getElem?_set_self hl] at q
      cases q
      exact ⟨v, List.getElem?_set_self (by rw [← h.len]; exact hl), a⟩
    · rw [List.getElem?_eq_none (by rw [List.length_set]; omega)] at q
      cases q
  · rw [List.getElem?_set_ne hj] at q
    obtain ⟨w, e1, e2⟩ := h.at_ j e q
    exact ⟨w, by rw [List.getElem?_set_ne hj]; exact e1, e2⟩
theorem tj_name {i : Nat} {x : Str} (hN : X.N.Nodup) (hi : X.N[i]? = some x := by rfl) (hx : Loc X.env.scope x := by first | exact .inl rfl | exact .inr rfl) (hf : X.fn x = true ∨ X.env.scope.names.lookup x = some .local := by first | exact .inl rfl | exact .inr rfl) : TJ X (.Name x pos) (gN i) [i] := by
  refine pg_imp (pg_name hN hi hx hf) fun v σ H Q h => ?_
  obtain ⟨μ, S, ρ, d, ρ', he, ha, hg, h⟩ := h
  cases hg
  refine h _ (he.set ha i) (by rw [List.length_set]) fun j hj => List.getElem?_set_ne fun z => hj (by simp [z])
def gN2 (i j : Nat) : D → Env' → Option Env' := fun d ρ => match d with
  | .tuple [x, y] => some ((ρ.set i (some x)).set j (some y))
  | _ => none
theorem tj_two {i j : Nat} {x y : Str} {px py : Pos} {k : Nat} (hc : X.calm = true) (hN : X.N.Nodup) (hi : X.N[i]? = some x := by rfl) (hj : X.N[j]? = some y := by rfl) (hx : Loc X.env.scope x := by first | exact .inl rfl | exact .inr rfl) (hy : Loc X.env.scope y := by first | exact .inl rfl | exact .inr rfl)
    (hfx : X.fn x = true ∨ X.env.scope.names.lookup x = some .local := by first | exact .inl rfl | exact .inr rfl) (hfy : X.fn y = true ∨ X.env.scope.names.lookup y = some .local := by first | exact .inl rfl | exact .inr rfl)
    (h1 : (assignEach (.Name x px :: [.Name y py]) X.env).map (·.2) = assign (.Name x px) X.env :: (assignEach [.Name y py] X.env).map (·.2) := by rfl) (h2 : (assignEach (.Name y py :: []) X.env).map (·.2) = assign (.Name y py) X.env :: (assignEach [] X.env).map (·.2) := by rfl)
    (hn : (assignEach [.Name x px, .Name y py] X.env).length = 2 := by rfl) (hst : (assignEach [.Name x px, .Name y py] X.env).findIdx? (·.1) = none := by rfl) :
    TJ X (.Tuple [.Name x px, .Name y py] k pos) (gN2 i j) [i, j] := by
  refine pg_imp (pg_tup (n := 2) hc (pgs_cons (pg_name hN hi hx hfx) (pgs_cons (pg_name hN hj hy hfy) pgs_nil h2) h1) hn hst) fun v σ H Q h => ?_
  obtain ⟨μ, S, ρ, d, ρ', he, ha, hg, h⟩ := h
  unfold gN2 at hg
  split at hg
  · cases hg
    obtain ⟨p, xs, rfl, h1, h2⟩ := at_tup ha
    cases h2 with
    | cons b1 t =>
      cases t with
      | cons b2 t =>
        cases t
        refine ⟨p, _, rfl, seqT_mono nh_same h1, rfl, _, _, rfl, _, _, rfl, rfl, ?_⟩
        refine h _ ((he.set (.inr b1) i).set (.inr b2) j) (by rw [List.length_set, List.length_set]) fun l hl => ?_
        rw [List.getElem?_set_ne fun z => hl (by simp [z]), List.getElem?_set_ne fun z => hl (by simp [z])]
  · cases hg
end
end DL
end L2

set_option Elab.async false
set_option linter.all false
set_option maxRecDepth 100000
/-! comprehensions -/
namespace L2
namespace DL
open PySem PySem.Spec PyProof.Rows
theorem M.bind_assoc {α β γ : Type} (m : M α) (f : α → M β) (g : β → M γ) : (m.bind f).bind g = m.bind fun a => (f a).bind g := by
  funext s
  unfold M.bind
  cases m s <;> rfl
theorem M.ret_bind {α β : Type} (a : α) (f : α → M β) : (M.ret a).bind f = f a := rfl
/-- an error is no way out here -/
def M.quiet {α : Type} (m : M α) : M α := fun s => match m s with
  | .ok a s' => .ok a s'
  | _ => .no
abbrev W0 : WX := fun _ _ _ _ => False
abbrev Ec0 : XK := fun _ _ _ => False
section
variable {K : PySem.W.Frag} {mg : Str → Option Value} {α β : Type} {Ec Ec' : XK} {μ μ0 : Mu} {S S0 : Wd} {H H0 : Hp}
theorem Post.quietB {m : M α} {f : α → M β} {P : β → Mu → Wd → Hp → Prop} (h : Post K mg Ec μ0 S0 H0 (M.bind (M.quiet m) f S) P) :
    Post K mg Ec' μ S H (m S) (fun a μ1 S1 H1 => Post K mg Ec μ0 S0 H0 (f a S1) P) := by
  unfold M.bind M.quiet at h
  cases e : m S with
  | ok a S' =>
    rw [e] at h
    exact fun μ' H' s' w => h
  | ex e' S' => rw [e] at h; exact h.elim
  | no => rw [e] at h; exact h
end
def lcM (item : D → M (Option D)) : List D → M (List D)
  | [] => M.ret []
  | d :: ds => M.bind (M.quiet (item d)) fun o => M.bind (lcM item ds) fun es => M.ret (match o with
    | some e => e :: es
    | none => es)
def wipeE (ρ : Env') : List Nat → Env'
  | [] => ρ
  | v :: vs => (wipeE ρ vs).set v none
def lcItem (gt : D → Env' → Option Env') (ft : Env' → M Bool) (fe : Env' → M D) (ρ : Env') (d : D) : M (Option D) := match gt d ρ with
  | none => M.no
  | some ρ' => M.bind (ft ρ') fun b => if b = true then M.bind (fe ρ') fun e => if nd e = true then M.ret (some e) else M.no else M.ret none
def xLc (fi : Env' → M (List D)) (gt : D → Env' → Option Env') (vs : List Nat) (ft : Env' → M Bool) (fe : Env' → M D) : Env' → M D := fun ρ =>
  M.bind (fi ρ) fun ds => M.bind (lcM (lcItem gt ft fe (wipeE ρ vs)) ds) fun es => M.ret (.list es)
theorem At.mono {K : PySem.W.Frag} {μ μ' : Mu} {n n' : Nat} {Hn Hn' : Hp} {v : V} {d : D} (hl : n ≤ n') (ag : ∀ k, k < n → μ'.at_ k = μ.at_ k) (e : Same Hn Hn') (h : At K μ n Hn v d) : At K μ' n' Hn' v d := by
  rcases h with ⟨k, hk, e1, e2⟩ | h
  · exact .inl ⟨k, Nat.lt_of_lt_of_le hk hl, e1, by rw [ag k hk]; exact e2⟩
  · exact .inr (dp_mono e _ _ h)
theorem EnvOk.mono {K : PySem.W.Frag} {μ μ' : Mu} {n n' : Nat} {Hn Hn' : Hp} {ρ : Env'} {σ : St} (hl : n ≤ n') (ag : ∀ k, k < n → μ'.at_ k = μ.at_ k) (e : Same Hn Hn') (h : EnvOk K μ n Hn ρ σ) : EnvOk K μ' n' Hn' ρ σ :=
  ⟨h.len, fun i d q => let ⟨v, e1, a⟩ := h.at_ i d q; ⟨v, e1, a.mono hl ag e⟩⟩
theorem wipe_get (σ : St) (j : Nat) : ∀ vs : List Nat, (wipe σ vs)[j]? = if j ∈ vs then (if j < σ.length then some none else none) else σ[j]?
  | [] => by simp [wipe]
  | v :: vs => by
    unfold wipe
    rw [List.getElem?_set, wipe_get σ j vs, wipe_length]
    by_cases h : v = j
    · subst h
      simp
    · rw [if_neg h]
      by_cases h2 : j ∈ vs
      · simp [h2]
      · simp [h2, Ne.symm h]
theorem wipeE_len (ρ : Env') : ∀ vs : List Nat, (wipeE ρ vs).length = ρ.length
  | [] => rfl
  | v :: vs => by unfold wipeE; rw [List.length_set, wipeE_len ρ vs]
theorem wipeE_get (ρ : Env') (j : Nat) (d : D) : ∀ vs : List Nat, (wipeE ρ vs)[j]? = some (some d) → j ∉ vs ∧ ρ[j]? = some (some d)
  | [], h => ⟨by simp, h⟩
  | v :: vs, h => by
    unfold wipeE at h
    rw [List.getElem?_set] at h
    by_cases e : v = j
    · rw [if_pos e] at h
      split at h <;> cases h
    · rw [if_neg e] at h
      obtain ⟨h1, h2⟩ := wipeE_get ρ j d vs h
      exact ⟨by simp only [List.mem_cons, not_or]; exact ⟨Ne.symm e, h1⟩, h2⟩
theorem EnvOk.wipe {K : PySem.W.Frag} {μ : Mu} {n : Nat} {Hn : Hp} {ρ : Env'} {σ : St} (h : EnvOk K μ n Hn ρ σ) (vs : List Nat) : EnvOk K μ n Hn (wipeE ρ vs) (L2.wipe σ vs) := by
  refine ⟨by rw [wipeE_len, wipe_length]; exact h.len, fun i d q => ?_⟩
  obtain ⟨h1, h2⟩ := wipeE_get ρ i d vs q
  obtain ⟨v, e1, a⟩ := h.at_ i d h2
  exact ⟨v, by rw [wipe_get, if_neg h1]; exact e1, a⟩
theorem nh_hid {μ : Mu} {n : Nat} {H : Hp} {a : Addr} {o : HO} (h : a ∈ μ.hid) : Nh μ n (upd H a o) = Nh μ n H := by
  funext b
  unfold Nh
  by_cases e : b = a
  · subst e
    have q : ((List.range n).any (fun k => μ.at_ k == b) || μ.hid.contains b) = true := Bool.or_eq_true_iff.mpr (.inr (by simpa using h))
    rw [if_pos q, if_pos q]
  · rw [upd_ne e]
theorem YOk.to {K : PySem.W.Frag} {Hb H : Hp} {x : V} {H' : Hp} {d : D} {μ : Mu} {S : Wd} (y : YOk K Hb H x H' d) (w : WOk K μ S H) (e : Same Hb (Nh μ S.length H)) : Step μ S.length H μ S.length H' ∧ WOk K μ S H' ∧ At K μ S.length (Nh μ S.length H') x d := by
  rcases y with ⟨rfl, h⟩ | ⟨T, x1, x2, d1, d2, rfl, hT, rfl, rfl, h1, h2⟩
  · exact ⟨Step.refl .., w, .inr (dp_mono e _ _ h)⟩
  · exact ⟨(step_new w hT _).1, (step_new w hT _).2, at_new_tup w hT (.cons (dp_mono e _ _ h1) (.cons (dp_mono e _ _ h2) .nil))⟩
/-- the same, h hidden -/
def Mu.with (μ : Mu) (h : List Addr) : Mu := ⟨μ.at_, h⟩
theorem hide_new {K : PySem.W.Frag} {μ : Mu} {S : Wd} {H : Hp} (w : WOk K μ S H) {p : Addr} (hp : H p = none) (o : HO) : Same (Nh μ S.length H) (Nh (μ.with (p :: μ.hid)) S.length (upd H p o)) ∧ WOk K (μ.with (p :: μ.hid)) S (upd H p o) := by
  have k : Same (Nh μ S.length H) (Nh (μ.with (p :: μ.hid)) S.length (upd H p o)) := fun a u e => by
    obtain ⟨e1, e2, e3⟩ := nh_some.mp e
    have ne := ne_of_none e1 hp
    exact nh_some.mpr ⟨by rw [upd_ne ne]; exact e1, e2, fun z => (List.mem_cons.mp z).elim ne e3⟩
  have w2 := (step_new w hp o).2
  refine ⟨k, w.inj, fun i ob h => ?_, fun a ha => ?_, fun i hi z => ?_⟩
  · have hi : i < S.length := (List.getElem?_eq_some_iff.mp h).1
    exact (w.ob i ob h).mono k (upd_ne (w.new hp hi))
  · rcases List.mem_cons.mp ha with e | ha
    · subst e; exact ⟨o, upd_same⟩
    · exact w2.ht a ha
  · rcases List.mem_cons.mp z with e | z
    · exact w.new hp hi e
    · exact w.hn i hi z
theorem nh_more {μ : Mu} {n : Nat} {H : Hp} {h h' : List Addr} (k : ∀ a, a ∈ h → a ∈ h') : Same (Nh (μ.with h') n H) (Nh (μ.with h) n H) := fun a u e => by
  obtain ⟨e1, e2, e3⟩ := nh_some.mp e
  exact nh_some.mpr ⟨e1, e2, fun z => e3 (k a z)⟩
theorem WOk.show {K : PySem.W.Frag} {μ : Mu} {S : Wd} {H : Hp} {h : List Addr} (w : WOk K μ S H) (k : ∀ a, a ∈ h → a ∈ μ.hid) : WOk K (μ.with h) S H :=
  ⟨w.inj, fun i ob q => (w.ob i ob q).mono (nh_more (μ := μ) (h' := μ.hid) k) rfl, fun a ha => w.ht a (k a ha), fun i hi z => w.hn i hi (k _ z)⟩
section
variable {X : Cx} {W : WX}
def TsJ (X : Cx) (W : WX) (ifs : List Expr) (f : Env' → M Bool) : Prop := PTs X ifs (tB X.K X.mg W f)
theorem pts_imp {ifs : List Expr} {t t' : TT} (h : PTs X ifs t) (k : ∀ σ H Q, t' σ H Q → t σ H Q) : PTs X ifs t' := ⟨fun pins s σ H Q I q => h.run pins s σ H Q I (k σ H Q q)⟩
def fYes : Env' → M Bool := fun _ => M.ret true
theorem ts_nil : TsJ X W [] fYes := pts_imp pts_nil fun σ H Q h => by
  obtain ⟨μ, S, ρ, he, hw, h⟩ := h
  exact h.here hw
theorem ts_one {c : Expr} {f : Env' → M Bool} (h : BJ X W c f) : TsJ X W [c] f := pts_one h
/-- what holds between two turns of a comprehension -/
structure LcInv (K : PySem.W.Frag) (mg : Str → Option Value) (Ec : XK) (μ1 : Mu) (S1 : Wd) (H1 : Hp) (Dd : Addr) (item : D → M (Option D)) (ds : List D) (P : D → Mu → Wd → Hp → Prop) (i : Nat) (H : Hp) (μ' : Mu) (S' : Wd) (acc : List V) (es0 : List D) : Prop where
  hid : μ'.hid = Dd :: μ1.hid
  at_ : H Dd = some (.lst acc)
  w : WOk K μ' S' H
  st : Step μ1 S1.length H1 (μ'.with μ1.hid) S'.length H
  dp : DpAll K (Nh μ' S'.length H) acc es0
  le : es0.length ≤ i
  post : Post K mg Ec μ1 S1 H1 (M.bind (lcM item (ds.drop i)) (fun es => M.ret (.list (es0 ++ es))) S') P
theorem lc_read {fi : Env' → M (List D)} {gt : D → Env' → Option Env'} {is vs : List Nat} {ft : Env' → M Bool} {fe : Env' → M D} {K : PySem.W.Frag} {mg : Str → Option Value} (hi : ∀ j, j ∈ is → j ∈ vs) {σ : St} {H : Hp} {Q : VK}
    (h : tE K mg W (xLc fi gt vs ft fe) σ H Q) : tLc (tI K mg W fi) (tG K gt is) (tB K mg W0 ft) (tE K mg W0 fe) vs σ H Q := by
  obtain ⟨μ, S, ρ, he, hw, h⟩ := h
  refine ⟨μ, S, ρ, he, hw, h.bind.mono fun ds μ1 S1 H1 s1 w1 h1 J hJ => ?_⟩
  intro Dd hD
  have he1 := he.step s1
  generalize hit : lcItem gt ft fe (wipeE ρ vs) = item at h1
  refine ⟨fun i m H => m = ds.length - i ∧ i ≤ ds.length ∧ ∃ μ' S' acc es0, LcInv K mg (fun c d H' => W c d σ H') μ1 S1 H1 Dd item ds (fun d μ' S' H' => ∀ v, At K μ' S'.length (Nh μ' S'.length H') v d → Q v H') i H μ' S' acc es0, ⟨ds.length, by omega, Nat.zero_le _, μ1.with (Dd :: μ1.hid), S1, [], [], ?_⟩, ?_⟩
  · obtain ⟨k1, k2⟩ := hide_new w1 hD (.lst [])
    exact ⟨rfl, upd_same, k2, (step_new w1 hD _).1, .nil, Nat.zero_le _, h1⟩
  · rintro i m H2 ⟨rfl, hle, μ', S', acc, es0, J0⟩
    have sm : Same (Nh μ1 S1.length H1) H2 := J0.st.keep.trans nh_same
    have sm2 : Same (Nh μ1 S1.length H1) (Nh μ' S'.length H2) := fun a u e => by
      obtain ⟨e1, e2, e3⟩ := nh_some.mp (J0.st.keep a u e)
      obtain ⟨f1, _, _⟩ := nh_some.mp e
      exact nh_some.mpr ⟨e1, e2, fun z => by
        rw [J0.hid] at z
        rcases List.mem_cons.mp z with z | z
        · exact ne_of_none f1 hD z
        · exact e3 z⟩
    by_cases hlt : i < ds.length
    · refine .inr ⟨hJ.goes i H2 hlt sm, fun H' => i + 1 ≤ ds.length ∧ ∃ μ' S' acc es0, LcInv K mg (fun c d H' => W c d σ H') μ1 S1 H1 Dd item ds (fun d μ' S' H' => ∀ v, At K μ' S'.length (Nh μ' S'.length H') v d → Q v H') (i + 1) H' μ' S' acc es0, fun H' q => ⟨ds.length - (i + 1), by omega, rfl, q.1, q.2⟩, fun x H3 hy => ?_⟩
      obtain ⟨d, hd, y⟩ := hJ.yields i H2 x H3 hlt sm hy
      obtain ⟨s3, w3, a3⟩ := y.to J0.w sm2
      have hdrop : ds.drop i = d :: ds.drop (i + 1) := by
        rw [List.drop_eq_getElem_cons hlt]
        congr 1
        exact Option.some.inj ((List.getElem?_eq_getElem hlt).symm.trans hd)
      have hP := J0.post
      rw [hdrop] at hP
      have hP2 : Post K mg (fun c d H' => W c d σ H') μ1 S1 H1 (M.bind (M.quiet (item d)) (fun o => M.bind (lcM item (ds.drop (i + 1))) fun es => M.ret (.list (es0 ++ (match o with
          | some e => e :: es
          | none => es)))) S') (fun d μ' S' H' => ∀ v, At K μ' S'.length (Nh μ' S'.length H') v d → Q v H') := by
        have q : M.bind (lcM item (d :: ds.drop (i + 1))) (fun es => M.ret (PyData.list (es0 ++ es))) = M.bind (M.quiet (item d)) (fun o => M.bind (lcM item (ds.drop (i + 1))) fun es => M.ret (.list (es0 ++ (match o with
          | some e => e :: es
          | none => es)))) := by
          show M.bind (M.bind (M.quiet (item d)) fun o => M.bind (lcM item (ds.drop (i + 1))) fun es => M.ret (match o with
            | some e => e :: es
            | none => es)) (fun es => M.ret (PyData.list (es0 ++ es))) = _
          rw [M.bind_assoc]
          congr 1
          funext o
          rw [M.bind_assoc]
          rfl
        rw [q] at hP
        exact hP
      clear hP
      -- the target
      have hin : item d = match gt d (wipeE ρ vs) with
        | none => M.no
        | some ρ' => M.bind (ft ρ') fun b => if b = true then M.bind (fe ρ') fun e => if nd e = true then M.ret (some e) else M.no else M.ret none := by rw [← hit]; rfl
      cases hg : gt d (wipeE ρ vs) with
      | none =>
        rw [hg] at hin
        rw [hin] at hP2
        exact hP2.elim
      | some ρ' =>
        rw [hg] at hin
        simp only at hin
        have hew : EnvOk K μ' S'.length (Nh μ' S'.length H3) (wipeE ρ vs) (L2.wipe σ vs) := (he1.mono (μ' := μ') J0.st.le J0.st.ag (sm2.trans s3.keep)).wipe vs
        refine ⟨μ', S'.length, wipeE ρ vs, d, ρ', hew, a3, hg, fun σ2 he2 hl2 hsame => ⟨?_, ?_⟩⟩
        · apply List.ext_getElem?
          intro j
          rw [wipe_get, wipe_get]
          have hl3 : σ2.length = σ.length := by rw [hl2, wipe_length]
          by_cases hj : j ∈ vs
          · rw [if_pos hj, if_pos hj, hl3]
          · rw [if_neg hj, if_neg hj, hsame j fun z => hj (hi j z), wipe_get, if_neg hj]
        rw [hin] at hP2
        have hb := (Post.quietB (Ec' := Ec0) (μ := μ') (S := S') (H := H3) hP2).bind
        -- the way of the result of a turn
        have next : ∀ {μ4 : Mu} {S4 : Wd} {H4 : Hp}, Step μ' S'.length H2 μ4 S4.length H4 → WOk K μ4 S4 H4 → ∀ (o : Option D) (acc' : List V) (es' : List D), es'.length ≤ i + 1 → DpAll K (Nh μ4 S4.length H4) acc' es' → (∀ es, es0 ++ (match o with
          | some e => e :: es
          | none => es) = es' ++ es) → Post K mg (fun c d H' => W c d σ H') μ1 S1 H1 (M.bind (lcM item (ds.drop (i + 1))) (fun es => M.ret (.list (es0 ++ (match o with
          | some e => e :: es
          | none => es)))) S4) (fun d μ' S' H' => ∀ v, At K μ' S'.length (Nh μ' S'.length H') v d → Q v H') → i + 1 ≤ ds.length ∧ ∃ μ' S' acc es0, LcInv K mg (fun c d H' => W c d σ H') μ1 S1 H1 Dd item ds (fun d μ' S' H' => ∀ v, At K μ' S'.length (Nh μ' S'.length H') v d → Q v H') (i + 1) (upd H4 Dd (.lst acc')) μ' S' acc es0 := fun {μ4 S4 H4} s4 w4 o acc' es' hle' hdp heq hpost => by
          have hid4 : μ4.hid = Dd :: μ1.hid := s4.hd.trans J0.hid
          have hDm : Dd ∈ μ4.hid := by rw [hid4]; exact List.mem_cons_self
          have neD : ∀ a, a ∈ μ1.hid → a ≠ Dd := fun a ha z => by
            obtain ⟨o, q⟩ := w1.ht a ha
            rw [z, hD] at q; cases q
          refine ⟨hlt, μ4, S4, acc', es', ⟨hid4, upd_same, ⟨w4.inj, fun k ob q => ?_, fun a ha => ?_, w4.hn⟩, ⟨Nat.le_trans J0.st.le s4.le, fun k hk => (s4.ag k (Nat.lt_of_lt_of_le hk J0.st.le)).trans (J0.st.ag k hk), rfl, fun a ha => ?_, fun a u e => ?_⟩, by rw [nh_hid hDm]; exact hdp, hle', ?_⟩⟩
          · have hk : k < S4.length := (List.getElem?_eq_some_iff.mp q).1
            exact (w4.ob k ob q).mono (by rw [nh_hid hDm]; exact Same.refl _) (upd_ne fun z => w4.hn k hk (by rw [z]; exact hDm))
          · by_cases z : a = Dd
            · exact ⟨_, by rw [z]; exact upd_same⟩
            · rw [upd_ne z]; exact w4.ht a ha
          · rw [upd_ne (neD a ha)]
            exact (s4.hk a (by rw [J0.hid]; exact List.mem_cons_of_mem _ ha)).trans (J0.st.hk a ha)
          · obtain ⟨f1, _, _⟩ := nh_some.mp e
            have g := s4.keep a u (sm2 a u e)
            obtain ⟨g1, g2, g3⟩ := nh_some.mp g
            refine nh_some.mpr ⟨by rw [upd_ne (ne_of_none f1 hD)]; exact g1, g2, fun z => g3 ?_⟩
            rw [hid4]
            exact List.mem_cons_of_mem _ z
          · have q : (fun es => M.ret (PyData.list (es0 ++ (match o with
              | some e => e :: es
              | none => es)))) = fun es => M.ret (PyData.list (es' ++ es)) := funext fun es => by rw [heq es]
            rw [← q]
            exact hpost
        refine ⟨μ', S', ρ', he2, w3, hb.mono fun b μ4 S4 H4 s4 w4 h4 => ?_⟩
        cases b with
        | false =>
          have h5 := Post.here h4 w4
          have hH : H4 = upd H4 Dd (.lst acc) := by
            funext a
            by_cases z : a = Dd
            · rw [z, upd_same, (s3.trans s4).hk Dd (by rw [J0.hid]; exact List.mem_cons_self)]
              exact J0.at_
            · rw [upd_ne z]
          have := next (s3.trans s4) w4 none acc es0 (Nat.le_succ_of_le J0.le) (dpAll_mono (s3.trans s4).keep _ _ J0.dp) (fun _ => rfl) h5
          rw [← hH] at this
          exact this
        | true =>
          refine ⟨μ4, S4, ρ', he2.step s4, w4, h4.bind.mono fun e μ5 S5 H5 s5 w5 h5 y a5 => ?_⟩
          split at h5
          · rename_i hnd
            have h6 := Post.here h5 w5
            have s35 := s3.trans (s4.trans s5)
            refine ⟨acc, ?_, ?_, ?_⟩
            · rw [s35.hk Dd (by rw [J0.hid]; exact List.mem_cons_self)]
              exact J0.at_
            · have hl := dpAll_length J0.dp
              have hz := hJ.len
              have hl' := J0.le
              omega
            · refine next s35 w5 (some e) (acc ++ [y]) (es0 ++ [e]) (by rw [List.length_append]; exact Nat.succ_le_succ J0.le) (dpAll_append (dpAll_mono s35.keep _ _ J0.dp) (.cons (at_dp a5 fun kvs z => by rw [z] at hnd; cases hnd) .nil)) (fun es => by simp) h6
          · exact h5.elim
    · have e : i = ds.length := by omega
      subst e
      refine .inl ⟨hJ.stops H2 sm, ?_⟩
      have hP := J0.post
      rw [List.drop_length] at hP
      have hP : Post K mg (fun c d H' => W c d σ H') μ1 S1 H1 (.ok (.list (es0 ++ [])) S') (fun d μ' S' H' => ∀ v, At K μ' S'.length (Nh μ' S'.length H') v d → Q v H') := hP
      rw [List.append_nil] at hP
      refine hP (μ'.with μ1.hid) H2 J0.st (J0.w.show fun a ha => by rw [J0.hid]; exact List.mem_cons_of_mem _ ha) _ (.inr (.lst (.inl (.inl (nh_some.mpr ⟨J0.at_, fun k hk z => J0.w.hn k hk ?_, fun z => ?_⟩))) (dpAll_mono (nh_more (μ := μ') (h' := μ'.hid) fun a ha => by rw [J0.hid]; exact List.mem_cons_of_mem _ ha) _ _ J0.dp)))
      · rw [J0.hid]
        have z' : μ'.at_ k = Dd := z
        rw [z']
        exact List.mem_cons_self
      · obtain ⟨o, q⟩ := w1.ht Dd z
        rw [hD] at q; cases q
theorem ej_lc {elt tg iter : Expr} {ifs : List Expr} {scope : Scope} {own : List (Str × Nat)} {pos : Pos} {fi : Env' → M (List D)} {gt : D → Env' → Option Env'} {is : List Nat} {ft : Env' → M Bool} {fe : Env' → M D} (hc : X.calm = true) (hN : X.N.Nodup) (hi : IJ X W tg iter fi) (ok : BlkOk X.N X.env.scope scope own)
    (hg : ∀ (s : Shared) (H : Hp) (C : Addr) (cl : List (Str × Addr)) (fp : List Addr), TJ (X.blk s H scope (compEnvC scope cl C X.env) fp) tg gt is) (ht : ∀ (s : Shared) (H : Hp) (C : Addr) (cl : List (Str × Addr)) (fp : List Addr), TsJ (X.blk s H scope (compEnvC scope cl C X.env) fp) W0 ifs ft)
    (he : ∀ (s : Shared) (H : Hp) (C : Addr) (cl : List (Str × Addr)) (fp : List Addr), EJ (X.blk s H scope (compEnvC scope cl C X.env) fp) W0 elt fe) (hv : ∀ j, j ∈ is → j ∈ own.map (·.2) := by decide) (hs : ∀ x, foldedSetIterable iter X.env x = pure x := by intro _; rfl) :
    EJ X W (.ListComp elt [⟨tg, iter, ifs, 0⟩] scope pos) (xLc fi gt (own.map (·.2)) ft fe) :=
  pe_imp (pe_lc (g := tG X.K gt is) (tt := tB X.K X.mg W0 ft) (te := tE X.K X.mg W0 fe) hc hN hi ok hg ht he hs) fun σ H Q h => lc_read hv h
end
end DL
end L2

set_option Elab.async false
set_option linter.all false
set_option maxRecDepth 100000
/-! results that are new; calls of own defs; statements -/
namespace L2
namespace DL
open PySem PySem.Spec PyProof.Rows
/-- a list that did not stand in B -/
def FrAt (K : PySem.W.Frag) (B : Hp) (μ : Mu) (n : Nat) (H : Hp) (v : V) (d : D) : Prop := ∃ p es vs, v = .ref p ∧ d = .list es ∧ H p = some (.lst vs) ∧ B p = none ∧ (∀ k, k < n → μ.at_ k ≠ p) ∧ p ∉ μ.hid ∧ DpAll K (Nh (μ.with (p :: μ.hid)) n H) vs es
def RetOk (K : PySem.W.Frag) (B : Hp) (μ : Mu) (n : Nat) (H : Hp) (v : V) (r : D × Bool) : Prop := At K μ n (Nh μ n H) v r.1 ∧ (r.2 = true → FrAt K B μ n H v r.1)
theorem still {K : PySem.W.Frag} {μ μ' : Mu} {S S' : Wd} {H H' : Hp} (s : Step μ S.length H μ' S'.length H') (w : WOk K μ S H) (w' : WOk K μ' S' H') {p : Addr} (h : H' p = none) : H p = none := by
  cases e : H p with
  | none => rfl
  | some o =>
    exfalso
    by_cases hh : p ∈ μ.hid
    · rw [← s.hk p hh, h] at e; cases e
    · by_cases hk : ∃ k, k < S.length ∧ μ.at_ k = p
      · obtain ⟨k, hk, z⟩ := hk
        obtain ⟨o', q⟩ := w'.tracked (Nat.lt_of_lt_of_le hk s.le)
        rw [s.ag k hk, z, h] at q; cases q
      · have q := s.keep p o (nh_some.mpr ⟨e, fun k hk' z => hk ⟨k, hk', z⟩, hh⟩)
        rw [(nh_some.mp q).1] at h; cases h
theorem FrAt.back {K : PySem.W.Frag} {B B' : Hp} {μ : Mu} {n : Nat} {H : Hp} {v : V} {d : D} (h : FrAt K B μ n H v d) (k : ∀ p, B p = none → B' p = none) : FrAt K B' μ n H v d := by
  obtain ⟨p, es, vs, a, b, c, e, f, g, i⟩ := h
  exact ⟨p, es, vs, a, b, c, k p e, f, g, i⟩
theorem RetOk.back {K : PySem.W.Frag} {B B' : Hp} {μ : Mu} {n : Nat} {H : Hp} {v : V} {r : D × Bool} (h : RetOk K B μ n H v r) (k : ∀ p, B p = none → B' p = none) : RetOk K B' μ n H v r := ⟨h.1, fun q => (h.2 q).back k⟩
def tF (K : PySem.W.Frag) (mg : Str → Option Value) (W : WX) (f : Env' → M (D × Bool)) : TE := fun σ H Q => ∃ μ S ρ, EnvOk K μ S.length (Nh μ S.length H) ρ σ ∧ WOk K μ S H ∧
  Post K mg (fun c d H' => W c d σ H') μ S H (f ρ S) (fun r μ' S' H' => ∀ v, RetOk K H μ' S'.length H' v r → Q v H')
def FJ (X : Cx) (W : WX) (e : Expr) (f : Env' → M (D × Bool)) : Prop := PE X e (tF X.K X.mg W f)
def fE (f : Env' → M D) : Env' → M (D × Bool) := fun ρ => M.bind (f ρ) fun d => M.ret (d, false)
def eF (f : Env' → M (D × Bool)) : Env' → M D := fun ρ => M.bind (f ρ) fun r => M.ret r.1
section
variable {X : Cx} {W : WX} {e : Expr} {pos : Pos}
theorem fj_ej {f : Env' → M D} (h : EJ X W e f) : FJ X W e (fE f) := pe_imp h fun σ H Q q => by
  obtain ⟨μ, S, ρ, he, hw, q⟩ := q
  exact ⟨μ, S, ρ, he, hw, q.bind.mono fun d μ1 S1 H1 s1 w1 h1 v a => Post.here h1 w1 v ⟨a, fun z => by cases z⟩⟩
theorem ej_fj {f : Env' → M (D × Bool)} (h : FJ X W e f) : EJ X W e (eF f) := pe_imp h fun σ H Q q => by
  obtain ⟨μ, S, ρ, he, hw, q⟩ := q
  exact ⟨μ, S, ρ, he, hw, q.bind.mono fun d μ1 S1 H1 s1 w1 h1 v a => Post.here h1 w1 v a.1⟩
def fLst (f : Env' → M (List D)) : Env' → M (D × Bool) := fun ρ => M.bind (f ρ) fun ds => if (ds.all nd && szOk ds.length) = true then M.ret (.list ds, true) else M.no
theorem fr_new {K : PySem.W.Frag} {μ : Mu} {S : Wd} {H B : Hp} {p : Addr} {vs : List V} {ds : List D} (w : WOk K μ S H) (hp : H p = none) (hB : B p = none) (h : DpAll K (Nh μ S.length H) vs ds) : RetOk K B μ S.length (upd H p (.lst vs)) (.ref p) (.list ds, true) := by
  refine ⟨at_new_list w hp h, fun _ => ⟨p, ds, vs, rfl, rfl, upd_same, hB, fun k hk => w.new hp hk, w.newH hp, ?_⟩⟩
  exact dpAll_mono (hide_new w hp _).1 _ _ h
theorem fj_lst {es : List Expr} {f : Env' → M (List D)} (h : AJ X W es f) : FJ X W (.List es pos) (fLst f) := by
  refine pe_imp (pe_lst h) fun σ H Q h => ?_
  obtain ⟨μ, S, ρ, he, hw, h⟩ := h
  refine ⟨μ, S, ρ, he, hw, h.bind.mono fun ds μ1 S1 H1 s1 w1 h1 vs a1 => ?_⟩
  split at h1
  · rename_i q
    obtain ⟨q1, q2⟩ := Bool.and_eq_true_iff.mp q
    exact ⟨by rw [paired_len a1]; exact szOk_le q2, fun p hp => Post.new h1 w1 hp _ _ (fr_new w1 hp (still s1 hw w1 hp) (dpAll_of a1 q1))⟩
  · exact h1.elim
end
/-! ### own defs -/
def spD (K : PySem.W.Frag) (mg : Str → Option Value) (n : Nat) (F : List D → M (D × Bool)) : Sp := fun vs H Q E => ∃ μ S ds, vs.length = n ∧ WOk K μ S H ∧ Paired (At K μ S.length (Nh μ S.length H)) vs ds ∧
  Post K mg E μ S H (F ds S) (fun r μ' S' H' => ∀ v, RetOk K H μ' S'.length H' v r → Q v H')
/-- a def of the text that has this meaning -/
def Cal (P : Program) (w : World) (K : PySem.W.Frag) (mg : Str → Option Value) (base : Heap) (x : Str) (n k : Nat) (F : List D → M (D × Bool)) : Prop :=
  ∃ f fd ps, ps.length = n ∧ FnOk P w K mg base (L2.CX P w) k f fd ps (spD K mg n F) ∧ mg x = some (.ref f) ∧ PySem.W.keepIn K (.ref f) = true ∧ Binds K fd ps []
def fFn (F : List D → M (D × Bool)) (n : Nat) (fa : Env' → M (List D)) : Env' → M (D × Bool) := fun ρ => M.bind (fa ρ) fun ds => if decide (ds.length = n) = true then F ds else M.no
section
variable {X : Cx} {W : WX} {e : Expr} {pos : Pos}
theorem fj_call {x : Str} {n j k : Nat} {F : List D → M (D × Bool)} {es : List Expr} {p : Pos} {fa : Env' → M (List D)} (c : Cal X.prog X.w X.K X.mg X.base x n j F) (hr : Room k X.A) (tk : Takes X W) (ha : AJ X W (e :: es) fa) (hk : j ≤ k := by decide) (hg : Gl X x := by rfl) (hdb : (x == ("__debug__" : Str)) = false := by decide)
    (he : starEach (e :: es) X.env = (false, eval e X.env) :: starEach es X.env := by rfl) (hpl : (backTo pos (starEach es X.env)).any (·.1) = false := by rfl) : FJ X W (.Call (.Name x p) (e :: es) [] pos) (fFn F n fa) := by
  obtain ⟨f, fd, ps, hn, Fk, hm, hkp, hb⟩ := c
  refine pe_imp (pe_callS Fk (hr.mono hk) hg hm hkp hb (fun σ => passAt tk σ) ha hdb he hpl) fun σ H Q h => ?_
  obtain ⟨μ, S, ρ, hE, hw, h⟩ := h
  refine ⟨μ, S, ρ, hE, hw, h.bind.mono fun ds μ1 S1 H1 s1 w1 h1 vs a1 => ?_⟩
  split at h1
  · rename_i q
    refine ⟨μ1, S1, ds, by rw [paired_len a1]; exact of_decide_eq_true q, w1, a1, h1.mono fun r μ2 S2 H2 s2 w2 h2 v a2 => h2 v (a2.back fun p hp => still s1 hw w1 hp)⟩
  · exact h1.elim
end
/-! ### statements -/
abbrev Ste := Env' × List Nat
inductive Fl where
  | nx
  | ret (d : D) (fr : Bool)
  | brk
  | cnt
  | exc (e : Ex)
structure SOk (K : PySem.W.Frag) (μ0 : Mu) (S0 : Wd) (H0 : Hp) (μ : Mu) (S : Wd) (τ : Ste) (σ : St) (H : Hp) : Prop where
  w0 : WOk K μ0 S0 H0
  w : WOk K μ S H
  st : Step μ0 S0.length H0 μ S.length H
  len : τ.1.length = σ.length
  own : ∃ op : Nat → Addr, (∀ i, i ∈ τ.2 → ∃ es vs, τ.1[i]? = some (some (.list es)) ∧ flatAll es = true ∧ σ[i]? = some (some (.ref (op i))) ∧ H (op i) = some (.lst vs) ∧ H0 (op i) = none ∧ (∀ k, k < S.length → μ.at_ k ≠ op i) ∧ op i ∉ μ.hid ∧ DpAll K (Nh μ S.length H) vs es) ∧
    (∀ i j, i ∈ τ.2 → j ∈ τ.2 → op i = op j → i = j) ∧
    ∀ i d, i ∉ τ.2 → τ.1[i]? = some (some d) → ∃ v, σ[i]? = some (some v) ∧ At K μ S.length (Nh (μ.with (τ.2.map op ++ μ.hid)) S.length H) v d
section
variable {K : PySem.W.Frag} {mg : Str → Option Value} {μ0 μ μ' : Mu} {S0 S S' : Wd} {H0 H H' : Hp} {τ : Ste} {σ : St}
theorem nh_sub {h : List Addr} {n : Nat} : Same (Nh (μ.with (h ++ μ.hid)) n H) (Nh μ n H) := nh_more (μ := μ) (h := μ.hid) fun a ha => List.mem_append_right _ ha
theorem SOk.env (h : SOk K μ0 S0 H0 μ S τ σ H) : EnvOk K μ S.length (Nh μ S.length H) τ.1 σ := by
  obtain ⟨op, h1, h2, h3⟩ := h.own
  refine ⟨h.len, fun i d e => ?_⟩
  by_cases hi : i ∈ τ.2
  · obtain ⟨es, vs, e1, fl, e2, e3, e4, e5, e6, e7⟩ := h1 i hi
    rw [e1] at e
    cases e
    exact ⟨_, e2, .inr (.lst (.inl (.inl (nh_some.mpr ⟨e3, e5, e6⟩))) e7)⟩
  · obtain ⟨v, e1, a⟩ := h3 i d hi e
    exact ⟨v, e1, a.mono (Nat.le_refl _) (fun _ _ => rfl) nh_sub⟩
theorem SOk.step (h : SOk K μ0 S0 H0 μ S τ σ H) (s : Step μ S.length H μ' S'.length H') (w' : WOk K μ' S' H') : SOk K μ0 S0 H0 μ' S' τ σ H' := by
  obtain ⟨op, h1, h2, h3⟩ := h.own
  refine ⟨h.w0, w', h.st.trans s, h.len, op, fun i hi => ?_, h2, fun i d hi e => ?_⟩
  · obtain ⟨es, vs, e1, fl, e2, e3, e4, e5, e6, e7⟩ := h1 i hi
    obtain ⟨f1, f2, f3⟩ := nh_some.mp (s.keep _ _ (nh_some.mpr ⟨e3, e5, e6⟩))
    exact ⟨es, vs, e1, fl, e2, f1, e4, f2, f3, dpAll_mono s.keep _ _ e7⟩
  · obtain ⟨v, e1, a⟩ := h3 i d hi e
    refine ⟨v, e1, a.mono s.le s.ag fun b u q => ?_⟩
    obtain ⟨q1, q2, q3⟩ := nh_some.mp q
    have q3' : b ∉ τ.2.map op ∧ b ∉ μ.hid := ⟨fun z => q3 (List.mem_append_left _ z), fun z => q3 (List.mem_append_right _ z)⟩
    obtain ⟨f1, f2, f3⟩ := nh_some.mp (s.keep _ _ (nh_some.mpr ⟨q1, q2, q3'.2⟩))
    exact nh_some.mpr ⟨f1, f2, fun z => (List.mem_append.mp z).elim q3'.1 f3⟩
/-- data that does not hang on lists -/
def stb (d : D) : Bool := flat d || (hOf d).isSome
def flatL : D → Bool
  | .list es => flatAll es
  | _ => false
/-- a name gets a value -/
def asg (i : Nat) (r : D × Bool) (τ : Ste) : Ste := (τ.1.set i (some r.1), if (r.2 && flatL r.1) = true then i :: τ.2.filter (· != i) else if stb r.1 = true then τ.2.filter (· != i) else [])
theorem mem_filt {i j : Nat} {l : List Nat} : j ∈ l.filter (· != i) ↔ j ∈ l ∧ j ≠ i := by
  rw [List.mem_filter]
  simp
theorem at_stb {Hn Hn' : Hp} {n : Nat} {v : V} {d : D} (h : At K μ n Hn v d) (f : stb d = true) (t : Tups Hn Hn') : At K μ n Hn' v d := by
  rcases h with h | h
  · exact .inl h
  · right
    unfold stb at f
    rcases Bool.or_eq_true_iff.mp f with f | f
    · exact dp_flat t _ _ f h
    · exfalso
      cases h <;> simp [hOf] at f
theorem SOk.set (h : SOk K μ0 S0 H0 μ S τ σ H) (s : Step μ S.length H μ' S'.length H') (w' : WOk K μ' S' H') {v : V} {r : D × Bool} (a : RetOk K H μ' S'.length H' v r) {i : Nat} (hi : i < τ.1.length) : SOk K μ0 S0 H0 μ' S' (asg i r τ) (σ.set i (some v)) H' := by
  have hiσ : i < σ.length := by rw [← h.len]; exact hi
  obtain ⟨op, h1, h2, h3⟩ := (h.step s w').own
  obtain ⟨op_, g1, g2, g3⟩ := h.own
  have st' := (h.step s w').st
  have lenq : (τ.1.set i (some r.1)).length = (σ.set i (some v)).length := by rw [List.length_set, List.length_set]; exact h.len
  -- what stands at another place
  have atE : ∀ j, j ≠ i → (τ.1.set i (some r.1))[j]? = τ.1[j]? := fun j hj => List.getElem?_set_ne (Ne.symm hj)
  have atS : ∀ j, j ≠ i → (σ.set i (some v))[j]? = σ[j]? := fun j hj => List.getElem?_set_ne (Ne.symm hj)
  have tupsB : ∀ l : List Nat, (∀ j, j ∈ l → j ∈ τ.2) → Tups (Nh μ' S'.length H') (Nh (μ'.with (l.map op ++ μ'.hid)) S'.length H') := fun l hl b xs q => by
    have out : ∀ u, Nh μ' S'.length H' b = some u → (∀ ws, u ≠ .lst ws) → Nh (μ'.with (l.map op ++ μ'.hid)) S'.length H' b = some u := fun u q hu => by
      obtain ⟨q1, q2, q3⟩ := nh_some.mp q
      refine nh_some.mpr ⟨q1, q2, fun z => ?_⟩
      rcases List.mem_append.mp z with z | z
      · obtain ⟨j, hj, rfl⟩ := List.mem_map.mp z
        obtain ⟨es, vs, _, _, _, e3, _⟩ := h1 j (hl j hj)
        rw [e3] at q1
        exact hu _ (Option.some.inj q1).symm
      · exact q3 z
    rcases q with q | ⟨o, q⟩
    · exact .inl (out _ q fun ws z => by cases z)
    · exact .inr ⟨o, out _ q fun ws z => by cases z⟩
  -- fewer owners: more is to be read
  have less : ∀ l : List Nat, (∀ j, j ∈ l → j ∈ τ.2) → Same (Nh (μ'.with (τ.2.map op ++ μ'.hid)) S'.length H') (Nh (μ'.with (l.map op ++ μ'.hid)) S'.length H') := fun l hl => nh_more (μ := μ') fun b hb => by
    rcases List.mem_append.mp hb with z | z
    · obtain ⟨j, hj, rfl⟩ := List.mem_map.mp z
      exact List.mem_append_left _ (List.mem_map.mpr ⟨j, hl j hj, rfl⟩)
    · exact List.mem_append_right _ z
  unfold asg
  by_cases c1 : (r.2 && flatL r.1) = true
  · rw [if_pos c1]
    obtain ⟨c2, c3⟩ := Bool.and_eq_true_iff.mp c1
    obtain ⟨p, es, vs, rfl, ed, e3, e4, e5, e6, e7⟩ := a.2 c2
    have hfl : flatAll es = true := by rw [ed] at c3; exact c3
    have hp0 : H0 p = none := still h.st h.w0 h.w e4
    have pne : ∀ j, j ∈ τ.2 → op j ≠ p := fun j hj z => by
      obtain ⟨es1, vs1, f1, _, f2, _⟩ := h1 j hj
      obtain ⟨es2, vs2, k1, _, k2, k3, _⟩ := g1 j hj
      have : op_ j = op j := by
        rw [k2] at f2
        exact V.ref.inj (Option.some.inj (Option.some.inj f2))
      rw [← this] at z
      rw [z, e4] at k3
      cases k3
    obtain ⟨opn, oi, oj⟩ : ∃ opn : Nat → Addr, opn i = p ∧ ∀ j, j ≠ i → opn j = op j := ⟨fun j => if j = i then p else op j, if_pos rfl, fun j hj => if_neg hj⟩
    have hmap : ∀ l : List Nat, i ∉ l → l.map opn = l.map op := fun l hl => List.map_congr_left fun j hj => oj j fun z => hl (by rw [← z]; exact hj)
    have hni : i ∉ τ.2.filter (· != i) := fun z => (mem_filt.mp z).2 rfl
    refine ⟨h.w0, w', st', lenq, opn, fun j hj => ?_, fun j l hj hl z => ?_, fun j d hj e => ?_⟩
    · rcases List.mem_cons.mp hj with z | hj
      · subst z
        rw [oi]
        refine ⟨es, vs, ?_, hfl, ?_, e3, hp0, e5, e6, ?_⟩
        · rw [List.getElem?_set_self hi, ed]
        · rw [List.getElem?_set_self hiσ]
        · exact dpAll_mono (nh_more (μ := μ') (h := μ'.hid) fun b hb => List.mem_cons_of_mem _ hb) _ _ e7
      · obtain ⟨hj1, hj2⟩ := mem_filt.mp hj
        rw [oj j hj2, atE j hj2, atS j hj2]
        exact h1 j hj1
    · have side : ∀ m, m ∈ i :: τ.2.filter (· != i) → m = i ∨ (m ∈ τ.2 ∧ m ≠ i) := fun m hm => (List.mem_cons.mp hm).imp id fun q => mem_filt.mp q
      rcases side j hj with y | ⟨j1, j2⟩
      · rcases side l hl with y2 | ⟨l1, l2⟩
        · rw [y, y2]
        · rw [y, oi, oj l l2] at z
          exact absurd z.symm (pne l l1)
      · rcases side l hl with y2 | ⟨l1, l2⟩
        · rw [y2, oi, oj j j2] at z
          exact absurd z (pne j j1)
        · rw [oj j j2, oj l l2] at z
          exact h2 j l j1 l1 z
    · have hj' : j ≠ i ∧ j ∉ τ.2 := by
        simp only [List.mem_cons, not_or] at hj
        exact ⟨hj.1, fun z => hj.2 (mem_filt.mpr ⟨z, hj.1⟩)⟩
      rw [atE j hj'.1] at e
      rw [atS j hj'.1]
      obtain ⟨u, u1, u2⟩ := h3 j d hj'.2 e
      refine ⟨u, u1, ?_⟩
      -- the new list was not there before
      obtain ⟨w1, k1, k2⟩ := g3 j d hj'.2 e
      have ew : w1 = u := Option.some.inj (Option.some.inj (k1.symm.trans u1))
      subst ew
      refine k2.mono s.le s.ag fun b o q => ?_
      obtain ⟨q1, q2, q3⟩ := nh_some.mp q
      have q3' : b ∉ τ.2.map op_ ∧ b ∉ μ.hid := ⟨fun z => q3 (List.mem_append_left _ z), fun z => q3 (List.mem_append_right _ z)⟩
      obtain ⟨f1, f2, f3⟩ := nh_some.mp (s.keep _ _ (nh_some.mpr ⟨q1, q2, q3'.2⟩))
      refine nh_some.mpr ⟨f1, f2, fun z => ?_⟩
      rcases List.mem_append.mp z with z | z
      · rw [List.map_cons, hmap _ hni, oi] at z
        rcases List.mem_cons.mp z with z | z
        · rw [z, e4] at q1; cases q1
        · obtain ⟨m, hm, rfl⟩ := List.mem_map.mp z
          obtain ⟨hm1, hm2⟩ := mem_filt.mp hm
          obtain ⟨es1, vs1, t1, _, t2, _⟩ := h1 m hm1
          obtain ⟨es2, vs2, y1, _, y2, _⟩ := g1 m hm1
          have : op_ m = op m := by
            rw [y2] at t2
            exact V.ref.inj (Option.some.inj (Option.some.inj t2))
          exact q3'.1 (List.mem_map.mpr ⟨m, hm1, this⟩)
      · exact f3 z
  · rw [if_neg c1]
    by_cases c2 : stb r.1 = true
    · rw [if_pos c2]
      have sub : ∀ j, j ∈ τ.2.filter (· != i) → j ∈ τ.2 := fun j hj => (mem_filt.mp hj).1
      refine ⟨h.w0, w', st', lenq, op, fun j hj => ?_, fun j l hj hl z => h2 j l (sub j hj) (sub l hl) z, fun j d hj e => ?_⟩
      · obtain ⟨hj1, hj2⟩ := mem_filt.mp hj
        rw [atE j hj2, atS j hj2]
        exact h1 j hj1
      · by_cases z : j = i
        · subst z
          rw [List.getElem?_set_self hi] at e
          cases e
          exact ⟨v, List.getElem?_set_self hiσ, at_stb a.1 c2 (tupsB _ sub)⟩
        · rw [atE j z] at e
          rw [atS j z]
          obtain ⟨u, u1, u2⟩ := h3 j d (fun q => hj (mem_filt.mpr ⟨q, z⟩)) e
          exact ⟨u, u1, u2.mono (Nat.le_refl _) (fun _ _ => rfl) (less _ sub)⟩
    · rw [if_neg c2]
      refine ⟨h.w0, w', st', lenq, op, fun j hj => (by cases hj), fun j l hj => (by cases hj), fun j d hj e => ?_⟩
      by_cases z : j = i
      · subst z
        rw [List.getElem?_set_self hi] at e
        cases e
        exact ⟨v, List.getElem?_set_self hiσ, a.1⟩
      · rw [atE j z] at e
        rw [atS j z]
        obtain ⟨u, u1, u2⟩ := (h.step s w').env.at_ j d e
        exact ⟨u, u1, u2⟩
end
end DL
end L2

set_option Elab.async false
set_option linter.all false
set_option maxRecDepth 100000
/-! statements' meanings -/
namespace L2
namespace DL
open PySem PySem.Spec PyProof.Rows
def SPost (K : PySem.W.Frag) (mg : Str → Option Value) (W : WX) (μ0 : Mu) (S0 : Wd) (H0 : Hp) (D : Ends) : R (Fl × Ste) → Prop
  | .ok (.nx, τ') S' => ∀ μ' σ' H', SOk K μ0 S0 H0 μ' S' τ' σ' H' → D.nx σ' H'
  | .ok (.brk, τ') S' => ∀ μ' σ' H', SOk K μ0 S0 H0 μ' S' τ' σ' H' → D.bk σ' H'
  | .ok (.cnt, τ') S' => ∀ μ' σ' H', SOk K μ0 S0 H0 μ' S' τ' σ' H' → D.ct σ' H'
  | .ok (.ret d fr, _) S' => ∀ μ' v H', Step μ0 S0.length H0 μ' S'.length H' → WOk K μ' S' H' → RetOk K H0 μ' S'.length H' v (d, fr) → D.rt v H'
  | .ok (.exc e, τ') S' => ∀ μ' σ' H', SOk K μ0 S0 H0 μ' S' τ' σ' H' → EOk K mg (fun c d H => W c d σ' H) e (Nh μ' S'.length H') H'
  | .ex _ _ => False
  | .no => False
def tS (K : PySem.W.Frag) (mg : Str → Option Value) (W : WX) (f : Ste → M (Fl × Ste)) : TS := fun D σ H => ∃ μ0 S0 H0 μ S τ, SOk K μ0 S0 H0 μ S τ σ H ∧ SPost K mg W μ0 S0 H0 D (f τ S)
def SJ (X : Cx) (W : WX) (st : Stmt) (f : Ste → M (Fl × Ste)) : Prop := PS X st (tS X.K X.mg W f)
def SsJ (X : Cx) (W : WX) (sts : List Stmt) (f : Ste → M (Fl × Ste)) : Prop := PSs X sts (tS X.K X.mg W f)
def lft {α : Type} (m : M α) (τ : Ste) (k : α → M (Fl × Ste)) : M (Fl × Ste) := fun s => match m s with
  | .ok a s' => k a s'
  | .ex e s' => .ok (.exc e, τ) s'
  | .no => .no
section
variable {K : PySem.W.Frag} {mg : Str → Option Value} {W : WX} {μ0 μ1 μ μ' : Mu} {S0 S1 S S' : Wd} {H0 H1 H H' : Hp} {τ : Ste} {σ : St} {D : Ends}
theorem SPost.lft {α : Type} {m : M α} {k : α → M (Fl × Ste)} (h : SPost K mg W μ0 S0 H0 D (DL.lft m τ k S)) (q : SOk K μ0 S0 H0 μ S τ σ H) :
    Post K mg (fun c d H' => W c d σ H') μ S H (m S) (fun a _ S1 _ => SPost K mg W μ0 S0 H0 D (k a S1)) := by
  unfold DL.lft at h
  cases e : m S with
  | ok a S' =>
    rw [e] at h
    exact fun μ' H' s' w => h
  | ex e' S' =>
    rw [e] at h
    exact fun μ' H' s' w => h μ' σ H' (q.step s' w)
  | no => rw [e] at h; exact h
/-- how one entry lies behind another -/
structure ZR (K : PySem.W.Frag) (μ0 : Mu) (S0 : Wd) (H0 : Hp) (μ1 : Mu) (S1 : Wd) (H1 : Hp) : Prop where
  w0 : WOk K μ0 S0 H0
  st : Step μ0 S0.length H0 μ1 S1.length H1
  no : ∀ p, H1 p = none → H0 p = none
theorem SOk.re (z : ZR K μ0 S0 H0 μ1 S1 H1) (h : SOk K μ1 S1 H1 μ S τ σ H) : SOk K μ0 S0 H0 μ S τ σ H := by
  obtain ⟨op, h1, h2, h3⟩ := h.own
  refine ⟨z.w0, h.w, z.st.trans h.st, h.len, op, fun i hi => ?_, h2, h3⟩
  obtain ⟨es, vs, e1, fl, e2, e3, e4, e5, e6, e7⟩ := h1 i hi
  exact ⟨es, vs, e1, fl, e2, e3, z.no _ e4, e5, e6, e7⟩
theorem SPost.re (z : ZR K μ0 S0 H0 μ1 S1 H1) {r : R (Fl × Ste)} (h : SPost K mg W μ0 S0 H0 D r) : SPost K mg W μ1 S1 H1 D r := by
  match r, h with
  | .ok (.nx, τ') S', h => exact fun μ' σ' H' q => h μ' σ' H' (q.re z)
  | .ok (.brk, τ') S', h => exact fun μ' σ' H' q => h μ' σ' H' (q.re z)
  | .ok (.cnt, τ') S', h => exact fun μ' σ' H' q => h μ' σ' H' (q.re z)
  | .ok (.ret d fr, _) S', h => exact fun μ' v H' s w q => h μ' v H' (z.st.trans s) w (q.back z.no)
  | .ok (.exc e, τ') S', h => exact fun μ' σ' H' q => h μ' σ' H' (q.re z)
  | .ex _ _, h => exact h.elim
  | .no, h => exact h.elim
/-- the same with what follows exchanged -/
theorem SPost.next {D' : Ends} {f : Ste → M (Fl × Ste)} {r : R (Fl × Ste)} (h : SPost K mg W μ0 S0 H0 D (r.thn fun p => match p.1 with
    | .nx => f p.2
    | fl => M.ret (fl, p.2))) (hn : ∀ μ' S' τ' σ' H', SOk K μ0 S0 H0 μ' S' τ' σ' H' → SPost K mg W μ0 S0 H0 D (f τ' S') → D'.nx σ' H') (e1 : D'.rt = D.rt) (e2 : D'.bk = D.bk) (e3 : D'.ct = D.ct) : SPost K mg W μ0 S0 H0 D' r := by
  match r, h with
  | .ok (.nx, τ') S', h => exact fun μ' σ' H' q => hn μ' S' τ' σ' H' q h
  | .ok (.brk, τ') S', h =>
    intro μ' σ' H' q
    rw [e2]
    exact h μ' σ' H' q
  | .ok (.cnt, τ') S', h =>
    intro μ' σ' H' q
    rw [e3]
    exact h μ' σ' H' q
  | .ok (.ret d fr, _) S', h =>
    intro μ' v H' s w q
    rw [e1]
    exact h μ' v H' s w q
  | .ok (.exc e, τ') S', h => exact fun μ' σ' H' q => h μ' σ' H' q
  | .ex _ _, h => exact h.elim
  | .no, h => exact h.elim
end
def sSeq (f g : Ste → M (Fl × Ste)) : Ste → M (Fl × Ste) := fun τ => M.bind (f τ) fun p => match p.1 with
  | .nx => g p.2
  | fl => M.ret (fl, p.2)
def sPass : Ste → M (Fl × Ste) := fun τ => M.ret (.nx, τ)
def sDrop (f : Env' → M D) : Ste → M (Fl × Ste) := fun τ => lft (f τ.1) τ fun _ => M.ret (.nx, τ)
def sRet (f : Env' → M (D × Bool)) : Ste → M (Fl × Ste) := fun τ => lft (f τ.1) τ fun r => M.ret (.ret r.1 r.2, τ)
def sRetV (i : Nat) : Ste → M (Fl × Ste) := fun τ => match τ.1[i]? with
  | some (some d) => M.ret (.ret d (τ.2.contains i), τ)
  | _ => M.no
def sRetN : Ste → M (Fl × Ste) := fun τ => M.ret (.ret .none false, τ)
def sSet (i : Nat) (f : Env' → M (D × Bool)) : Ste → M (Fl × Ste) := fun τ => lft (f τ.1) τ fun r => if decide (i < τ.1.length) = true then M.ret (.nx, asg i r τ) else M.no
def sIf (c : Env' → M Bool) (f g : Ste → M (Fl × Ste)) : Ste → M (Fl × Ste) := fun τ => lft (c τ.1) τ fun b => if b = true then f τ else g τ
section
variable {X : Cx} {W : WX} {st : Stmt} {sts rest : List Stmt} {f g : Ste → M (Fl × Ste)} {e : Expr} {pos : Pos}
theorem ps_imp {t t' : TS} (h : PS X st t) (k : ∀ D σ H, t' D σ H → t D σ H) : PS X st t' := ⟨fun pins s σ H D I q => h.run pins s σ H D I (k D σ H q)⟩
theorem pss_imp {t t' : TS} (h : PSs X sts t) (k : ∀ D σ H, t' D σ H → t D σ H) : PSs X sts t' := ⟨fun pins s σ H D I q => h.run pins s σ H D I (k D σ H q)⟩
theorem ss_nil : SsJ X W [] sPass := pss_imp pss_nil fun D σ H h => by
  obtain ⟨μ0, S0, H0, μ, S, τ, hs, h⟩ := h
  exact h μ σ H hs
theorem ss_cons (h1 : SJ X W st f) (h2 : SsJ X W rest g) : SsJ X W (st :: rest) (sSeq f g) := pss_imp (pss_cons h1 h2) fun D σ H h => by
  obtain ⟨μ0, S0, H0, μ, S, τ, hs, h⟩ := h
  refine ⟨μ0, S0, H0, μ, S, τ, hs, SPost.next (D := D) (f := g) h (fun μ' S' τ' σ' H' q h' => ⟨μ0, S0, H0, μ', S', τ', q, h'⟩) rfl rfl rfl⟩
theorem ss_one (h1 : SJ X W st f) : SsJ X W [st] f := pss_one h1
theorem sj_pass : SJ X W (.Pass pos) sPass := ps_imp ps_pass fun D σ H h => by
  obtain ⟨μ0, S0, H0, μ, S, τ, hs, h⟩ := h
  exact h μ σ H hs
theorem sj_expr {fe : Env' → M D} (h : EJ X W e fe) (hs : swapsWith e none pos.line X.env = pure false := by rfl) : SJ X W (.Expr e pos) (sDrop fe) := ps_imp (ps_expr h hs) fun D σ H h => by
  obtain ⟨μ0, S0, H0, μ, S, τ, hs, h⟩ := h
  exact ⟨μ, S, τ.1, hs.env, hs.w, (h.lft hs).mono fun d μ1 S1 H1 s1 w1 h1 v a => h1 μ1 σ H1 (hs.step s1 w1)⟩
theorem sj_ret {fe : Env' → M (D × Bool)} (h : FJ X W e fe) : SJ X W (.Return (some e) pos) (sRet fe) := ps_imp (ps_ret h) fun D σ H h => by
  obtain ⟨μ0, S0, H0, μ, S, τ, hs, h⟩ := h
  exact ⟨μ, S, τ.1, hs.env, hs.w, (h.lft hs).mono fun r μ1 S1 H1 s1 w1 h1 v a => h1 μ1 v H1 (hs.st.trans s1) w1 (a.back fun p hp => still hs.st hs.w0 hs.w hp)⟩
theorem sj_retN : SJ X W (.Return none pos) sRetN := ps_imp ps_retN fun D σ H h => by
  obtain ⟨μ0, S0, H0, μ, S, τ, hs, h⟩ := h
  exact h μ .non H hs.st hs.w ⟨.inr .non, fun z => by cases z⟩
theorem sj_retV (i : Nat) {x : Str} {pos' : Pos} (hN : X.N[i]? = some x := by rfl) (hv : Vis X.env.scope x := by first | exact Or.inl rfl | exact Or.inr (Or.inl rfl) | exact Or.inr (Or.inr rfl)) (hd : (x == ("__debug__" : Str)) = false := by decide)
    (hcd : (x == ("__classdict__" : Str)) = false := by decide) : SJ X W (.Return (some (.Name x pos')) pos) (sRetV i) := ps_imp (ps_ret (pe_var hN hv hd hcd)) fun D σ H h => by
  obtain ⟨μ0, S0, H0, μ, S, τ, hs, h⟩ := h
  unfold sRetV at h
  match q : τ.1[i]? with
  | some (some d) =>
    rw [q] at h
    obtain ⟨v, e1, a⟩ := hs.env.at_ i d q
    refine ⟨v, e1, h μ v H hs.st hs.w ⟨a, fun z => ?_⟩⟩
    have hi : i ∈ τ.2 := by simpa using z
    obtain ⟨op, h1, _⟩ := hs.own
    obtain ⟨es, vs, k1, fl, k2, k3, k4, k5, k6, k7⟩ := h1 i hi
    rw [q] at k1
    cases k1
    rw [e1] at k2
    cases k2
    refine ⟨op i, es, vs, rfl, rfl, k3, k4, k5, k6, dpAll_flat (fun b xs t => ?_) _ _ fl k7⟩
    have out : ∀ u, Nh μ S.length H b = some u → (∀ ws, u ≠ .lst ws) → Nh (μ.with (op i :: μ.hid)) S.length H b = some u := fun u t hu => by
      obtain ⟨t1, t2, t3⟩ := nh_some.mp t
      refine nh_some.mpr ⟨t1, t2, fun z => ?_⟩
      rcases List.mem_cons.mp z with z | z
      · rw [z, k3] at t1
        exact hu _ (Option.some.inj t1).symm
      · exact t3 z
    rcases t with t | ⟨o, t⟩
    · exact .inl (out _ t fun ws z => by cases z)
    · exact .inr ⟨o, out _ t fun ws z => by cases z⟩
  | some none => rw [q] at h; exact h.elim
  | none => rw [q] at h; exact h.elim
theorem sj_set {i : Nat} {x : Str} {pos' : Pos} {fe : Env' → M (D × Bool)} (hN : X.N.Nodup) (h : FJ X W e fe) (hi : X.N[i]? = some x := by rfl) (hx : Loc X.env.scope x := by first | exact .inl rfl | exact .inr rfl) (hs : swapsWith e (some (.Name x pos')) pos.line X.env = pure false := by rfl)
    (hf : X.fn x = true ∨ X.env.scope.names.lookup x = some .local := by first | exact .inl rfl | exact .inr rfl) : SJ X W (.Assign [.Name x pos'] e pos) (sSet i fe) := ps_imp (ps_set hN hi hx h hs hf) fun D σ H h => by
  obtain ⟨μ0, S0, H0, μ, S, τ, hs, h⟩ := h
  refine ⟨μ, S, τ.1, hs.env, hs.w, (h.lft hs).mono fun r μ1 S1 H1 s1 w1 h1 v a => ?_⟩
  split at h1
  · rename_i q
    exact h1 μ1 _ H1 (hs.set s1 w1 a (of_decide_eq_true q))
  · exact h1.elim
theorem sj_if {c : Expr} {a b : List Stmt} {fc : Env' → M Bool} (hc : BJ X W c fc) (ha : SsJ X W a f) (hb : SsJ X W b g) : SJ X W (.If c a b pos) (sIf fc f g) := ps_imp (ps_if hc ha hb) fun D σ H h => by
  obtain ⟨μ0, S0, H0, μ, S, τ, hs, h⟩ := h
  refine ⟨μ, S, τ.1, hs.env, hs.w, (h.lft hs).mono fun k μ1 S1 H1 s1 w1 h1 => ?_⟩
  cases k with
  | true => exact ⟨μ0, S0, H0, μ1, S1, τ, hs.step s1 w1, h1⟩
  | false => exact ⟨μ0, S0, H0, μ1, S1, τ, hs.step s1 w1, h1⟩
/-- name = [.. for ..], on one line -/
theorem sj_setLc {i : Nat} {y : Str} {py : Pos} {elt tg iter : Expr} {ifs : List Expr} {scope : Scope} {own : List (Str × Nat)} {spos : Pos} {fi : Env' → M (List D)} {gt : D → Env' → Option Env'} {is : List Nat} {ft : Env' → M Bool} {fe : Env' → M D} (hc : X.calm = true) (hN : X.N.Nodup) (hi : IJ X W tg iter fi) (ok : BlkOk X.N X.env.scope scope own)
    (hg : ∀ (s : Shared) (H : Hp) (C : Addr) (cl : List (Str × Addr)) (fp : List Addr), TJ (X.blk s H scope (compEnvC scope cl C X.env) fp) tg gt is) (ht : ∀ (s : Shared) (H : Hp) (C : Addr) (cl : List (Str × Addr)) (fp : List Addr), TsJ (X.blk s H scope (compEnvC scope cl C X.env) fp) W0 ifs ft)
    (he : ∀ (s : Shared) (H : Hp) (C : Addr) (cl : List (Str × Addr)) (fp : List Addr), EJ (X.blk s H scope (compEnvC scope cl C X.env) fp) W0 elt fe) (hy : X.N[i]? = some y := by rfl) (hyl : X.env.scope.names.lookup y = some .local := by rfl) (hsw : swapsWith (.ListComp elt [⟨tg, iter, ifs, 0⟩] scope pos) (some (.Name y py)) spos.line X.env = pure true := by exact sw_true rfl rfl rfl (by decide +kernel)) (hv : ∀ j, j ∈ is → j ∈ own.map (·.2) := by decide) (hs : ∀ x, foldedSetIterable iter X.env x = pure x := by intro _; rfl) :
    SJ X W (.Assign [.Name y py] (.ListComp elt [⟨tg, iter, ifs, 0⟩] scope pos) spos) (sSet i (fE (xLc fi gt (own.map (·.2)) ft fe))) := by
  refine ps_imp (ps_setLc (g := tG X.K gt is) (tt := tB X.K X.mg W0 ft) (te := tE X.K X.mg W0 fe) hc hN hy hyl hsw hi ok hg ht he hs) fun D σ H h => ?_
  obtain ⟨μ0, S0, H0, μ, S, τ, hs, h⟩ := h
  refine lc_read hv ⟨μ, S, τ.1, hs.env, hs.w, ?_⟩
  have h2 := (h.lft hs).bind
  refine h2.mono fun d μ1 S1 H1 s1 w1 h1 v a => ?_
  have h1 := Post.here h1 w1
  split at h1
  · rename_i q
    exact h1 μ1 _ H1 (hs.set s1 w1 ⟨a, fun z => by cases z⟩ (of_decide_eq_true q))
  · exact h1.elim
end
/-! ### targets, at statements -/
structure TgOk (gt : D → Env' → Option Env') (is : List Nat) : Prop where
  len : ∀ d ρ ρ', gt d ρ = some ρ' → ρ'.length = ρ.length
  out : ∀ d ρ ρ', gt d ρ = some ρ' → ∀ j, j ∉ is → ρ'[j]? = ρ[j]?
  flt : ∀ d ρ ρ', gt d ρ = some ρ' → stb d = true → ∀ j, j ∈ is → ∀ e, ρ'[j]? = some (some e) → stb e = true
theorem tgOk_name (i : Nat) : TgOk (gN i) [i] := by
  refine ⟨fun d ρ ρ' h => ?_, fun d ρ ρ' h j hj => ?_, fun d ρ ρ' h f j hj e q => ?_⟩
  · cases h; exact List.length_set
  · cases h; exact List.getElem?_set_ne fun z => hj (by simp [z])
  · cases h
    have z : j = i := by simpa using hj
    subst z
    rw [List.getElem?_set] at q
    split at q
    · split at q
      · cases q; exact f
      · cases q
    · exact absurd rfl ‹_›
theorem tgOk_two (i j : Nat) : TgOk (gN2 i j) [i, j] := by
  refine ⟨fun d ρ ρ' h => ?_, fun d ρ ρ' h l hl => ?_, fun d ρ ρ' h f l hl e q => ?_⟩
  · unfold gN2 at h
    split at h
    · cases h; rw [List.length_set, List.length_set]
    · cases h
  · unfold gN2 at h
    split at h
    · cases h
      rw [List.getElem?_set_ne fun z => hl (by simp [z]), List.getElem?_set_ne fun z => hl (by simp [z])]
    · cases h
  · unfold gN2 at h
    split at h
    · rename_i x y
      cases h
      have fx : flat x = true ∧ flat y = true := by
        unfold stb at f
        simpa [flat, flatAll, hOf] using f
      have sx : stb x = true := by unfold stb; rw [fx.1]; rfl
      have sy : stb y = true := by unfold stb; rw [fx.2]; rfl
      rw [List.getElem?_set] at q
      split at q
      · split at q
        · cases q; exact sy
        · cases q
      · rw [List.getElem?_set] at q
        split at q
        · split at q
          · cases q; exact sx
          · cases q
        · rename_i n1 n2
          exfalso
          have : l = i ∨ l = j := by simpa using hl
          rcases this with z | z
          · exact n2 z.symm
          · exact n1 z.symm
    · cases h
def asgT (gt : D → Env' → Option Env') (is : List Nat) (d : D) (τ : Ste) : Option Ste := (gt d τ.1).map fun ρ' => (ρ', if stb d = true then τ.2.filter (fun j => !is.contains j) else [])
section
variable {K : PySem.W.Frag} {μ0 μ : Mu} {S0 S : Wd} {H0 H : Hp} {τ τ' : Ste} {σ σ' : St}
theorem SOk.setT {gt : D → Env' → Option Env'} {is : List Nat} (tg : TgOk gt is) (h : SOk K μ0 S0 H0 μ S τ σ H) {d : D} (e : asgT gt is d τ = some τ') (he : EnvOk K μ S.length (Nh μ S.length H) τ'.1 σ') (hs : ∀ j, j ∉ is → σ'[j]? = σ[j]?) : SOk K μ0 S0 H0 μ S τ' σ' H := by
  obtain ⟨op, h1, h2, h3⟩ := h.own
  unfold asgT at e
  obtain ⟨ρ', hg, rfl⟩ := Option.map_eq_some_iff.mp e
  by_cases c : stb d = true
  · simp only [if_pos c] at he ⊢
    have mm : ∀ j, j ∈ τ.2.filter (fun j => !is.contains j) ↔ j ∈ τ.2 ∧ j ∉ is := fun j => by rw [List.mem_filter]; simp
    refine ⟨h.w0, h.w, h.st, he.len, op, fun j hj => ?_, fun j l hj hl z => h2 j l ((mm j).mp hj).1 ((mm l).mp hl).1 z, fun j x hj q => ?_⟩
    · obtain ⟨j1, j2⟩ := (mm j).mp hj
      rw [tg.out d τ.1 ρ' hg j j2, hs j j2]
      exact h1 j j1
    · have less : Same (Nh (μ.with (τ.2.map op ++ μ.hid)) S.length H) (Nh (μ.with ((τ.2.filter (fun j => !is.contains j)).map op ++ μ.hid)) S.length H) := nh_more (μ := μ) fun b hb => by
        rcases List.mem_append.mp hb with z | z
        · obtain ⟨m, hm, rfl⟩ := List.mem_map.mp z
          exact List.mem_append_left _ (List.mem_map.mpr ⟨m, ((mm m).mp hm).1, rfl⟩)
        · exact List.mem_append_right _ z
      by_cases ji : j ∈ is
      · obtain ⟨v, v1, v2⟩ := he.at_ j x q
        refine ⟨v, v1, at_stb v2 (tg.flt d τ.1 ρ' hg c j ji x q) fun b xs t => ?_⟩
        have out : ∀ u, Nh μ S.length H b = some u → (∀ ws, u ≠ .lst ws) → Nh (μ.with ((τ.2.filter (fun j => !is.contains j)).map op ++ μ.hid)) S.length H b = some u := fun u t hu => by
          obtain ⟨t1, t2, t3⟩ := nh_some.mp t
          refine nh_some.mpr ⟨t1, t2, fun z => ?_⟩
          rcases List.mem_append.mp z with z | z
          · obtain ⟨m, hm, rfl⟩ := List.mem_map.mp z
            obtain ⟨es, vs, _, _, _, e3, _⟩ := h1 m ((mm m).mp hm).1
            rw [e3] at t1
            exact hu _ (Option.some.inj t1).symm
          · exact t3 z
        rcases t with t | ⟨o, t⟩
        · exact .inl (out _ t fun ws z => by cases z)
        · exact .inr ⟨o, out _ t fun ws z => by cases z⟩
      · rw [tg.out d τ.1 ρ' hg j ji] at q
        rw [hs j ji]
        obtain ⟨v, v1, v2⟩ := h3 j x (fun z => hj ((mm j).mpr ⟨z, ji⟩)) q
        exact ⟨v, v1, v2.mono (Nat.le_refl _) (fun _ _ => rfl) less⟩
  · simp only [if_neg c] at he ⊢
    exact ⟨h.w0, h.w, h.st, he.len, op, fun j hj => (by cases hj), fun j l hj => (by cases hj), fun j x hj q => he.at_ j x q⟩
/-- the owned lists are lent for good -/
theorem SOk.drop (h : SOk K μ0 S0 H0 μ S τ σ H) : SOk K μ0 S0 H0 μ S (τ.1, []) σ H :=
  ⟨h.w0, h.w, h.st, h.len, fun _ => 0, fun j hj => (by cases hj), fun j l hj => (by cases hj), fun j x hj q => h.env.at_ j x q⟩
end
def sAsg (f : Env' → M D) (gt : D → Env' → Option Env') (is : List Nat) : Ste → M (Fl × Ste) := fun τ => lft (f τ.1) τ fun d => match asgT gt is d τ with
  | some τ' => M.ret (.nx, τ')
  | none => M.no
section
variable {X : Cx} {W : WX} {e tg : Expr} {pos : Pos}
theorem sj_asg {fe : Env' → M D} {gt : D → Env' → Option Env'} {is : List Nat} (h : EJ X W e fe) (hg : TJ X tg gt is) (ht : TgOk gt is) (hs : swapsWithSole [tg] e pos.line X.env = pure false := by rfl) (hw : swappedStores [tg] e X.env = pure none := by rfl)
    (h1 : (assignEach [tg] X.env).map (·.2) = [assign tg X.env] := by rfl) : SJ X W (.Assign [tg] e pos) (sAsg fe gt is) := ps_imp (ps_asg h hg hs hw h1) fun D σ H h => by
  obtain ⟨μ0, S0, H0, μ, S, τ, hs, h⟩ := h
  refine ⟨μ, S, τ.1, hs.env, hs.w, (h.lft hs).mono fun d μ1 S1 H1 s1 w1 h1 v a => ?_⟩
  cases q : asgT gt is d τ with
  | none => rw [q] at h1; exact h1.elim
  | some τ' =>
    rw [q] at h1
    have q' := q
    unfold asgT at q'
    obtain ⟨ρ', hg', rfl⟩ := Option.map_eq_some_iff.mp q'
    exact ⟨μ1, S1.length, τ.1, d, ρ', hs.env.step s1, a, hg', fun σ' he hl hsame => h1 μ1 σ' H1 ((hs.step s1 w1).setT ht q he hsame)⟩
end
end DL
end L2

set_option Elab.async false
set_option linter.all false
set_option maxRecDepth 100000
/-! loops, lists that grow, shared lists, defs -/
namespace L2
namespace DL
open PySem PySem.Spec PyProof.Rows
def sLoop (gt : D → Env' → Option Env') (is : List Nat) (body : Ste → M (Fl × Ste)) : List D → Ste → M (Fl × Ste)
  | [], τ => M.ret (.nx, τ)
  | d :: ds, τ => match asgT gt is d τ with
    | none => M.no
    | some τ1 => M.bind (body τ1) fun p => match p.1 with
      | .nx => sLoop gt is body ds p.2
      | .cnt => sLoop gt is body ds p.2
      | .brk => M.ret (.nx, p.2)
      | .ret d fr => M.ret (.ret d fr, p.2)
      | .exc e => M.ret (.exc e, p.2)
def sFor (f : Env' → M (D × Bool)) (gt : D → Env' → Option Env') (is : List Nat) (body : Ste → M (Fl × Ste)) : Ste → M (Fl × Ste) := fun τ => lft (f τ.1) τ fun r => match itD r.1 with
  | none => M.no
  | some ds => sLoop gt is body ds (τ.1, if ((r.2 && flatL r.1) || stb r.1) = true then τ.2 else [])
def sForI (f : Env' → M (List D)) (gt : D → Env' → Option Env') (is : List Nat) (body : Ste → M (Fl × Ste)) : Ste → M (Fl × Ste) := fun τ => lft (f τ.1) τ fun ds => sLoop gt is body ds (τ.1, [])
section
variable {K : PySem.W.Frag} {mg : Str → Option Value} {W : WX} {μ0 μ1 μ μ' : Mu} {S0 S1 S S' : Wd} {H0 H1 H H' : Hp} {τ : Ste} {σ : St} {Dn : Ends}
/-- the heap without the owned lists -/
noncomputable def cutO (H : Hp) (l : List Addr) : Hp := fun a => if l.contains a = true then none else H a
theorem cut_some {l : List Addr} {a : Addr} {o : HO} : cutO H l a = some o ↔ H a = some o ∧ a ∉ l := by
  unfold cutO
  by_cases h : l.contains a = true
  · rw [if_pos h]
    have : a ∈ l := by simpa using h
    exact ⟨fun q => (by cases q), fun q => absurd this q.2⟩
  · rw [if_neg h]
    have : a ∉ l := by simpa using h
    exact ⟨fun q => ⟨q, this⟩, fun q => q.1⟩
theorem cut_out {l : List Addr} {a : Addr} (h : a ∉ l) : cutO H l a = H a := by
  unfold cutO
  rw [if_neg]
  simpa using h
theorem cut_in {l : List Addr} {a : Addr} (h : a ∈ l) : cutO H l a = none := by
  unfold cutO
  rw [if_pos]
  simpa using h
/-- a new entry, at which the owned lists do not stand yet -/
theorem SOk.entry (h : SOk K μ0 S0 H0 μ S τ σ H) : ∃ l : List Addr, (∀ a, a ∈ l → ∃ vs, H a = some (.lst vs)) ∧ (∀ a, a ∈ l → ∃ i, i ∈ τ.2 ∧ σ[i]? = some (some (.ref a))) ∧ (∀ a, a ∈ l → H0 a = none) ∧ ZR K μ0 S0 H0 μ S (cutO H l) ∧ SOk K μ S (cutO H l) μ S τ σ H ∧ (τ.2 = [] → l = []) := by
  obtain ⟨op, h1, h2, h3⟩ := h.own
  have hl : ∀ a, a ∈ τ.2.map op → ∃ i es vs, i ∈ τ.2 ∧ op i = a ∧ τ.1[i]? = some (some (.list es)) ∧ flatAll es = true ∧ σ[i]? = some (some (.ref a)) ∧ H a = some (.lst vs) ∧ H0 a = none ∧ (∀ k, k < S.length → μ.at_ k ≠ a) ∧ a ∉ μ.hid ∧ DpAll K (Nh μ S.length H) vs es := fun a ha => by
    obtain ⟨i, hi, rfl⟩ := List.mem_map.mp ha
    obtain ⟨es, vs, e1, fl, e2, e3, e4, e5, e6, e7⟩ := h1 i hi
    exact ⟨i, es, vs, hi, rfl, e1, fl, e2, e3, e4, e5, e6, e7⟩
  have tups : Tups (Nh μ S.length H) (Nh μ S.length (cutO H (τ.2.map op))) := fun b xs q => by
    have out : ∀ u, Nh μ S.length H b = some u → (∀ ws, u ≠ .lst ws) → Nh μ S.length (cutO H (τ.2.map op)) b = some u := fun u q hu => by
      obtain ⟨q1, q2, q3⟩ := nh_some.mp q
      refine nh_some.mpr ⟨cut_some.mpr ⟨q1, fun z => ?_⟩, q2, q3⟩
      obtain ⟨i, es, vs, _, _, _, _, _, e3, _⟩ := hl b z
      rw [e3] at q1
      exact hu _ (Option.some.inj q1).symm
    rcases q with q | ⟨o, q⟩
    · exact .inl (out _ q fun ws z => by cases z)
    · exact .inr ⟨o, out _ q fun ws z => by cases z⟩
  have wc : WOk K μ S (cutO H (τ.2.map op)) := by
    refine ⟨h.w.inj, fun k ob q => ?_, fun a ha => ?_, h.w.hn⟩
    · have hk : k < S.length := (List.getElem?_eq_some_iff.mp q).1
      have nk : μ.at_ k ∉ τ.2.map op := fun z => by
        obtain ⟨i, es, vs, _, _, _, _, _, _, _, e5, _⟩ := hl _ z
        exact e5 k hk rfl
      have := h.w.ob k ob q
      cases ob with
      | lst ds =>
        obtain ⟨hf, vs, q1, q2⟩ := this
        exact ⟨hf, vs, by rw [cut_out nk]; exact q1, dpAll_flat tups _ _ hf q2⟩
    · rw [cut_out fun z => ?_]
      · exact h.w.ht a ha
      · obtain ⟨i, es, vs, _, _, _, _, _, _, _, _, e6, _⟩ := hl _ z
        exact e6 ha
  have stc : Step μ S.length (cutO H (τ.2.map op)) μ S.length H := ⟨Nat.le_refl _, fun _ _ => rfl, rfl, fun a ha => by
      rw [cut_out fun z => ?_]
      obtain ⟨i, es, vs, _, _, _, _, _, _, _, _, e6, _⟩ := hl _ z
      exact e6 ha, fun a u q => by
      obtain ⟨q1, q2, q3⟩ := nh_some.mp q
      exact nh_some.mpr ⟨(cut_some.mp q1).1, q2, q3⟩⟩
  refine ⟨τ.2.map op, fun a ha => ?_, fun a ha => ?_, fun a ha => ?_, ⟨h.w0, ?_, fun p hp => ?_⟩, ⟨wc, h.w, stc, h.len, op, fun i hi => ?_, h2, h3⟩, fun z => by rw [z]; rfl⟩
  · obtain ⟨i, es, vs, _, _, _, _, _, e3, _⟩ := hl a ha
    exact ⟨vs, e3⟩
  · obtain ⟨i, es, vs, hi, _, _, _, e2, _⟩ := hl a ha
    exact ⟨i, hi, e2⟩
  · obtain ⟨i, es, vs, _, _, _, _, _, _, e4, _⟩ := hl a ha
    exact e4
  · refine ⟨h.st.le, h.st.ag, h.st.hd, fun a ha => ?_, fun a u q => ?_⟩
    · rw [cut_out fun z => ?_]
      · exact h.st.hk a ha
      · obtain ⟨i, es, vs, _, _, _, _, _, _, _, _, e6, _⟩ := hl _ z
        exact e6 (by rw [h.st.hd]; exact ha)
    · obtain ⟨q1, q2, q3⟩ := nh_some.mp (h.st.keep a u q)
      refine nh_some.mpr ⟨cut_some.mpr ⟨q1, fun z => ?_⟩, q2, q3⟩
      obtain ⟨i, es, vs, _, _, _, _, _, _, e4, _⟩ := hl _ z
      rw [(nh_some.mp q).1] at e4; cases e4
  · by_cases hm : p ∈ τ.2.map op
    · obtain ⟨i, es, vs, _, _, _, _, _, _, e4, _⟩ := hl _ hm
      exact e4
    · rw [cut_out hm] at hp
      exact still h.st h.w0 h.w hp
  · obtain ⟨es, vs, e1, fl, e2, e3, e4, e5, e6, e7⟩ := h1 i hi
    exact ⟨es, vs, e1, fl, e2, e3, cut_in (List.mem_map.mpr ⟨i, hi, rfl⟩), e5, e6, e7⟩
/-- a for by its loop: J walks ds over whatever keeps Hb -/
theorem for_read {gt : D → Env' → Option Env'} {is : List Nat} {body : Ste → M (Fl × Ste)} {J : It} {ds : List D} {Hb : Hp} (tg : TgOk gt is) (hJ : IterOk K Hb J ds) (hs : SOk K μ0 S0 H0 μ S τ σ H) (hb : ∀ μ' S' τ' σ' H', SOk K μ0 S0 H0 μ' S' τ' σ' H' → Same Hb (Nh μ' S'.length H'))
    (h : SPost K mg W μ0 S0 H0 Dn (sLoop gt is body ds τ S)) : ∃ V : Nat → Nat → St → Hp → Prop, (∃ m, V 0 m σ H) ∧ ∀ i m σ H, V i m σ H →
      (J.stop i H ∧ Dn.nx σ H) ∨ (J.go i H ∧ ∃ N : St → Hp → Prop, (∀ σ' H', N σ' H' → ∃ m', m' < m ∧ V (i + 1) m' σ' H') ∧ ∀ x H', J.yld i H x H' → tG K gt is x σ H' fun σ2 H2 => tS K mg W body { Dn with nx := N, ct := N, bk := Dn.nx } σ2 H2) := by
  refine ⟨fun i m σ H => m = ds.length - i ∧ i ≤ ds.length ∧ ∃ μ' S' τ', SOk K μ0 S0 H0 μ' S' τ' σ H ∧ SPost K mg W μ0 S0 H0 Dn (sLoop gt is body (ds.drop i) τ' S'), ⟨ds.length, by omega, Nat.zero_le _, μ, S, τ, hs, h⟩, ?_⟩
  rintro i m σ2 H2 ⟨rfl, hle, μ', S', τ', hs2, h2⟩
  have sm := hb μ' S' τ' σ2 H2 hs2
  by_cases hlt : i < ds.length
  · refine .inr ⟨hJ.goes i H2 hlt (sm.trans nh_same), fun σ3 H3 => i + 1 ≤ ds.length ∧ ∃ μ' S' τ', SOk K μ0 S0 H0 μ' S' τ' σ3 H3 ∧ SPost K mg W μ0 S0 H0 Dn (sLoop gt is body (ds.drop (i + 1)) τ' S'), fun σ3 H3 q => ⟨ds.length - (i + 1), by omega, rfl, q.1, q.2⟩, fun x H3 hy => ?_⟩
    obtain ⟨d, hd, y⟩ := hJ.yields i H2 x H3 hlt (sm.trans nh_same) hy
    obtain ⟨s3, w3, a3⟩ := y.to hs2.w sm
    have hdrop : ds.drop i = d :: ds.drop (i + 1) := by
      rw [List.drop_eq_getElem_cons hlt]
      congr 1
      exact Option.some.inj ((List.getElem?_eq_getElem hlt).symm.trans hd)
    rw [hdrop] at h2
    unfold sLoop at h2
    cases q : asgT gt is d τ' with
    | none => rw [q] at h2; exact h2.elim
    | some τ1 =>
      rw [q] at h2
      have q' := q
      unfold asgT at q'
      obtain ⟨ρ', hg', e'⟩ := Option.map_eq_some_iff.mp q'
      have hs3 := hs2.step s3 w3
      refine ⟨μ', S'.length, τ'.1, d, ρ', hs3.env, a3, hg', fun σ3 he hl hsame => ?_⟩
      have e1 : τ1.1 = ρ' := by rw [← e']
      have hs4 : SOk K μ0 S0 H0 μ' S' τ1 σ3 H3 := hs3.setT tg q (by rw [e1]; exact he) hsame
      refine ⟨μ0, S0, H0, μ', S', τ1, hs4, ?_⟩
      have h3 : SPost K mg W μ0 S0 H0 Dn ((body τ1 S').thn fun p => match p.1 with
        | .nx => sLoop gt is body (ds.drop (i + 1)) p.2
        | .cnt => sLoop gt is body (ds.drop (i + 1)) p.2
        | .brk => M.ret (.nx, p.2)
        | .ret d fr => M.ret (.ret d fr, p.2)
        | .exc e => M.ret (.exc e, p.2)) := h2
      match r : body τ1 S', h3 with
      | .ok (.nx, τ2) S2, h3 => exact fun μ2 σ2 H2 q2 => ⟨hlt, μ2, S2, τ2, q2, h3⟩
      | .ok (.cnt, τ2) S2, h3 => exact fun μ2 σ2 H2 q2 => ⟨hlt, μ2, S2, τ2, q2, h3⟩
      | .ok (.brk, τ2) S2, h3 => exact fun μ2 σ2 H2 q2 => h3 μ2 σ2 H2 q2
      | .ok (.ret d fr, τ2) S2, h3 => exact h3
      | .ok (.exc e, τ2) S2, h3 => exact h3
      | .ex _ _, h3 => exact h3.elim
      | .no, h3 => exact h3.elim
  · have e : i = ds.length := by omega
    subst e
    rw [List.drop_length] at h2
    exact .inl ⟨hJ.stops H2 (sm.trans nh_same), h2 μ' σ2 H2 hs2⟩
end
section
variable {X : Cx} {W : WX} {tg iter : Expr} {body : List Stmt} {pos : Pos} {gt : D → Env' → Option Env'} {is : List Nat} {fb : Ste → M (Fl × Ste)}
/-- for over what a walk gives (no list may be changed in place within) -/
theorem sj_forI {fi : Env' → M (List D)} (hp : PassesOwn (model X.prog X.w) X.A X.env X.xe) (hc : X.calm = true) (hi : IJ X W tg iter fi) (hg : TJ X tg gt is) (ht : TgOk gt is) (hb : SsJ X W body fb) (hs : ∀ x, foldedSetIterable iter X.env x = pure x := by intro _; rfl) :
    SJ X W (.For tg iter body [] pos) (sForI fi gt is fb) := ps_imp (ps_for hp hc hi hg hb hs) fun Dn σ H h => by
  obtain ⟨μ0, S0, H0, μ, S, τ, hs, h⟩ := h
  refine ⟨μ, S, τ.1, hs.env, hs.w, (h.lft hs).mono fun ds μ1 S1 H1 s1 w1 h1 J hJ => ?_⟩
  have hs1 := (hs.step s1 w1).drop
  obtain ⟨l, l1, l2, l3, z, hs2, l4⟩ := hs1.entry
  rw [l4 rfl] at z hs2
  have e : cutO H1 [] = H1 := by
    funext a
    exact cut_out (by simp)
  rw [e] at z hs2
  exact for_read ht hJ hs2 (fun μ' S' τ' σ' H' q => q.st.keep) (h1.re z)
/-- range: whatever happens to lists -/
def tIs (K : PySem.W.Frag) (mg : Str → Option Value) (W : WX) (f : Env' → M (List D)) : TI := fun σ H R => ∃ μ S ρ, EnvOk K μ S.length (Nh μ S.length H) ρ σ ∧ WOk K μ S H ∧
  Post K mg (fun c d H' => W c d σ H') μ S H (f ρ S) (fun ds μ' S' H' => ∀ J, (∀ Hb, IterOk K Hb J ds) → R J H')
def IsJ (X : Cx) (W : WX) (tg e : Expr) (f : Env' → M (List D)) : Prop := PI X tg e (tIs X.K X.mg W f)
theorem is_range1 {a : Expr} {p : Pos} {f : Env' → M (List D)} (ha : AJ X W [a] f) (hm : X.mg "range" = none) (hg : Gl X "range" := by rfl) (hs : starEach [a] X.env = [(false, eval a X.env)] := by rfl) : IsJ X W tg (.Call (.Name "range" p) [a] [] pos) (iA oRg1 f) := by
  refine pi_imp (pi_range1 hg hm ha hs) fun σ H R h => ?_
  obtain ⟨μ, S, ρ, he, hw, h⟩ := h
  refine ⟨μ, S, ρ, he, hw, h.bind.mono fun ds μ1 S1 H1 s1 w1 h1 vs a1 => ?_⟩
  obtain ⟨es, e, h1⟩ := h1.ofO
  unfold oRg1 at e
  split at e
  · split at e
    · rename_i j q
      cases e
      obtain ⟨v, rfl, b⟩ := pr1 a1
      rw [at_int b]
      obtain ⟨_, _, q1, q2, q3⟩ := rgOk_is q
      exact ⟨j, rfl, q1, q2, h1.here w1 _ fun Hb => iter_rg (by omega)⟩
    · cases e
  · cases e
theorem is_range2 {a b : Expr} {p : Pos} {f : Env' → M (List D)} (ha : AJ X W [a, b] f) (hm : X.mg "range" = none) (hg : Gl X "range" := by rfl) (hs : starEach [a, b] X.env = [(false, eval a X.env), (false, eval b X.env)] := by rfl) (hs2 : starEach [b] X.env = [(false, eval b X.env)] := by rfl) : IsJ X W tg (.Call (.Name "range" p) [a, b] [] pos) (iA oRg2 f) := by
  refine pi_imp (pi_range2 hg hm ha hs hs2) fun σ H R h => ?_
  obtain ⟨μ, S, ρ, he, hw, h⟩ := h
  refine ⟨μ, S, ρ, he, hw, h.bind.mono fun ds μ1 S1 H1 s1 w1 h1 vs a1 => ?_⟩
  obtain ⟨es, e, h1⟩ := h1.ofO
  unfold oRg2 at e
  split at e
  · split at e
    · rename_i i j q
      cases e
      obtain ⟨v, u, rfl, b, c⟩ := pr2 a1
      rw [at_int b, at_int c]
      obtain ⟨q1, q2, q3, q4, q5⟩ := rgOk_is q
      exact ⟨i, j, rfl, ⟨q1, q2, q3, q4⟩, h1.here w1 _ fun Hb => iter_rg (by omega)⟩
    · cases e
  · cases e
def sForR (f : Env' → M (List D)) (gt : D → Env' → Option Env') (is : List Nat) (body : Ste → M (Fl × Ste)) : Ste → M (Fl × Ste) := fun τ => lft (f τ.1) τ fun ds => sLoop gt is body ds τ
theorem sj_forR {fi : Env' → M (List D)} (hp : PassesOwn (model X.prog X.w) X.A X.env X.xe) (hc : X.calm = true) (hi : IsJ X W tg iter fi) (hg : TJ X tg gt is) (ht : TgOk gt is) (hb : SsJ X W body fb) (hs : ∀ x, foldedSetIterable iter X.env x = pure x := by intro _; rfl) :
    SJ X W (.For tg iter body [] pos) (sForR fi gt is fb) := ps_imp (ps_for hp hc hi hg hb hs) fun Dn σ H h => by
  obtain ⟨μ0, S0, H0, μ, S, τ, hs, h⟩ := h
  refine ⟨μ, S, τ.1, hs.env, hs.w, (h.lft hs).mono fun ds μ1 S1 H1 s1 w1 h1 J hJ => ?_⟩
  exact for_read (Hb := fun _ => none) ht (hJ _) (hs.step s1 w1) (fun μ' S' τ' σ' H' q a o z => by cases z) h1
/-- for over a list, a tuple, a text -/
theorem sj_for {fa : Env' → M (D × Bool)} (hp : PassesOwn (model X.prog X.w) X.A X.env X.xe) (hc : X.calm = true) (ha : FJ X W iter fa) (hg : TJ X tg gt is) (ht : TgOk gt is) (hb : SsJ X W body fb) (hs : ∀ x, foldedSetIterable iter X.env x = pure x := by intro _; rfl) :
    SJ X W (.For tg iter body [] pos) (sFor fa gt is fb) := ps_imp (ps_for hp hc (pi_or (pi_list (pe_sz ha)) (pi_or (pi_tup (pe_sz ha)) (pi_str (pe_sz ha)))) hg hb hs) fun Dn σ H h => by
  obtain ⟨μ0, S0, H0, μ, S, τ, hs, h⟩ := h
  have hb := h.lft hs
  -- what is to be done behind the iterable
  have go : ∀ {d : D} {fr : Bool} {S1 : Wd} {μ1 : Mu} {H1 : Hp} {v : V} {J : It}, Step μ S.length H μ1 S1.length H1 → WOk X.K μ1 S1 H1 → RetOk X.K H μ1 S1.length H1 v (d, fr) → SPost X.K X.mg W μ0 S0 H0 Dn ((match itD d with
      | none => M.no
      | some ds => sLoop gt is fb ds (τ.1, if ((fr && flatL d) || stb d) = true then τ.2 else [])) S1) →
      (∀ (Hb : Hp) ds, itD d = some ds → (At X.K (μ1.with μ1.hid) S1.length Hb v d) → Same Hb H1 → IterOk X.K Hb J ds) →
      ∃ V : Nat → Nat → St → Hp → Prop, (∃ m, V 0 m σ H1) ∧ ∀ i m σ H, V i m σ H →
      (J.stop i H ∧ Dn.nx σ H) ∨ (J.go i H ∧ ∃ N : St → Hp → Prop, (∀ σ' H', N σ' H' → ∃ m', m' < m ∧ V (i + 1) m' σ' H') ∧ ∀ x H', J.yld i H x H' → tG X.K gt is x σ H' fun σ2 H2 => tS X.K X.mg W fb { Dn with nx := N, ct := N, bk := Dn.nx } σ2 H2) := fun {d fr S1 μ1 H1 v J} s1 w1 a1 h1 hJ => by
    cases e : itD d with
    | none => rw [e] at h1; exact h1.elim
    | some ds =>
      rw [e] at h1
      simp only at h1
      by_cases c : ((fr && flatL d) || stb d) = true
      · rw [if_pos c] at h1
        have hs1 := hs.step s1 w1
        obtain ⟨l, l1, l2, l3, z, hs2, l4⟩ := hs1.entry
        have nl : ∀ p, H p = none → p ∉ l := fun p hp hm => by
          obtain ⟨i, hi, e2⟩ := l2 p hm
          obtain ⟨op, g1, _⟩ := hs.own
          obtain ⟨es, vs, k1, _, k2, k3, _⟩ := g1 i hi
          rw [e2] at k2
          cases k2
          rw [hp] at k3; cases k3
        have tups : Tups (Nh μ1 S1.length H1) (Nh μ1 S1.length (cutO H1 l)) := fun b xs q => by
          have out : ∀ u, Nh μ1 S1.length H1 b = some u → (∀ ws, u ≠ .lst ws) → Nh μ1 S1.length (cutO H1 l) b = some u := fun u q hu => by
            obtain ⟨q1, q2, q3⟩ := nh_some.mp q
            refine nh_some.mpr ⟨cut_some.mpr ⟨q1, fun z => ?_⟩, q2, q3⟩
            obtain ⟨ws, e3⟩ := l1 b z
            rw [e3] at q1
            exact hu _ (Option.some.inj q1).symm
          rcases q with q | ⟨o, q⟩
          · exact .inl (out _ q fun ws z => by cases z)
          · exact .inr ⟨o, out _ q fun ws z => by cases z⟩
        have a2 : At X.K (μ1.with μ1.hid) S1.length (Nh μ1 S1.length (cutO H1 l)) v d := by
          rcases Bool.or_eq_true_iff.mp c with c | c
          · obtain ⟨c1, c2⟩ := Bool.and_eq_true_iff.mp c
            obtain ⟨p, es, vs, rfl, rfl, e3, e4, e5, e6, e7⟩ := a1.2 c1
            refine .inr (.lst (.inl (.inl (nh_some.mpr ⟨cut_some.mpr ⟨e3, nl p e4⟩, e5, e6⟩))) (dpAll_flat tups _ _ c2 (dpAll_mono (nh_more (μ := μ1) (h := μ1.hid) fun b hb => List.mem_cons_of_mem _ hb) _ _ e7)))
          · exact at_stb a1.1 c tups
        have sm : Same (Nh μ1 S1.length (cutO H1 l)) H1 := fun a o q => (cut_some.mp (nh_some.mp q).1).1
        exact for_read ht (hJ _ ds e a2 sm) hs2 (fun μ' S' τ' σ' H' q => q.st.keep) (h1.re z)
      · rw [if_neg c] at h1
        have hs1 := (hs.step s1 w1).drop
        obtain ⟨l, l1, l2, l3, z, hs2, l4⟩ := hs1.entry
        rw [l4 rfl] at z hs2
        have ec : cutO H1 [] = H1 := by
          funext a
          exact cut_out (by simp)
        rw [ec] at z hs2
        exact for_read ht (hJ _ ds e a1.1 nh_same) hs2 (fun μ' S' τ' σ' H' q => q.st.keep) (h1.re z)
  cases q : fa τ.1 S with
  | no => rw [q] at hb; exact hb.elim
  | ex e' S' =>
    refine .inl ⟨μ, S, τ.1, hs.env, hs.w, ?_⟩
    rw [q] at hb ⊢
    exact hb
  | ok r S' =>
    obtain ⟨d, fr⟩ := r
    rw [q] at hb
    cases d with
    | list ds =>
      refine .inl ⟨μ, S, τ.1, hs.env, hs.w, ?_⟩
      rw [q]
      intro μ1 H1 s1 w1 v a1 sz
      obtain ⟨p, xs, rfl, h1, h2⟩ := at_list a1.1
      refine ⟨p, rfl, ⟨xs, nh_same.seq h1⟩, go s1 w1 a1 (hb μ1 H1 s1 w1) fun Hb es e a2 sm => ?_⟩
      cases e
      rcases a2 with ⟨k, _, e, _⟩ | a2
      · cases e
      · cases a2 with
        | lst k1 k2 => exact iter_list k1 k2 (sz.1 _ _ (sm.seq k1))
    | tuple ds =>
      refine .inr (.inl ⟨μ, S, τ.1, hs.env, hs.w, ?_⟩)
      rw [q]
      intro μ1 H1 s1 w1 v a1 sz
      obtain ⟨p, xs, rfl, h1, h2⟩ := at_tup a1.1
      refine ⟨p, rfl, ⟨xs, seqT_mono nh_same h1⟩, go s1 w1 a1 (hb μ1 H1 s1 w1) fun Hb es e a2 sm => ?_⟩
      cases e
      rcases a2 with ⟨k, _, e, _⟩ | a2
      · cases e
      · cases a2 with
        | tup k1 k2 => exact iter_tup k1 k2 (sz.2 _ _ (seqT_mono sm k1))
    | str z =>
      refine .inr (.inr ⟨μ, S, τ.1, hs.env, hs.w, ?_⟩)
      rw [q]
      intro μ1 H1 s1 w1 v a1 sz
      refine ⟨z, at_str a1.1, go s1 w1 a1 (hb μ1 H1 s1 w1) fun Hb es e a2 sm => ?_⟩
      simp only [itD] at e
      split at e
      · rename_i hz
        cases e
        exact iter_str hz
      · cases e
    | _ =>
      refine .inl ⟨μ, S, τ.1, hs.env, hs.w, ?_⟩
      rw [q]
      intro μ1 H1 s1 w1 v a1 sz
      exact (hb μ1 H1 s1 w1).elim
end
end DL
end L2

set_option Elab.async false
set_option linter.all false
set_option maxRecDepth 100000
/-! while, several targets, lists that grow, shared lists, defs -/
namespace L2
namespace DL
open PySem PySem.Spec PyProof.Rows
section
variable {X : Cx} {W : WX} {e : Expr} {pos : Pos}
/-! ### a, b = x, y -/
def sPar2 (i j : Nat) (f : Env' → M (List D)) : Ste → M (Fl × Ste) := fun τ => lft (f τ.1) τ fun ds => match ds with
  | [x, y] => if decide (i < τ.1.length ∧ j < τ.1.length) = true then M.ret (.nx, asg j (y, false) (asg i (x, false) τ)) else M.no
  | _ => M.no
def sPar3 (i j l : Nat) (f : Env' → M (List D)) : Ste → M (Fl × Ste) := fun τ => lft (f τ.1) τ fun ds => match ds with
  | [x, y, z] => if decide (i < τ.1.length ∧ j < τ.1.length ∧ l < τ.1.length) = true then M.ret (.nx, asg l (z, false) (asg j (y, false) (asg i (x, false) τ))) else M.no
  | _ => M.no
theorem asg_len (i : Nat) (r : D × Bool) (τ : Ste) : (asg i r τ).1.length = τ.1.length := by
  show (τ.1.set i (some r.1)).length = _
  exact List.length_set
theorem sj_par2 {i j : Nat} {x y : Str} {a b : Expr} {fa : Env' → M (List D)} {px py pt : Pos} {kt k2 pt2} (hc : X.calm = true) (hN : X.N.Nodup) (ha : AJ X W [a, b] fa) (hi : X.N[i]? = some x := by rfl) (hj : X.N[j]? = some y := by rfl) (hij : i ≠ j := by decide)
    (hx : X.env.scope.names.lookup x = some .local := by rfl) (hy : X.env.scope.names.lookup y = some .local := by rfl)
    (hw : swappedStores [.Tuple [.Name x px, .Name y py] kt pt] (.Tuple [a, b] k2 pt2) X.env = pure (some [x, y]) := by rfl)
    (hs : swapsWithSole [.Tuple [.Name x px, .Name y py] kt pt] (.Tuple [a, b] k2 pt2) pos.line X.env = pure false := by rfl) :
    SJ X W (.Assign [.Tuple [.Name x px, .Name y py] kt pt] (.Tuple [a, b] k2 pt2) pos) (sPar2 i j fa) := ps_imp (ps_par hc hN hi hj hij hx hy ha hw hs) fun Dn σ H h => by
  obtain ⟨μ0, S0, H0, μ, S, τ, hs, h⟩ := h
  refine ⟨μ, S, τ.1, hs.env, hs.w, (h.lft hs).mono fun ds μ1 S1 H1 s1 w1 h1 vs a1 => ?_⟩
  match ds, a1, h1 with
  | [d1, d2], a1, h1 =>
    obtain ⟨v, u, rfl, b1, b2⟩ := pr2 a1
    simp only at h1
    split at h1
    · rename_i q
      obtain ⟨q1, q2⟩ := of_decide_eq_true q
      refine ⟨v, u, rfl, h1 μ1 _ H1 ?_⟩
      have k1 := hs.set s1 w1 (r := (d1, false)) ⟨b1, fun z => by cases z⟩ q1
      exact k1.set (Step.refl ..) w1 (r := (d2, false)) ⟨b2, fun z => by cases z⟩ (by rw [asg_len]; exact q2)
    · exact h1.elim
  | [], _, h1 => exact h1.elim
  | [_], _, h1 => exact h1.elim
  | _ :: _ :: _ :: _, _, h1 => exact h1.elim
theorem sj_par3 {i j l : Nat} {x y z : Str} {a b c : Expr} {fa : Env' → M (List D)} {px py pz pt : Pos} {kt k2 pt2} (hc : X.calm = true) (hN : X.N.Nodup) (ha : AJ X W [a, b, c] fa) (hi : X.N[i]? = some x := by rfl) (hj : X.N[j]? = some y := by rfl) (hl : X.N[l]? = some z := by rfl) (hij : i ≠ j := by decide) (hil : i ≠ l := by decide) (hjl : j ≠ l := by decide)
    (hx : X.env.scope.names.lookup x = some .local := by rfl) (hy : X.env.scope.names.lookup y = some .local := by rfl) (hz : X.env.scope.names.lookup z = some .local := by rfl)
    (hw : swappedStores [.Tuple [.Name x px, .Name y py, .Name z pz] kt pt] (.Tuple [a, b, c] k2 pt2) X.env = pure (some [x, y, z]) := by rfl)
    (hs : swapsWithSole [.Tuple [.Name x px, .Name y py, .Name z pz] kt pt] (.Tuple [a, b, c] k2 pt2) pos.line X.env = pure false := by rfl) :
    SJ X W (.Assign [.Tuple [.Name x px, .Name y py, .Name z pz] kt pt] (.Tuple [a, b, c] k2 pt2) pos) (sPar3 i j l fa) := ps_imp (ps_par3 hc hN hi hj hl hij hil hjl hx hy hz ha hw hs) fun Dn σ H h => by
  obtain ⟨μ0, S0, H0, μ, S, τ, hs, h⟩ := h
  refine ⟨μ, S, τ.1, hs.env, hs.w, (h.lft hs).mono fun ds μ1 S1 H1 s1 w1 h1 vs a1 => ?_⟩
  match ds, a1, h1 with
  | [d1, d2, d3], a1, h1 =>
    cases a1 with
    | cons b1 t =>
      obtain ⟨v2, v3, rfl, b2, b3⟩ := pr2 t
      simp only at h1
      split at h1
      · rename_i q
        obtain ⟨q1, q2, q3⟩ := of_decide_eq_true q
        refine ⟨_, v2, v3, rfl, h1 μ1 _ H1 ?_⟩
        have k1 := hs.set s1 w1 (r := (d1, false)) ⟨b1, fun z => by cases z⟩ q1
        have k2 := k1.set (Step.refl ..) w1 (r := (d2, false)) ⟨b2, fun z => by cases z⟩ (by rw [asg_len]; exact q2)
        exact k2.set (Step.refl ..) w1 (r := (d3, false)) ⟨b3, fun z => by cases z⟩ (by rw [asg_len, asg_len]; exact q3)
      · exact h1.elim
  | [], _, h1 => exact h1.elim
  | [_], _, h1 => exact h1.elim
  | [_, _], _, h1 => exact h1.elim
  | _ :: _ :: _ :: _ :: _, _, h1 => exact h1.elim
/-! ### while -/
def sWhile (c : Env' → M Bool) (body : Ste → M (Fl × Ste)) : Nat → Ste → M (Fl × Ste)
  | 0, _ => M.no
  | n + 1, τ => lft (c τ.1) τ fun b => if b = true then M.bind (body τ) fun p => match p.1 with
      | .nx => sWhile c body n p.2
      | .cnt => sWhile c body n p.2
      | .brk => M.ret (.nx, p.2)
      | .ret d fr => M.ret (.ret d fr, p.2)
      | .exc e => M.ret (.exc e, p.2)
    else M.ret (.nx, τ)
theorem sj_while (n : Nat) {c : Expr} {body : List Stmt} {fc : Env' → M Bool} {fb : Ste → M (Fl × Ste)} (hp : PassesOwn (model X.prog X.w) X.A X.env X.xe) (hc : BJ X W c fc) (hb : SsJ X W body fb) : SJ X W (.While c body [] pos) (sWhile fc fb n) := ps_imp (ps_while hp hc hb) fun Dn σ H h => by
  obtain ⟨μ0, S0, H0, μ, S, τ, hs, h⟩ := h
  refine ⟨fun m σ H => ∃ μ S τ, SOk X.K μ0 S0 H0 μ S τ σ H ∧ SPost X.K X.mg W μ0 S0 H0 Dn (sWhile fc fb m τ S), ⟨n, μ, S, τ, hs, h⟩, ?_⟩
  rintro m σ2 H2 ⟨μ', S', τ', hs2, h2⟩
  cases m with
  | zero => exact h2.elim
  | succ m =>
    refine ⟨μ', S', τ'.1, hs2.env, hs2.w, (h2.lft hs2).mono fun b μ1 S1 H1 s1 w1 h1 => ?_⟩
    have hs3 := hs2.step s1 w1
    cases b with
    | false => exact h1 μ1 σ2 H1 hs3
    | true =>
      refine ⟨fun σ H => ∃ μ S τ, SOk X.K μ0 S0 H0 μ S τ σ H ∧ SPost X.K X.mg W μ0 S0 H0 Dn (sWhile fc fb m τ S), fun σ' H' q => ⟨m, Nat.lt_succ_self m, q⟩, μ0, S0, H0, μ1, S1, τ', hs3, ?_⟩
      have h3 : SPost X.K X.mg W μ0 S0 H0 Dn ((fb τ' S1).thn fun p => match p.1 with
        | .nx => sWhile fc fb m p.2
        | .cnt => sWhile fc fb m p.2
        | .brk => M.ret (.nx, p.2)
        | .ret d fr => M.ret (.ret d fr, p.2)
        | .exc e => M.ret (.exc e, p.2)) := h1
      match r : fb τ' S1, h3 with
      | .ok (.nx, τ2) S2, h3 => exact fun μ2 σ2 H2 q2 => ⟨μ2, S2, τ2, q2, h3⟩
      | .ok (.cnt, τ2) S2, h3 => exact fun μ2 σ2 H2 q2 => ⟨μ2, S2, τ2, q2, h3⟩
      | .ok (.brk, τ2) S2, h3 => exact fun μ2 σ2 H2 q2 => h3 μ2 σ2 H2 q2
      | .ok (.ret d fr, τ2) S2, h3 => exact h3
      | .ok (.exc e, τ2) S2, h3 => exact h3
      | .ex _ _, h3 => exact h3.elim
      | .no, h3 => exact h3.elim
theorem sj_break : SJ X W (.Break pos) (fun τ => M.ret (.brk, τ)) := ps_imp ps_break fun Dn σ H h => by
  obtain ⟨μ0, S0, H0, μ, S, τ, hs, h⟩ := h
  exact h μ σ H hs
theorem sj_continue : SJ X W (.Continue pos) (fun τ => M.ret (.cnt, τ)) := ps_imp ps_continue fun Dn σ H h => by
  obtain ⟨μ0, S0, H0, μ, S, τ, hs, h⟩ := h
  exact h μ σ H hs
/-! ### x.append(e), x an owned list -/
def sApp (i : Nat) (f : Env' → M D) : Ste → M (Fl × Ste) := fun τ => if τ.2.contains i = true then (match τ.1[i]? with
    | some (some (.list es)) => lft (f τ.1) τ fun d => if (flat d && szOk (es.length + 1)) = true then M.ret (.nx, (τ.1.set i (some (.list (es ++ [d]))), τ.2)) else M.no
    | _ => M.no) else M.no
theorem flatAll_app : ∀ {xs ys : List D}, flatAll (xs ++ ys) = (flatAll xs && flatAll ys)
  | [], ys => rfl
  | x :: xs, ys => by
    show (flat x && flatAll (xs ++ ys)) = ((flat x && flatAll xs) && flatAll ys)
    rw [flatAll_app, Bool.and_assoc]
theorem flat_nd {d : D} (h : flat d = true) : ∀ kvs, d ≠ .dict kvs := fun kvs e => by subst e; simp [flat] at h
theorem SOk.app {K : PySem.W.Frag} {μ0 μ : Mu} {S0 S : Wd} {H0 H : Hp} {τ : Ste} {σ : St} (h : SOk K μ0 S0 H0 μ S τ σ H) {i : Nat} (hi : i ∈ τ.2) {es : List D} (he : τ.1[i]? = some (some (.list es))) {y : V} {d : D} (ay : At K μ S.length (Nh μ S.length H) y d) (fd : flat d = true) :
    ∃ p vs, σ[i]? = some (some (.ref p)) ∧ H p = some (.lst vs) ∧ vs.length = es.length ∧ SOk K μ0 S0 H0 μ S (τ.1.set i (some (.list (es ++ [d]))), τ.2) σ (upd H p (.lst (vs ++ [y]))) := by
  obtain ⟨op, h1, h2, h3⟩ := h.own
  obtain ⟨es', vs, e1, fl, e2, e3, e4, e5, e6, e7⟩ := h1 i hi
  rw [he] at e1
  cases e1
  have hil : i < τ.1.length := (List.getElem?_eq_some_iff.mp he).1
  refine ⟨op i, vs, e2, e3, dpAll_length e7, ?_⟩
  -- what stands besides
  have keepT : Tups (Nh μ S.length H) (Nh μ S.length (upd H (op i) (.lst (vs ++ [y])))) := fun b xs q => by
    have out : ∀ u, Nh μ S.length H b = some u → (∀ ws, u ≠ .lst ws) → Nh μ S.length (upd H (op i) (.lst (vs ++ [y]))) b = some u := fun u q hu => by
      obtain ⟨q1, q2, q3⟩ := nh_some.mp q
      refine nh_some.mpr ⟨?_, q2, q3⟩
      rw [upd_ne fun z => ?_]
      · exact q1
      · rw [z, e3] at q1
        exact hu _ (Option.some.inj q1).symm
    rcases q with q | ⟨o, q⟩
    · exact .inl (out _ q fun ws z => by cases z)
    · exact .inr ⟨o, out _ q fun ws z => by cases z⟩
  have noh : ∀ k, k < S.length → μ.at_ k ≠ op i := e5
  refine ⟨h.w0, ⟨h.w.inj, fun k ob q => ?_, fun a ha => ?_, h.w.hn⟩, ⟨h.st.le, h.st.ag, h.st.hd, fun a ha => ?_, fun a u q => ?_⟩, by rw [List.length_set]; exact h.len, op, fun j hj => ?_, h2, fun j x hj q => ?_⟩
  · have hk : k < S.length := (List.getElem?_eq_some_iff.mp q).1
    have := h.w.ob k ob q
    cases ob with
    | lst ds =>
      obtain ⟨hf, ws, q1, q2⟩ := this
      exact ⟨hf, ws, by rw [upd_ne (noh k hk)]; exact q1, dpAll_flat keepT _ _ hf q2⟩
  · by_cases z : a = op i
    · exact ⟨_, by rw [z]; exact upd_same⟩
    · rw [upd_ne z]; exact h.w.ht a ha
  · rw [upd_ne fun z => e6 (by rw [← z, h.st.hd]; exact ha)]
    exact h.st.hk a ha
  · obtain ⟨q1, q2, q3⟩ := nh_some.mp (h.st.keep a u q)
    refine nh_some.mpr ⟨?_, q2, q3⟩
    rw [upd_ne fun z => ?_]
    · exact q1
    · rw [z] at q
      rw [(nh_some.mp q).1] at e4; cases e4
  · by_cases z : j = i
    · subst z
      refine ⟨es ++ [d], vs ++ [y], List.getElem?_set_self hil, ?_, e2, upd_same, e4, e5, e6, ?_⟩
      · rw [flatAll_app, fl]
        show (true && (flat d && true)) = true
        rw [fd]; rfl
      · exact dpAll_append (dpAll_flat keepT _ _ fl e7) (.cons (dp_flat keepT _ _ fd (at_dp ay (flat_nd fd))) .nil)
    · obtain ⟨es2, vs2, k1, kf, k2, k3, k4, k5, k6, k7⟩ := h1 j hj
      refine ⟨es2, vs2, by rw [List.getElem?_set_ne (Ne.symm z)]; exact k1, kf, k2, ?_, k4, k5, k6, dpAll_flat keepT _ _ kf k7⟩
      rw [upd_ne fun w => z (h2 j i hj hi w)]
      exact k3
  · have z : j ≠ i := fun w => hj (by rw [w]; exact hi)
    rw [List.getElem?_set_ne (Ne.symm z)] at q
    obtain ⟨v, v1, v2⟩ := h3 j x hj q
    refine ⟨v, v1, v2.mono (Nat.le_refl _) (fun _ _ => rfl) fun b o t => ?_⟩
    obtain ⟨t1, t2, t3⟩ := nh_some.mp t
    refine nh_some.mpr ⟨?_, t2, t3⟩
    rw [upd_ne fun w => ?_]
    · exact t1
    · exact t3 (List.mem_append_left _ (List.mem_map.mpr ⟨i, hi, w.symm⟩))
theorem sj_app {i : Nat} {x : Str} {fe : Env' → M D} {p' p2 : Pos} {pos2 : Pos} (h : EJ X W e fe) (hN : X.N[i]? = some x := by rfl) (hv : Vis X.env.scope x := by first | exact Or.inl rfl | exact Or.inr (Or.inl rfl) | exact Or.inr (Or.inr rfl)) (hd : (x == ("__debug__" : Str)) = false := by decide)
    (hcd : (x == ("__classdict__" : Str)) = false := by decide) (hbase : attributeBase (.Name x p') "append" X.env (eval (.Name x p') X.env) = eval (.Name x p') X.env := by rfl)
    (hfew : ((backTo pos (starEach (e :: []) X.env)).all (fun x => !x.1) && (backToKw pos (keywordEach [] X.env)).all (fun x => x.1.isSome)
      && decide ((e :: []).length + ([] : List Keyword).length + (if ([] : List Keyword).isEmpty then 0 else 1) < 30)) = true := by rfl)
    (hline : (p2.endLine == pos.line) = true := by rfl) (hs1 : starEach (e :: []) X.env = (false, eval e X.env) :: starEach [] X.env := by rfl) (hpl : (backTo pos (starEach [] X.env)).any (·.1) = false := by rfl)
    (hs : swapsWith (.Call (.Attribute (.Name x p') "append" p2) [e] [] pos) none pos2.line X.env = pure false := by rfl) : SJ X W (.Expr (.Call (.Attribute (.Name x p') "append" p2) [e] [] pos) pos2) (sApp i fe) := by
  refine ps_imp (ps_expr (pe_bm PySem.F.plainAttrs_list PySem.F.slot_list_append PySem.F.type_list_append mt_append (pe_var hN hv hd hcd) (pa_cons h pa_nil hs1) hbase hfew hline hs1 hpl) hs) fun Dn σ H hh => ?_
  obtain ⟨μ0, S0, H0, μ, S, τ, hs, hh⟩ := hh
  unfold sApp at hh
  by_cases c : τ.2.contains i = true
  · rw [if_pos c] at hh
    have hi : i ∈ τ.2 := by simpa using c
    match q : τ.1[i]? with
    | some (some (.list es)) =>
      rw [q] at hh
      simp only at hh
      obtain ⟨op, h1, h2, h3⟩ := hs.own
      obtain ⟨es', vs, e1, fl, e2, e3, e4, e5, e6, e7⟩ := h1 i hi
      refine ⟨_, e2, .inl ⟨rfl, _, SqL.of e3⟩, μ, S, τ.1, hs.env, hs.w, (hh.lft hs).mono fun d μ1 S1 H1 s1 w1 h1' v a => ?_⟩
      split at h1'
      · rename_i k
        obtain ⟨k1, k2⟩ := Bool.and_eq_true_iff.mp k
        obtain ⟨p, ws, f1, f2, f3, f4⟩ := (hs.step s1 w1).app hi q a k1
        rw [e2] at f1
        cases f1
        have hz := szOk_le k2
        exact ⟨_, ws, v, rfl, rfl, f2, by omega, h1' μ1 _ _ f4⟩
      · exact h1'.elim
    | some (some .none) => rw [q] at hh; exact hh.elim
    | some (some (.bool _)) => rw [q] at hh; exact hh.elim
    | some (some (.int _)) => rw [q] at hh; exact hh.elim
    | some (some (.str _)) => rw [q] at hh; exact hh.elim
    | some (some (.tuple _)) => rw [q] at hh; exact hh.elim
    | some (some (.dict _)) => rw [q] at hh; exact hh.elim
    | some none => rw [q] at hh; exact hh.elim
    | none => rw [q] at hh; exact hh.elim
  · rw [if_neg c] at hh
    exact hh.elim
/-! ### x[j] = e, x a shared list -/
def sSetH (i j : Nat) (f : Env' → M D) : Ste → M (Fl × Ste) := fun τ => lft (f τ.1) τ fun d => match τ.1[i]? with
  | some (some h) => match hOf h with
    | some k => fun s => match s[k]? with
      | some (.lst ds) => if (flat d && decide (j < ds.length)) = true then .ok (.nx, τ) (s.set k (.lst (ds.set j d))) else .no
      | none => .no
    | none => M.no
  | _ => M.no
theorem WOk.write {K : PySem.W.Frag} {μ : Mu} {S : Wd} {H : Hp} (w : WOk K μ S H) {k : Nat} {ds ds' : List D} {vs' : List V} (hk : S[k]? = some (.lst ds)) (f : flatAll ds' = true) (dp : DpAll K (Nh μ S.length H) vs' ds') :
    Step μ S.length H μ (S.set k (.lst ds')).length (upd H (μ.at_ k) (.lst vs')) ∧ WOk K μ (S.set k (.lst ds')) (upd H (μ.at_ k) (.lst vs')) ∧ Nh μ S.length (upd H (μ.at_ k) (.lst vs')) = Nh μ S.length H := by
  have hkl : k < S.length := (List.getElem?_eq_some_iff.mp hk).1
  have hn : Nh μ S.length (upd H (μ.at_ k) (.lst vs')) = Nh μ S.length H := by
    funext b
    unfold Nh
    by_cases z : b = μ.at_ k
    · have q : ((List.range S.length).any (fun k => μ.at_ k == b) || μ.hid.contains b) = true := Bool.or_eq_true_iff.mpr (.inl (List.any_eq_true.mpr ⟨k, List.mem_range.mpr hkl, by simp [z]⟩))
      rw [if_pos q, if_pos q]
    · rw [upd_ne z]
  have hhid : ∀ a, a ∈ μ.hid → upd H (μ.at_ k) (.lst vs') a = H a := fun a ha => upd_ne fun z => w.hn k hkl (by rw [← z]; exact ha)
  refine ⟨⟨by rw [List.length_set]; exact Nat.le_refl _, fun _ _ => rfl, rfl, hhid, by rw [List.length_set, hn]; exact Same.refl _⟩, ⟨fun i j hi hj => ?_, fun i ob q => ?_, fun a ha => by rw [hhid a ha]; exact w.ht a ha, fun i hi => ?_⟩, hn⟩
  · rw [List.length_set] at hi hj
    exact w.inj i j hi hj
  · rw [List.length_set, hn]
    by_cases z : k = i
    · subst z
      rw [List.getElem?_set_self hkl] at q
      cases q
      exact ⟨f, vs', upd_same, dp⟩
    · rw [List.getElem?_set_ne z] at q
      have hi : i < S.length := (List.getElem?_eq_some_iff.mp q).1
      exact (w.ob i ob q).mono (Same.refl _) (upd_ne fun y => z (w.inj i k hi hkl y).symm)
  · rw [List.length_set] at hi
    exact w.hn i hi
theorem SOk.write {K : PySem.W.Frag} {μ0 μ : Mu} {S0 S : Wd} {H0 H : Hp} {τ : Ste} {σ : St} (h : SOk K μ0 S0 H0 μ S τ σ H) {S' : Wd} {H' : Hp} (s : Step μ S.length H μ S'.length H') (w : WOk K μ S' H') : SOk K μ0 S0 H0 μ S' τ σ H' := h.step s w
theorem flatAll_set : ∀ {ds : List D} {j : Nat} {d : D}, flatAll ds = true → flat d = true → flatAll (ds.set j d) = true
  | [], _, _, _, _ => rfl
  | x :: xs, 0, d, h, f => by
    have h' : flat x = true ∧ flatAll xs = true := by simpa [flatAll] using h
    show (flat d && flatAll xs) = true
    rw [f, h'.2]; rfl
  | x :: xs, j + 1, d, h, f => by
    have h' : flat x = true ∧ flatAll xs = true := by simpa [flatAll] using h
    show (flat x && flatAll (xs.set j d)) = true
    rw [h'.1, flatAll_set h'.2 f]; rfl
theorem sj_setH {i j : Nat} {x : Str} {fe : Env' → M D} {p' p2 ip : Pos} {jj : Nat} (h : EJ X W e fe) (hN : X.N[i]? = some x := by rfl) (hv : Vis X.env.scope x := by first | exact Or.inl rfl | exact Or.inr (Or.inl rfl) | exact Or.inr (Or.inr rfl)) (hd : (x == ("__debug__" : Str)) = false := by decide)
    (hcd : (x == ("__classdict__" : Str)) = false := by decide)
    (ha : ∀ v, assign (.Subscript (.Name x p') (.Constant (.int (j : Int)) jj ip) p2) X.env v = (do
      let ov ← holding [v] (eval (.Name x p') X.env)
      let iv ← holding [v, ov] (eval (.Constant (.int (j : Int)) jj ip) X.env)
      standAt p2
      holding [v, ov, iv] (setItem ov iv v)
      release [v, ov, iv] []) := by intro _; rfl)
    (hs : swapsWithSole [.Subscript (.Name x p') (.Constant (.int (j : Int)) jj ip) p2] e pos.line X.env = pure false := by rfl) (hw : swappedStores [.Subscript (.Name x p') (.Constant (.int (j : Int)) jj ip) p2] e X.env = pure none := by rfl)
    (h1 : (assignEach [.Subscript (.Name x p') (.Constant (.int (j : Int)) jj ip) p2] X.env).map (·.2) = [assign (.Subscript (.Name x p') (.Constant (.int (j : Int)) jj ip) p2) X.env] := by rfl) :
    SJ X W (.Assign [.Subscript (.Name x p') (.Constant (.int (j : Int)) jj ip) p2] e pos) (sSetH i j fe) := by
  refine ps_imp (ps_asg h (pg_sub (pe_var hN hv hd hcd) pe_int set_list ha) hs hw h1) fun Dn σ H hh => ?_
  obtain ⟨μ0, S0, H0, μ, S, τ, hs, hh⟩ := hh
  refine ⟨μ, S, τ.1, hs.env, hs.w, (hh.lft hs).mono fun d μ1 S1 H1 s1 w1 h1' v a => ?_⟩
  have hs1 := hs.step s1 w1
  match q : τ.1[i]? with
  | some (some hh) =>
    rw [q] at h1'
    simp only at h1'
    cases q2 : hOf hh with
    | none => rw [q2] at h1'; exact h1'.elim
    | some k =>
      rw [q2] at h1'
      simp only at h1'
      obtain ⟨u, u1, u2⟩ := hs1.env.at_ i hh q
      obtain ⟨hk, rfl⟩ := at_hnd u2 q2
      refine ⟨_, u1, ?_⟩
      cases q3 : S1[k]? with
      | none => rw [q3] at h1'; exact h1'.elim
      | some o =>
        cases o with
        | lst ds =>
          rw [q3] at h1'
          simp only at h1'
          split at h1'
          · rename_i c
            obtain ⟨c1, c2⟩ := Bool.and_eq_true_iff.mp c
            obtain ⟨hf, xs, t1, t2⟩ := w1.ob k _ q3
            have hj : j < xs.length := by rw [dpAll_length t2]; exact of_decide_eq_true c2
            obtain ⟨z1, z2, z3⟩ := w1.write (ds' := ds.set j d) (vs' := xs.set j v) q3 (flatAll_set hf c1) (dpAll_set j (at_dp a (flat_nd c1)) t2)
            refine ⟨_, xs, (j : Int), j, rfl, rfl, t1, ?_, h1' μ1 σ _ (hs1.step z1 z2)⟩
            unfold ixN
            rw [if_pos (by omega), if_pos (by omega)]
            rfl
          · exact h1'.elim
  | some none => rw [q] at h1'; exact h1'.elim
  | none => rw [q] at h1'; exact h1'.elim
end
end DL
end L2

set_option Elab.async false
set_option linter.all false
set_option maxRecDepth 100000
/-! a new list becomes shared; raise; defs -/
namespace L2
namespace DL
open PySem PySem.Spec PyProof.Rows
def sAdopt (i : Nat) (f : Env' → M (D × Bool)) : Ste → M (Fl × Ste) := fun τ => lft (f τ.1) τ fun r => if (r.2 && flatL r.1 && decide (i < τ.1.length)) = true then (match r.1 with
    | .list es => fun s => .ok (.nx, (τ.1.set i (some (hnd s.length)), τ.2.filter (· != i))) (s ++ [.lst es])
    | _ => M.no) else M.no
section
variable {K : PySem.W.Frag} {mg : Str → Option Value} {μ0 μ : Mu} {S0 S : Wd} {H0 H : Hp} {τ : Ste} {σ : St}
theorem SOk.adopt (h : SOk K μ0 S0 H0 μ S τ σ H) {i : Nat} (hi : i ∈ τ.2) {es : List D} (he : τ.1[i]? = some (some (.list es))) :
    ∃ μ', SOk K μ0 S0 H0 μ' (S ++ [.lst es]) (τ.1.set i (some (hnd S.length)), τ.2.filter (· != i)) σ H := by
  obtain ⟨op, h1, h2, h3⟩ := h.own
  obtain ⟨es', vs, e1, fl, e2, e3, e4, e5, e6, e7⟩ := h1 i hi
  rw [he] at e1
  cases e1
  have hil : i < τ.1.length := (List.getElem?_eq_some_iff.mp he).1
  obtain ⟨at', ai, aj⟩ : ∃ at' : Nat → Addr, at' S.length = op i ∧ ∀ k, k < S.length → at' k = μ.at_ k := ⟨fun k => if k = S.length then op i else μ.at_ k, if_pos rfl, fun k hk => if_neg (Nat.ne_of_lt hk)⟩
  have len' : (S ++ [Ob.lst es]).length = S.length + 1 := by simp
  -- what is to be read: all but the list
  have nh : ∀ (l : List Addr) b o, Nh (μ.with l) S.length H b = some o → b ≠ op i → Nh ⟨at', l⟩ (S.length + 1) H b = some o := fun l b o q hb => by
    obtain ⟨q1, q2, q3⟩ := nh_some.mp q
    refine nh_some.mpr ⟨q1, fun k hk z => ?_, q3⟩
    by_cases e : k = S.length
    · subst e
      have z' : at' S.length = b := z
      rw [ai] at z'
      exact hb z'.symm
    · have hk' : k < S.length := by omega
      have z' : at' k = b := z
      rw [aj k hk'] at z'
      exact q2 k hk' z'
  have tups : Tups (Nh μ S.length H) (Nh ⟨at', μ.hid⟩ (S.length + 1) H) := fun b xs q => by
    have out : ∀ u, Nh μ S.length H b = some u → (∀ ws, u ≠ .lst ws) → Nh ⟨at', μ.hid⟩ (S.length + 1) H b = some u := fun u q hu => nh μ.hid b u q fun z => by
      rw [z] at q
      obtain ⟨q1, _⟩ := nh_some.mp q
      rw [e3] at q1
      exact hu _ (Option.some.inj q1).symm
    rcases q with q | ⟨o, q⟩
    · exact .inl (out _ q fun ws z => by cases z)
    · exact .inr ⟨o, out _ q fun ws z => by cases z⟩
  refine ⟨⟨at', μ.hid⟩, h.w0, ⟨fun a b ha hb z => ?_, fun k ob q => ?_, h.w.ht, fun k hk z => ?_⟩, ⟨by rw [len']; exact Nat.le_succ_of_le h.st.le, fun k hk => (aj k (Nat.lt_of_lt_of_le hk h.st.le)).trans (h.st.ag k hk), h.st.hd, h.st.hk, fun a u q => ?_⟩, by rw [List.length_set]; exact h.len, op, fun j hj => ?_, fun j l hj hl z => h2 j l (mem_filt.mp hj).1 (mem_filt.mp hl).1 z, fun j x hj q => ?_⟩
  · rw [len'] at ha hb
    have z : at' a = at' b := z
    by_cases ea : a = S.length
    · by_cases eb : b = S.length
      · rw [ea, eb]
      · have hb' : b < S.length := by omega
        rw [ea, ai, aj b hb'] at z
        exact absurd z.symm (e5 b hb')
    · have ha' : a < S.length := by omega
      by_cases eb : b = S.length
      · rw [eb, ai, aj a ha'] at z
        exact absurd z (e5 a ha')
      · have hb' : b < S.length := by omega
        rw [aj a ha', aj b hb'] at z
        exact h.w.inj a b ha' hb' z
  · rw [len']
    by_cases e : k < S.length
    · rw [List.getElem?_append_left e] at q
      have := h.w.ob k ob q
      cases ob with
      | lst ds =>
        obtain ⟨hf, ws, q1, q2⟩ := this
        exact ⟨hf, ws, by show H (at' k) = _; rw [aj k e]; exact q1, dpAll_flat tups _ _ hf q2⟩
    · have hk : k < (S ++ [Ob.lst es]).length := (List.getElem?_eq_some_iff.mp q).1
      have ek : k = S.length := by rw [len'] at hk; omega
      subst ek
      rw [List.getElem?_append_right (Nat.le_refl _), Nat.sub_self] at q
      cases q
      exact ⟨fl, vs, by show H (at' S.length) = _; rw [ai]; exact e3, dpAll_flat tups _ _ fl e7⟩
  · rw [len'] at hk
    have z : at' k ∈ μ.hid := z
    by_cases e : k = S.length
    · rw [e, ai] at z
      exact e6 z
    · have hk' : k < S.length := by omega
      rw [aj k hk'] at z
      exact h.w.hn k hk' z
  · rw [len']
    refine nh μ.hid a u (h.st.keep a u q) fun z => ?_
    rw [z] at q
    rw [(nh_some.mp q).1] at e4; cases e4
  · obtain ⟨hj1, hj2⟩ := mem_filt.mp hj
    obtain ⟨es2, vs2, k1, kf, k2, k3, k4, k5, k6, k7⟩ := h1 j hj1
    refine ⟨es2, vs2, by rw [List.getElem?_set_ne (Ne.symm hj2)]; exact k1, kf, k2, k3, k4, fun k hk z => ?_, k6, by rw [len']; exact dpAll_flat tups _ _ kf k7⟩
    rw [len'] at hk
    have z : at' k = op j := z
    by_cases e : k = S.length
    · rw [e, ai] at z
      exact hj2 (h2 i j hi hj1 z).symm
    · have hk' : k < S.length := by omega
      rw [aj k hk'] at z
      exact k5 k hk' z
  · by_cases z : j = i
    · subst z
      rw [List.getElem?_set_self hil] at q
      cases q
      exact ⟨_, e2, .inl ⟨S.length, by rw [len']; exact Nat.lt_succ_self _, rfl, congrArg V.ref ai.symm⟩⟩
    · rw [List.getElem?_set_ne (Ne.symm z)] at q
      obtain ⟨v, v1, v2⟩ := h3 j x (fun w => hj (mem_filt.mpr ⟨w, z⟩)) q
      refine ⟨v, v1, ?_⟩
      rw [len']
      refine At.mono (μ := μ) (n := S.length) (Nat.le_succ _) aj (fun b o t => ?_) v2
      obtain ⟨t1, t2, t3⟩ := nh_some.mp t
      have t3' : b ∉ τ.2.map op ∧ b ∉ μ.hid := ⟨fun w => t3 (List.mem_append_left _ w), fun w => t3 (List.mem_append_right _ w)⟩
      refine nh _ b o (nh_some.mpr ⟨t1, t2, fun w => ?_⟩) fun w => t3'.1 (List.mem_map.mpr ⟨i, hi, w.symm⟩)
      rcases List.mem_append.mp w with w | w
      · obtain ⟨m, hm, rfl⟩ := List.mem_map.mp w
        exact t3'.1 (List.mem_map.mpr ⟨m, (mem_filt.mp hm).1, rfl⟩)
      · exact t3'.2 w
end
section
variable {X : Cx} {W : WX} {e : Expr} {pos : Pos}
theorem sj_adopt {i : Nat} {x : Str} {pos' : Pos} {fe : Env' → M (D × Bool)} (hN : X.N.Nodup) (h : FJ X W e fe) (hi : X.N[i]? = some x := by rfl) (hx : Loc X.env.scope x := by first | exact .inl rfl | exact .inr rfl) (hs : swapsWith e (some (.Name x pos')) pos.line X.env = pure false := by rfl)
    (hf : X.fn x = true ∨ X.env.scope.names.lookup x = some .local := by first | exact .inl rfl | exact .inr rfl) : SJ X W (.Assign [.Name x pos'] e pos) (sAdopt i fe) := ps_imp (ps_set hN hi hx h hs hf) fun Dn σ H h => by
  obtain ⟨μ0, S0, H0, μ, S, τ, hs, h⟩ := h
  refine ⟨μ, S, τ.1, hs.env, hs.w, (h.lft hs).mono fun r μ1 S1 H1 s1 w1 h1 v a => ?_⟩
  split at h1
  · rename_i q
    obtain ⟨q1, q2⟩ := Bool.and_eq_true_iff.mp q
    have q3 := of_decide_eq_true q2
    have k := hs.set s1 w1 a q3
    obtain ⟨d, fr⟩ := r
    cases d with
    | list es =>
      have k1 : asg i (PyData.list es, fr) τ = (τ.1.set i (some (.list es)), i :: τ.2.filter (· != i)) := by
        unfold asg
        rw [if_pos q1]
      rw [k1] at k
      obtain ⟨μ', k2⟩ := k.adopt (i := i) List.mem_cons_self (es := es) (List.getElem?_set_self q3)
      refine h1 μ' _ H1 ?_
      have e1 : (τ.1.set i (some (PyData.list es))).set i (some (hnd S1.length)) = τ.1.set i (some (hnd S1.length)) := List.set_set ..
      have e2 : (i :: τ.2.filter (· != i)).filter (· != i) = τ.2.filter (· != i) := by
        rw [List.filter_cons_of_neg (by simp), List.filter_filter]
        congr 1
        funext b
        exact Bool.and_self _
      have k2 : SOk X.K μ0 S0 H0 μ' (S1 ++ [Ob.lst es]) ((τ.1.set i (some (PyData.list es))).set i (some (hnd S1.length)), (i :: τ.2.filter (· != i)).filter (· != i)) (σ.set i (some v)) H1 := k2
      rw [e1, e2] at k2
      exact k2
    | _ => exact h1.elim
  · exact h1.elim
/-! ### raise -/
/-- an own error class without an __init__ of its own -/
def ExOk (K : PySem.W.Frag) (mg : Str → Option Value) (x : Str) : Prop := ∃ C, mg x = some (.ref C) ∧ PySem.W.excIn K C [.type "ValueError", .type "Exception", .type "BaseException", .type "object"] "ValueError.__new__" = true ∧ PySem.W.keepIn K (.ref C) = true ∧
  PySem.W.subIn K (.ref C) (.type "BaseException") = some true ∧ PySem.W.typeIn K (.ref C) = some (.type "type")
def sRaise (x : Str) : Ste → M (Fl × Ste) := fun τ => M.ret (.exc ⟨x, []⟩, τ)
theorem sj_raise {x m : Str} {j : Nat} {p p2 pos2 : Pos} (hc : X.calm = true) (tk : Takes X W) (ex : ExOk X.K X.mg x) (hg : Gl X x := by rfl) (hdb : (x == ("__debug__" : Str)) = false := by decide) : SJ X W (.Raise (some (.Call (.Name x p) [.Constant (.str m) j p2] [] pos)) none pos2) (sRaise x) := by
  obtain ⟨C, gC, q, kC, s1, t1⟩ := ex
  refine ps_imp (ps_raise hc tk (pmk_own PySem.F.excBase_ValueError q gC kC (raises_own s1 t1) hg hdb)) fun Dn σ H h => ?_
  obtain ⟨μ0, S0, H0, μ, S, τ, hs, h⟩ := h
  exact h μ σ H hs (.ref C) none (.inl gC) (.inl ⟨rfl, rfl⟩)
end
/-! ### defs -/
/-- a def's meaning by its body's -/
def fnM (n : Nat) (fb : Ste → M (Fl × Ste)) : List D → M (D × Bool) := fun ds s => match fb (ds.map some ++ List.replicate (n - ds.length) none, []) s with
  | .ok (.nx, _) s' => .ok (.none, false) s'
  | .ok (.ret d fr, _) s' => .ok (d, fr) s'
  | .ok (.exc e, _) s' => .ex e s'
  | _ => .no
theorem paired_get {α β : Type} {F : α → β → Prop} : ∀ {xs : List α} {ys : List β} {i : Nat} {y : β}, Paired F xs ys → ys[i]? = some y → ∃ x, xs[i]? = some x ∧ F x y
  | _, _, _, _, .nil, e => by simp at e
  | _, _, 0, y, .cons r _, e => by
    simp at e; subst e
    exact ⟨_, rfl, r⟩
  | _, _, i + 1, y, .cons _ t, e => by
    obtain ⟨x, h1, h2⟩ := paired_get (i := i) (y := y) t (by simpa using e)
    exact ⟨x, by simpa using h1, h2⟩
section
variable {P : Program} {w : World} {K : PySem.W.Frag} {mg : Str → Option Value} {base : Heap}
theorem start_ok {K : PySem.W.Frag} {N : List Str} {vs : List V} {ds : List D} {μ : Mu} {S : Wd} {H : Hp} (w : WOk K μ S H) (a : Paired (At K μ S.length (Nh μ S.length H)) vs ds) : SOk K μ S H μ S (ds.map some ++ List.replicate (N.length - ds.length) none, []) (start N vs) H := by
  have hl := paired_len a
  refine ⟨w, w, Step.refl .., ?_, fun _ => 0, fun i hi => (by cases hi), fun i j hi => (by cases hi), fun i d _ e => ?_⟩
  · unfold start
    simp [hl]
  · have hi : i < ds.length := by
      by_cases h : i < ds.length
      · exact h
      · rw [List.getElem?_append_right (by simpa using h), List.getElem?_replicate] at e
        split at e <;> cases e
    rw [List.getElem?_append_left (by simpa using hi), List.getElem?_map] at e
    cases q : ds[i]? with
    | none => rw [q] at e; cases e
    | some d' =>
      rw [q] at e
      have e' : some (some d') = some (some d) := e
      cases e'
      obtain ⟨v, h1, h2⟩ := paired_get a q
      refine ⟨v, ?_, h2⟩
      unfold start
      rw [List.getElem?_append_left (by rw [List.length_map, hl]; exact hi), List.getElem?_map, h1]
      rfl
theorem ok_def {x qual : Str} {st : Stmt} {f : Addr} {fd : FuncData} {N ps : List Str} {k : Nat} {fb : Ste → M (Fl × Ste)} (Fn : Fun K x qual st f fd) (S : FnScope N ps (defScope st))
    (hb : ∀ (cdv : Value) (A : Around) (outer : List Env) (s : Shared) (H : Hp) (E : XK), Room k (A.deeper (envOfC qual (defScope st) s.heap.objs.size f cdv)) →
      SsJ (cxOf (L2.CX P w) P w K mg base N qual (defScope st) f cdv A outer s H E) (fun cls d _ H => E cls d H) (defBody st) fb) : FnOk P w K mg base (L2.CX P w) (k + 1) f fd ps (spD K mg ps.length (fnM N.length fb)) := by
  refine Fn.okX S (fun vs H Q E h => h.choose_spec.choose_spec.choose_spec.1) (fun cdv A outer s H vs Q E hr h => ⟨_, hb cdv A outer s H E hr, ?_⟩)
  obtain ⟨μ, Sw, ds, hl, hw, ha, h⟩ := h
  refine ⟨μ, Sw, H, μ, Sw, _, start_ok (N := N) hw ha, ?_⟩
  unfold fnM at h
  match q : fb (ds.map some ++ List.replicate (N.length - ds.length) none, []) Sw with
  | .ok (.nx, τ') S' =>
    rw [q] at h
    exact fun μ' σ' H' k => h μ' H' k.st k.w .non ⟨.inr .non, fun z => by cases z⟩
  | .ok (.ret d fr, τ') S' =>
    rw [q] at h
    exact fun μ' v H' s w r => h μ' H' s w v r
  | .ok (.exc e, τ') S' =>
    rw [q] at h
    exact fun μ' σ' H' k => h μ' H' k.st k.w
  | .ok (.brk, τ') S' => rw [q] at h; exact h.elim
  | .ok (.cnt, τ') S' => rw [q] at h; exact h.elim
  | .ex _ _ => rw [q] at h; exact h.elim
  | .no => rw [q] at h; exact h.elim
theorem cal_of {x qual : Str} {st : Stmt} {f : Addr} {fd : FuncData} {N ps : List Str} {k n : Nat} {fb : Ste → M (Fl × Ste)} (Fn : Fun K x qual st f fd) (S : FnScope N ps (defScope st)) (hn : ps.length = n) (hm : mg x = some (.ref f)) (bd : Binds K fd ps [])
    (hb : ∀ (cdv : Value) (A : Around) (outer : List Env) (s : Shared) (H : Hp) (E : XK), Room k (A.deeper (envOfC qual (defScope st) s.heap.objs.size f cdv)) →
      SsJ (cxOf (L2.CX P w) P w K mg base N qual (defScope st) f cdv A outer s H E) (fun cls d _ H => E cls d H) (defBody st) fb) : Cal P w K mg base x n (k + 1) (fnM N.length fb) := by
  subst hn
  exact ⟨f, fd, ps, rfl, ok_def Fn S hb, hm, Fn.kp, bd⟩
end
/-! ### the law's own promise -/
def spLaw (K : PySem.W.Frag) (m : Nat) : Sp := fun vs H Q _ => ∃ (a : Addr) (ns : List Int), vs = [.ref a] ∧ SqL K H a (ns.map V.int) ∧ ns.length ≤ m ∧ ∀ H', Q (.bl true) H'
theorem law_of {P : Program} {w : World} {K : PySem.W.Frag} {mg : Str → Option Value} {base : Heap} {k m : Nat} {f : Addr} {fd : FuncData} {F : List D → M (D × Bool)} {x : Str} (h : FnOk P w K mg base (L2.CX P w) k f fd [x] (spD K mg 1 F))
    (hF : ∀ ns : List Int, ns.length ≤ m → ∃ fr S', F [.list (ns.map PyData.int)] [] = .ok (.bool true, fr) S') : FnOk P w K mg base (L2.CX P w) k f fd [x] (spLaw K m) := by
  refine h.imp fun vs H Q E q => ?_
  obtain ⟨a, ns, rfl, hs, hl, q⟩ := q
  obtain ⟨fr, S', e⟩ := hF ns hl
  have hnh : Nh ⟨fun _ => 0, []⟩ ([] : Wd).length H = H := by
    funext b
    unfold Nh
    rw [if_neg (by simp)]
  refine ⟨⟨fun _ => 0, []⟩, [], [.list (ns.map PyData.int)], rfl, ⟨fun i j hi => (by cases hi), fun k o z => (by cases z), fun a ha => (by cases ha), fun k hk => (by cases hk)⟩, .cons (.inr ?_) .nil, ?_⟩
  · rw [hnh]
    exact .lst hs (dpAll_of_int ns)
  · rw [e]
    exact fun μ' H' s w v r => by rw [at_bool r.1]; exact q H'
theorem cx_no {P : Program} {w : World} {outer : List Env} {H : Hp} {s : Shared} {e : Value} {s' : Shared} (h : L2.CX P w outer H s (fun _ _ _ => False) e s') : False := by
  obtain ⟨_, _, _, _, _, _, _, _, _, _, _, _, z⟩ := h
  exact z
end DL
end L2

set_option Elab.async false
set_option linter.all false
set_option maxRecDepth 100000
/-! short words -/
namespace L2
namespace DL
open PySem PySem.Spec PyProof.Rows
section
variable {X : Cx} {W : WX} {e a b c : Expr} {es : List Expr} {fa fb fc : Env' → M D} {fs : Env' → M (List D)} {pos p : Pos} {k : Nat}
theorem u65 (hr : Room k X.A) : X.A.units + 65 < cLine := by have := hr.un; omega
theorem ej_add (ha : EJ X W a fa) (hb : EJ X W b fb) : EJ X W (.BinOp a .Add b pos) (x2 gAdd fa fb) := ej_bin (op_add.or (op_add_str.or (op_catR.or op_catA))) ops_add ha hb
theorem ej_sub (ha : EJ X W a fa) (hb : EJ X W b fb) : EJ X W (.BinOp a .Sub b pos) (x2 gSub fa fb) := ej_bin op_sub ops_sub ha hb
theorem ej_mul (ha : EJ X W a fa) (hb : EJ X W b fb) : EJ X W (.BinOp a .Mult b pos) (x2 gMul fa fb) := ej_bin op_mul ops_mul ha hb
theorem ej_fdiv (ha : EJ X W a fa) (hb : EJ X W b fb) : EJ X W (.BinOp a .FloorDiv b pos) (x2 gFdiv fa fb) := ej_bin op_fdivW ops_fdiv ha hb
theorem ej_mod (ha : EJ X W a fa) (hb : EJ X W b fb) : EJ X W (.BinOp a .Mod b pos) (x2 gMod fa fb) := ej_bin op_mod ops_mod ha hb
theorem ej_band (ha : EJ X W a fa) (hb : EJ X W b fb) : EJ X W (.BinOp a .BitAnd b pos) (x2 gAnd fa fb) := ej_bin op_and ops_and ha hb
theorem ej_bor (ha : EJ X W a fa) (hb : EJ X W b fb) : EJ X W (.BinOp a .BitOr b pos) (x2 gOr fa fb) := ej_bin op_or ops_orI ha hb
theorem ej_pow (ha : EJ X W a fa) (hb : EJ X W b fb) : EJ X W (.BinOp a .Pow b pos) (x2 gPow fa fb) := ej_bin op_pow ops_pow ha hb
theorem ej_eq (hr : Room k X.A) (ha : EJ X W a fa) (hb : EJ X W b fb) : EJ X W (.Compare a [.Eq] [b] pos) (x2 gEq fa fb) := ej_cmp (op_eqD hr.units) ops_eq ha hb
theorem ej_ne (hr : Room k X.A) (ha : EJ X W a fa) (hb : EJ X W b fb) : EJ X W (.Compare a [.NotEq] [b] pos) (x2 gNe fa fb) := ej_cmp (op_neD hr.units) ops_ne ha hb
theorem ej_lt (ha : EJ X W a fa) (hb : EJ X W b fb) : EJ X W (.Compare a [.Lt] [b] pos) (x2 gLt fa fb) := ej_cmp op_lt (ops_b _) ha hb
theorem ej_le (ha : EJ X W a fa) (hb : EJ X W b fb) : EJ X W (.Compare a [.LtE] [b] pos) (x2 gLe fa fb) := ej_cmp op_le (ops_b _) ha hb
theorem ej_gt (ha : EJ X W a fa) (hb : EJ X W b fb) : EJ X W (.Compare a [.Gt] [b] pos) (x2 gGt fa fb) := ej_cmp op_gt (ops_b _) ha hb
theorem ej_ge (ha : EJ X W a fa) (hb : EJ X W b fb) : EJ X W (.Compare a [.GtE] [b] pos) (x2 gGe fa fb) := ej_cmp op_ge (ops_b _) ha hb
theorem ej_in (hr : Room k X.A) (ha : EJ X W a fa) (hb : EJ X W b fb) (hm : behindInMarks .In b = false := by rfl) : EJ X W (.Compare a [.In] [b] pos) (x2 gIn fa fb) := ej_cmp ((op_inD (u65 hr)).or ((op_inT (u65 hr)).or op_in_str)) ops_in ha hb hm
theorem ej_nin (hr : Room k X.A) (ha : EJ X W a fa) (hb : EJ X W b fb) (hm : behindInMarks .NotIn b = false := by rfl) : EJ X W (.Compare a [.NotIn] [b] pos) (x2 gNotIn fa fb) := ej_cmp ((op_notInD (u65 hr)).or ((op_notInT (u65 hr)).or op_notin_str)) ops_notIn ha hb hm
theorem ej_isB (ha : EJ X W a fa) (hb : EJ X W b fb) : EJ X W (.Compare a [.Is] [b] pos) (x2 gIsB fa fb) := ej_cmp op_isBl ops_isB ha hb
theorem ej_notB (ha : EJ X W a fa) (hb : EJ X W b fb) : EJ X W (.Compare a [.IsNot] [b] pos) (x2 gNotB fa fb) := ej_cmp op_notBl ops_notB ha hb
theorem bj_eq (hr : Room k X.A) (ha : EJ X W a fa) (hb : EJ X W b fb) : BJ X W (.Compare a [.Eq] [b] pos) (bV (x2 gEq fa fb)) := bj_cmp (op_eqD hr.units) ops_eq ha hb
theorem bj_ne (hr : Room k X.A) (ha : EJ X W a fa) (hb : EJ X W b fb) : BJ X W (.Compare a [.NotEq] [b] pos) (bV (x2 gNe fa fb)) := bj_cmp (op_neD hr.units) ops_ne ha hb
theorem bj_lt (ha : EJ X W a fa) (hb : EJ X W b fb) : BJ X W (.Compare a [.Lt] [b] pos) (bV (x2 gLt fa fb)) := bj_cmp op_lt (ops_b _) ha hb
theorem bj_le (ha : EJ X W a fa) (hb : EJ X W b fb) : BJ X W (.Compare a [.LtE] [b] pos) (bV (x2 gLe fa fb)) := bj_cmp op_le (ops_b _) ha hb
theorem bj_gt (ha : EJ X W a fa) (hb : EJ X W b fb) : BJ X W (.Compare a [.Gt] [b] pos) (bV (x2 gGt fa fb)) := bj_cmp op_gt (ops_b _) ha hb
theorem bj_ge (ha : EJ X W a fa) (hb : EJ X W b fb) : BJ X W (.Compare a [.GtE] [b] pos) (bV (x2 gGe fa fb)) := bj_cmp op_ge (ops_b _) ha hb
theorem bj_in (hr : Room k X.A) (ha : EJ X W a fa) (hb : EJ X W b fb) (hm : behindInMarks .In b = false := by rfl) : BJ X W (.Compare a [.In] [b] pos) (bV (x2 gIn fa fb)) := bj_cmp ((op_inD (u65 hr)).or ((op_inT (u65 hr)).or op_in_str)) ops_in ha hb hm
theorem bj_nin (hr : Room k X.A) (ha : EJ X W a fa) (hb : EJ X W b fb) (hm : behindInMarks .NotIn b = false := by rfl) : BJ X W (.Compare a [.NotIn] [b] pos) (bV (x2 gNotIn fa fb)) := bj_cmp ((op_notInD (u65 hr)).or ((op_notInT (u65 hr)).or op_notin_str)) ops_notIn ha hb hm
theorem bj_isB (ha : EJ X W a fa) (hb : EJ X W b fb) : BJ X W (.Compare a [.Is] [b] pos) (bV (x2 gIsB fa fb)) := bj_cmp op_isBl ops_isB ha hb
theorem bj_notB (ha : EJ X W a fa) (hb : EJ X W b fb) : BJ X W (.Compare a [.IsNot] [b] pos) (bV (x2 gNotB fa fb)) := bj_cmp op_notBl ops_notB ha hb
/-- the operators of a chain -/
theorem o_lt : OpR X (compareOp .Lt) (rI0 fun i j => .bl (decide (i < j))) := op_lt
theorem ej_lele (ha : EJ X W a fa) (hb : EJ X W b fb) (hc : EJ X W c fc) (hm : lastMarks [.LtE, .LtE] [b, c] = false := by with_unfolding_all rfl) : EJ X W (.Compare a [.LtE, .LtE] [b, c] pos) (x3 gLe gLe fa fb fc) := ej_chain op_le op_le (ops_b _) (ops_b _) ha hb hc hm
theorem bj_lele (ha : EJ X W a fa) (hb : EJ X W b fb) (hc : EJ X W c fc) (hm : lastMarks [.LtE, .LtE] [b, c] = false := by with_unfolding_all rfl) : BJ X W (.Compare a [.LtE, .LtE] [b, c] pos) (bV (x3 gLe gLe fa fb fc)) := bj_chain op_le op_le (ops_b _) (ops_b _) ha hb hc hm
/-! calls -/
theorem c_len (hm : X.mg "len" = none) (ha : AJ X W [a] fs) (hg : Gl X "len" := by rfl) (he : starEach (a :: []) X.env = (false, eval a X.env) :: starEach [] X.env := by rfl) (hpl : (backTo pos (starEach [] X.env)).any (·.1) = false := by rfl) : EJ X W (.Call (.Name "len" p) [a] [] pos) (xCall (gO oLen) fs) := ej_callB call_len cs_len hm PySem.boot_len ha hg (by decide) (by decide) he hpl
theorem c_sum (hc : X.calm = true) (hm : X.mg "sum" = none) (ha : AJ X W [a] fs) (hg : Gl X "sum" := by rfl) (he : starEach (a :: []) X.env = (false, eval a X.env) :: starEach [] X.env := by rfl) (hpl : (backTo pos (starEach [] X.env)).any (·.1) = false := by rfl) : EJ X W (.Call (.Name "sum" p) [a] [] pos) (xCall (gO oSum) fs) := ej_callB (cr_sum hc) cs_sum hm (by decide +kernel) ha hg (by decide) (by decide) he hpl
theorem c_any (hc : X.calm = true) (hm : X.mg "any" = none) (ha : AJ X W [a] fs) (hg : Gl X "any" := by rfl) (he : starEach (a :: []) X.env = (false, eval a X.env) :: starEach [] X.env := by rfl) (hpl : (backTo pos (starEach [] X.env)).any (·.1) = false := by rfl) : EJ X W (.Call (.Name "any" p) [a] [] pos) (xCall (gO oAny) fs) := ej_callB (cr_any hc) cs_any hm (by decide +kernel) ha hg (by decide) (by decide) he hpl
theorem c_all (hc : X.calm = true) (hm : X.mg "all" = none) (ha : AJ X W [a] fs) (hg : Gl X "all" := by rfl) (he : starEach (a :: []) X.env = (false, eval a X.env) :: starEach [] X.env := by rfl) (hpl : (backTo pos (starEach [] X.env)).any (·.1) = false := by rfl) : EJ X W (.Call (.Name "all" p) [a] [] pos) (xCall (gO oAll) fs) := ej_callB (cr_all hc) cs_all hm (by decide +kernel) ha hg (by decide) (by decide) he hpl
theorem c_abs (hm : X.mg "abs" = none) (ha : AJ X W [a] fs) (hg : Gl X "abs" := by rfl) (he : starEach (a :: []) X.env = (false, eval a X.env) :: starEach [] X.env := by rfl) (hpl : (backTo pos (starEach [] X.env)).any (·.1) = false := by rfl) : EJ X W (.Call (.Name "abs" p) [a] [] pos) (xCall (gO oAbs) fs) := ej_callB call_abs cs_abs hm (by decide +kernel) ha hg (by decide) (by decide) he hpl
theorem c_max (hc : X.calm = true) (hm : X.mg "max" = none) (ha : AJ X W (a :: es) fs) (hg : Gl X "max" := by rfl) (he : starEach (a :: es) X.env = (false, eval a X.env) :: starEach es X.env := by rfl) (hpl : (backTo pos (starEach es X.env)).any (·.1) = false := by rfl) : EJ X W (.Call (.Name "max" p) (a :: es) [] pos) (xCall (gO oMax) fs) := ej_callB (cr_max2 hc) cs_max hm (by decide +kernel) ha hg (by decide) (by decide) he hpl
theorem c_min (hc : X.calm = true) (hm : X.mg "min" = none) (ha : AJ X W (a :: es) fs) (hg : Gl X "min" := by rfl) (he : starEach (a :: es) X.env = (false, eval a X.env) :: starEach es X.env := by rfl) (hpl : (backTo pos (starEach es X.env)).any (·.1) = false := by rfl) : EJ X W (.Call (.Name "min" p) (a :: es) [] pos) (xCall (gO oMin) fs) := ej_callB (cr_min2 hc) cs_min hm (by decide +kernel) ha hg (by decide) (by decide) he hpl
theorem c_int (hm : X.mg "int" = none) (ha : AJ X W [a] fs) (hg : Gl X "int" := by rfl) (he : starEach (a :: []) X.env = (false, eval a X.env) :: starEach [] X.env := by rfl) (hpl : (backTo pos (starEach [] X.env)).any (·.1) = false := by rfl) : EJ X W (.Call (.Name "int" p) [a] [] pos) (xCall (gO oInt) fs) := ej_callTy call_int1 cs_int hm (by decide +kernel) ha hg (by decide) (by decide) he hpl
theorem c_tuple (hm : X.mg "tuple" = none) (ha : AJ X W [a] fs) (hg : Gl X "tuple" := by rfl) (he : starEach (a :: []) X.env = (false, eval a X.env) :: starEach [] X.env := by rfl) (hpl : (backTo pos (starEach [] X.env)).any (·.1) = false := by rfl) : EJ X W (.Call (.Name "tuple" p) [a] [] pos) (xCall (gO oTuple) fs) := ej_callTy call_tuple_of cs_tuple hm (by decide +kernel) ha hg (by decide) (by decide) he hpl
theorem c_isInt (hm : X.mg "isinstance" = none) (hT : X.mg "int" = none) {p2 : Pos} (ha : EJ X W a fa) (hg : Gl X "isinstance" := by rfl) (hg2 : Gl X "int" := by rfl) (he : starEach (a :: [.Name "int" p2]) X.env = (false, eval a X.env) :: starEach [.Name "int" p2] X.env := by rfl) (he2 : starEach (.Name "int" p2 :: []) X.env = (false, eval (.Name "int" p2) X.env) :: starEach [] X.env := by rfl)
    (hpl : (backTo pos (starEach [.Name "int" p2] X.env)).any (·.1) = false := by rfl) : EJ X W (.Call (.Name "isinstance" p) [a, .Name "int" p2] [] pos) (x1 (gIsi tInt) fa) := ej_isi ha hm hT (by decide +kernel) tInt_ok hg hg2 (by decide) (by decide) (by decide +kernel) he he2 hpl
theorem c_isBool (hm : X.mg "isinstance" = none) (hT : X.mg "bool" = none) {p2 : Pos} (ha : EJ X W a fa) (hg : Gl X "isinstance" := by rfl) (hg2 : Gl X "bool" := by rfl) (he : starEach (a :: [.Name "bool" p2]) X.env = (false, eval a X.env) :: starEach [.Name "bool" p2] X.env := by rfl) (he2 : starEach (.Name "bool" p2 :: []) X.env = (false, eval (.Name "bool" p2) X.env) :: starEach [] X.env := by rfl)
    (hpl : (backTo pos (starEach [.Name "bool" p2] X.env)).any (·.1) = false := by rfl) : EJ X W (.Call (.Name "isinstance" p) [a, .Name "bool" p2] [] pos) (x1 (gIsi tBool) fa) := ej_isi ha hm hT (by decide +kernel) tBool_ok hg hg2 (by decide) (by decide) (by decide +kernel) he he2 hpl
theorem c_isStr (hm : X.mg "isinstance" = none) (hT : X.mg "str" = none) {p2 : Pos} (ha : EJ X W a fa) (hg : Gl X "isinstance" := by rfl) (hg2 : Gl X "str" := by rfl) (he : starEach (a :: [.Name "str" p2]) X.env = (false, eval a X.env) :: starEach [.Name "str" p2] X.env := by rfl) (he2 : starEach (.Name "str" p2 :: []) X.env = (false, eval (.Name "str" p2) X.env) :: starEach [] X.env := by rfl)
    (hpl : (backTo pos (starEach [.Name "str" p2] X.env)).any (·.1) = false := by rfl) : EJ X W (.Call (.Name "isinstance" p) [a, .Name "str" p2] [] pos) (x1 (gIsi tStr) fa) := ej_isi ha hm hT (by decide +kernel) tStr_ok hg hg2 (by decide) (by decide) (by decide +kernel) he he2 hpl
theorem c_isTuple (hm : X.mg "isinstance" = none) (hT : X.mg "tuple" = none) {p2 : Pos} (ha : EJ X W a fa) (hg : Gl X "isinstance" := by rfl) (hg2 : Gl X "tuple" := by rfl) (he : starEach (a :: [.Name "tuple" p2]) X.env = (false, eval a X.env) :: starEach [.Name "tuple" p2] X.env := by rfl) (he2 : starEach (.Name "tuple" p2 :: []) X.env = (false, eval (.Name "tuple" p2) X.env) :: starEach [] X.env := by rfl)
    (hpl : (backTo pos (starEach [.Name "tuple" p2] X.env)).any (·.1) = false := by rfl) : EJ X W (.Call (.Name "isinstance" p) [a, .Name "tuple" p2] [] pos) (x1 (gIsi tTuple) fa) := ej_isi ha hm hT (by decide +kernel) tTuple_ok hg hg2 (by decide) (by decide) (by decide +kernel) he he2 hpl
theorem c_isList (hm : X.mg "isinstance" = none) (hT : X.mg "list" = none) {p2 : Pos} (ha : EJ X W a fa) (hg : Gl X "isinstance" := by rfl) (hg2 : Gl X "list" := by rfl) (he : starEach (a :: [.Name "list" p2]) X.env = (false, eval a X.env) :: starEach [.Name "list" p2] X.env := by rfl) (he2 : starEach (.Name "list" p2 :: []) X.env = (false, eval (.Name "list" p2) X.env) :: starEach [] X.env := by rfl)
    (hpl : (backTo pos (starEach [.Name "list" p2] X.env)).any (·.1) = false := by rfl) : EJ X W (.Call (.Name "isinstance" p) [a, .Name "list" p2] [] pos) (x1 (gIsi tList) fa) := ej_isi ha hm hT (by decide +kernel) tList_ok hg hg2 (by decide) (by decide) (by decide +kernel) he he2 hpl
theorem hp_of {CX : Value → Shared → Prop} {E₁ : Value → Shared → Prop} (hx : X.xe = fun e s' => wpAny (model X.prog X.w) X.A (leaving X.env e) (fun _ s'' => CX e s'') E₁ s') : PassesOwn (model X.prog X.w) X.A X.env X.xe := passes_of hx
end
end DL
end L2

set_option Elab.async false
set_option linter.all false
set_option maxRecDepth 100000
/-! set(xs) of a list of ints; sorted of it; of any length -/
namespace L2
namespace DL
open PySem PySem.Spec PyProof.Rows
/-- a set object as it is made -/
abbrev newSet (w : World) : Obj := { cls := .type "set", dict := none, data := .set #[] 0 (.fresh 0 0 (!w.params.followText "set-order")) }
section
variable {P : Program} {w : World} {A : Around} {E : Value → Shared → Prop} {s : Shared}
/-- no more distinct ones among ns than m -/
def Few (ns : List Int) (m : Nat) : Prop := ∀ ks : List Int, ks.Nodup → (∀ k, k ∈ ks → k ∈ ns) → ks.length ≤ m
theorem setR_few {h : Heap} {a : Addr} {S : Int → Bool} {c m : Nat} {ns : List Int} (R : SetR w h a S c) (f : Few ns m) (hs : ∀ k, S k = true → k ∈ ns) : c ≤ m := by
  obtain ⟨o, es, ep, t, ho, hex, hd, g, nd, hm, hb, hf, hn, hr, hl⟩ := R
  have := f (es.toList.map keyOf) nd fun k hk => hs k ((hm k).2 hk)
  rw [List.length_map, Array.length_toList, hn] at this
  exact this
theorem upd_loop {I : Addr} {fp wr : List Addr} {G : Array GenState → Array GenState → Prop} {n : Nat} {Pv : Nat → Value → Prop} {St : Nat → Shared → Prop} {R : Result → Shared → Prop}
    (W : WalksS P w A.in1 I fp wr G n Pv St) (S : Addr) (hSf : S ∉ fp) (ns : List Int) (hn : n = ns.length) {m : Nat} (fw : Few ns m) (hb : m + 1 < scanBound) (hval : ∀ i v, Pv i v → ∃ k t, ns[i]? = some k ∧ v = .int k t)
    (hR : ∀ s' c, Moved (S :: wr) G s s' → SetR w s'.heap S (fun j => decide (j ∈ ns)) c → R (.ok (.ret .none)) s') (hst : St 0 s) (hS : SetR w s.heap S (fun _ => false) 0) :
    codeAny (model P w) A (.builtin "set.update.loop" ⟨[.ref S, .ref I], []⟩) R s := by
  have hSw : S ∉ wr := fun h => hSf (W.sub _ h)
  have up : ∀ b, b ∈ wr → b ∈ S :: wr := fun b hb => List.mem_cons_of_mem _ hb
  -- from turn i on
  have main : ∀ (k i : Nat) (s : Shared), n - i = k → i ≤ n → St i s → (∃ c, SetR w s.heap S (fun j => decide (j ∈ ns.take i)) c) →
      (∀ s' c, Moved (S :: wr) G s s' → SetR w s'.heap S (fun j => decide (j ∈ ns)) c → R (.ok (.ret .none)) s') → codeAny (model P w) A (.builtin "set.update.loop" ⟨[.ref S, .ref I], []⟩) R s := by
    intro k
    induction k with
    | zero =>
      intro i s0 hk hi st ⟨c, hc⟩ q
      have hin : i = n := by omega
      subst hin
      refine codeAny_builtin F.entry_set_update_loop ?_
      rw [Around.under_plainId F.plain_set_update_loop _]
      refine wpAny_bind (W.done s0 _ _ st fun s1 mv => wpAny_pure (q s1 c (mv.mono up) ?_))
      rw [List.take_of_length_le (by omega)] at hc
      exact hc.at fun o e => mv.heap S o hSw e
    | succ k ih =>
      intro i s0 hk hi st ⟨c, hc⟩ q
      have hlt : i < n := by omega
      refine codeAny_builtin F.entry_set_update_loop ?_
      rw [Around.under_plainId F.plain_set_update_loop _]
      refine wpAny_bind (W.item i s0 _ _ hlt st fun v s1 hP st1 mv => ?_)
      obtain ⟨z, t, hz, rfl⟩ := hval i v hP
      have hc1 : SetR w s1.heap S (fun j => decide (j ∈ ns.take i)) c := hc.at fun o e => mv.heap S o hSw e
      refine wpAny_bind (wpAny_holding ?_)
      unfold setAdd
      refine wpAny_holding (wpAny_bind ((intKind P w).pyHash (k := z) (intKind_is _ _ _ _) ?_))
      have room : c + 1 < scanBound := by
        have := setR_few hc1 fw fun k hk => List.mem_of_mem_take (of_decide_eq_true hk)
        omega
      refine setR_add_hashed (s := { s1 with toks := s1.toks + 1 }) hc1 room fun h2 sb hS2 => ?_
      have hS3 : SetR w h2 S (fun j => decide (j ∈ ns.take (i + 1))) _ := hS2.congr fun j => by
        rw [List.take_add_one, hz]
        simp [List.mem_append]
      have other : ∀ b, b ≠ S → ∀ o, s1.heap.get? b = some o → h2.get? b = some o := fun b hb o e => by rw [sb.2 b hb]; exact e
      refine wpAny_pure ⟨plainId_quiet F.plain_set_update_loop _, ih (i + 1) _ (by omega) hlt (W.frame _ s1 _ _ st1 (Nat.le_succ _) fun b hb o e => other b (fun h => hSf (by rw [← h]; exact hb)) o e) ⟨_, hS3⟩ fun s3 c3 mv3 hS4 => ?_⟩
      exact q s3 c3 (Moved.trans W.gtrans ((mv.mono up).then_heap (Nat.le_succ _) fun b o hb e => other b (fun h => hb (by rw [h]; exact List.mem_cons_self)) o e) mv3) hS4
  exact main (n - 0) 0 s rfl (Nat.zero_le _) hst ⟨0, hS.congr fun k => by simp⟩ hR
set_option maxHeartbeats 3200000 in
/-- set(l), l a list: by what its update loop does with the new set -/
theorem set_of_list {l : Addr} {items : Array Value} {Q : Value → Shared → Prop} {Z : Shared → Prop} (hl : s.heap.IsList l items)
    (loop : ∀ (A' : Around) (R : Result → Shared → Prop), A'.handled = A.handled → (∀ s', Z s' → R (.ok (.ret .none)) s') →
      codeAny (model P w) A' (.builtin "set.update.loop" ⟨[.ref s.heap.objs.size, .ref (s.heap.objs.size + 1)], []⟩) R { s with heap := (s.heap.push (newSet w)).push { cls := .type "list_iterator", data := .fields #[.ref l, .int 0 0] } })
    (h : ∀ s', Z s' → Q (.ref s.heap.objs.size) s') : wpAny (model P w) A (call (.type "set") [.ref l]) Q E s := by
  obtain ⟨c, tl, hmro⟩ := F.called_set.mro
  have hmade := F.called_set.made
  have hsub := F.called_set.sub
  refine wpAny_call (codeAny_of_tree ?_)
  show wpAny _ _ (callAny (.type "set") _) _ _ _
  refine wpAny_pure ⟨Code.quiet_builtin _ (by decide +kernel), codeAny_builtin F.entry_type_call ?_⟩
  rw [Around.under_plain (weight_type_call_type "set" [.ref l] []) rfl]
  have t1 := F.called_set.notType
  have t2 := F.called_set.canCreate
  have t3 := F.typeCall_set_1 (.ref l)
  repeat (any_goals (first | assumption | wp_step))
  refine codeAny_mono (code_set_led1 (.ref l) (E := E) (Q₁ := fun obj s₁ => obj = .ref s.heap.objs.size ∧ s₁ = { s with heap := s.heap.push (newSet w) }) ⟨rfl, rfl⟩) fun r s₁ hr => ?_
  match r, hr with
  | .ok (.ret obj), hr =>
    obtain ⟨rfl, rfl⟩ := hr
    have hS : (s.heap.push (newSet w)).get? s.heap.objs.size = some (newSet w) := Heap.get?_push_size _ rfl
    have hT : Shared.TypeIs { s with heap := s.heap.push (newSet w) } (.ref s.heap.objs.size) "set" := ⟨_, hS, rfl⟩
    have i1 := F.called_set.init.lookup
    have i2 := F.called_set.init.bind (.ref s.heap.objs.size)
    repeat (any_goals (first | assumption | wp_step))
    refine codeAny_mono (codeAny_call_builtin (R := wants (fun r s₂ => r = .none ∧ Z s₂) E) F.called_set.init.plain F.entry_set_init (check_set_init_1 hT ?_)) fun r₂ s₂ hr₂ => ?_
    · obtain ⟨⟨cl, dd, dt, sl⟩, ho, hc, nl, hd⟩ := hl
      simp only at hc hd
      subst hc hd
      have ho' : (s.heap.push (newSet w)).get? l = some { cls := .type "list", dict := dd, data := .seq items nl, slots := sl } := Heap.get?_push_of_some _ ho
      have u1 := F.sub_list_set
      have u2 := F.sub_list_frozenset
      have u3 : (Value.type "list" == Value.type "dict") = false := by decide
      have hl1 : (s.heap.push (newSet w)).IsList l items := ⟨_, ho', rfl, nl, rfl⟩
      unfold Builtin.«set.__init__» noKeywords Builtin.Frozenset.updateFrom
      generalize hPI : pyIter = PI
      wp_walk
      subst hPI
      refine wpAny_pyIter_list hl1 (wpAny_bind (wpAny_runValue ?_))
      have hsz : (s.heap.push (newSet w)).objs.size = s.heap.objs.size + 1 := Heap.size_push ..
      show codeAny _ _ (.builtin "set.update.loop" ⟨[.ref s.heap.objs.size, .ref (s.heap.push (newSet w)).objs.size], []⟩) _ _
      rw [hsz]
      refine loop _ _ rfl fun s' z => ?_
      exact wpAny_pure (wpAny_pure ⟨rfl, z⟩)
    · match r₂, hr₂ with
      | .ok (.ret r), hr₂ =>
        obtain ⟨rfl, z⟩ := hr₂
        repeat (any_goals (first | assumption | wp_step))
        exact h _ z
      | .ok .next, hr₂ => exact hr₂.elim
      | .ok .brk, hr₂ => exact hr₂.elim
      | .ok .cont, hr₂ => exact hr₂.elim
      | .error e, hr₂ => exact hr₂
  | .ok .next, hr => exact hr.elim
  | .ok .brk, hr => exact hr.elim
  | .ok .cont, hr => exact hr.elim
  | .error e, hr => exact hr
end
end DL
end L2

set_option Elab.async false
set_option linter.all false
set_option maxRecDepth 100000
/-! sorted of lists of tuples, any number of them -/
namespace L2
namespace DL
open PySem PySem.Spec PyProof.Rows
/-! ### putting in order -/
section
variable {α : Type} (lt : α → α → Bool)
def insG (x : α) : List α → List α
  | [] => [x]
  | y :: ys => if lt y x = true then y :: insG x ys else x :: y :: ys
def srtG : List α → List α
  | [] => []
  | x :: xs => insG lt x (srtG xs)
/-- x put into an ascending list, but once -/
def insU (x : α) : List α → List α
  | [] => [x]
  | y :: ys => if lt y x = true then y :: insU x ys else if lt x y = true then x :: y :: ys else y :: ys
def srtU : List α → List α
  | [] => []
  | x :: xs => insU lt x (srtU xs)
/-- a strict total order -/
structure Tot : Prop where
  irr : ∀ x, lt x x = false
  tr : ∀ x y z, lt x y = true → lt y z = true → lt x z = true
  tot : ∀ x y, lt x y = false → lt y x = false → x = y
variable {lt}
theorem Tot.asym (T : Tot lt) {x y : α} (h : lt x y = true) : lt y x = false := by
  cases q : lt y x with
  | false => rfl
  | true => have := T.tr _ _ _ h q; rw [T.irr] at this; cases this
theorem Tot.cmp (T : Tot lt) (x y : α) : lt x y = true ∨ x = y ∨ lt y x = true := by
  cases h : lt x y with
  | true => exact .inl rfl
  | false =>
    cases q : lt y x with
    | true => exact .inr (.inr rfl)
    | false => exact .inr (.inl (T.tot _ _ h q))
theorem insG_perm (x : α) : ∀ l : List α, (insG lt x l).Perm (x :: l)
  | [] => List.Perm.refl _
  | y :: ys => by
    show (if lt y x = true then y :: insG lt x ys else x :: y :: ys).Perm _
    split
    · exact ((insG_perm x ys).cons y).trans (List.Perm.swap ..)
    · exact List.Perm.refl _
theorem srtG_perm : ∀ l : List α, (srtG lt l).Perm l
  | [] => List.Perm.refl _
  | x :: xs => (insG_perm x _).trans ((srtG_perm xs).cons x)
theorem insG_sorted (T : Tot lt) (x : α) : ∀ {l : List α}, l.Pairwise (fun a b => lt b a = false) → (insG lt x l).Pairwise (fun a b => lt b a = false)
  | [], _ => List.pairwise_singleton _ _
  | y :: ys, h => by
    obtain ⟨h1, h2⟩ := List.pairwise_cons.mp h
    show (if lt y x = true then y :: insG lt x ys else x :: y :: ys).Pairwise _
    split
    · rename_i q
      refine List.pairwise_cons.mpr ⟨fun z hz => ?_, insG_sorted T x h2⟩
      rcases List.mem_cons.mp ((insG_perm x ys).mem_iff.mp hz) with rfl | hz
      · exact T.asym q
      · exact h1 z hz
    · rename_i q
      have q' : lt y x = false := by simpa using q
      refine List.pairwise_cons.mpr ⟨fun z hz => ?_, h⟩
      rcases List.mem_cons.mp hz with rfl | hz
      · exact q'
      · have h3 := h1 z hz
        cases c : lt z x with
        | false => rfl
        | true =>
          rcases T.cmp y x with k | rfl | k
          · rw [k] at q'; cases q'
          · rw [c] at h3; cases h3
          · rw [T.tr _ _ _ c k] at h3; cases h3
theorem srtG_sorted (T : Tot lt) : ∀ l : List α, (srtG lt l).Pairwise (fun a b => lt b a = false)
  | [] => List.Pairwise.nil
  | x :: xs => insG_sorted T x (srtG_sorted T xs)
theorem srtG_uniq (T : Tot lt) {l m : List α} (p : l.Perm m) (s : l.Pairwise (fun a b => lt b a = false)) : l = srtG lt m :=
  (List.Perm.eq_of_pairwise (le := fun a b => lt b a = false) (fun a b _ _ h1 h2 => T.tot _ _ h2 h1) s (srtG_sorted T m) (p.trans (srtG_perm m).symm))
theorem insU_mem (x : α) (T : Tot lt) : ∀ (l : List α) (z : α), z ∈ insU lt x l ↔ z = x ∨ z ∈ l
  | [], z => by simp [insU]
  | y :: ys, z => by
    show z ∈ (if lt y x = true then y :: insU lt x ys else if lt x y = true then x :: y :: ys else y :: ys) ↔ _
    split
    · rw [List.mem_cons, insU_mem x T ys z, List.mem_cons]
      constructor
      · rintro (h | h | h) <;> simp [h]
      · rintro (h | h | h) <;> simp [h]
    · split
      · simp [List.mem_cons]
      · rename_i q1 q2
        have e : y = x := T.tot _ _ (by simpa using q1) (by simpa using q2)
        subst e
        simp [List.mem_cons]
theorem insU_sorted (T : Tot lt) (x : α) : ∀ {l : List α}, l.Pairwise (fun a b => lt a b = true) → (insU lt x l).Pairwise (fun a b => lt a b = true)
  | [], _ => List.pairwise_singleton _ _
  | y :: ys, h => by
    obtain ⟨h1, h2⟩ := List.pairwise_cons.mp h
    show (if lt y x = true then y :: insU lt x ys else if lt x y = true then x :: y :: ys else y :: ys).Pairwise _
    split
    · rename_i q
      refine List.pairwise_cons.mpr ⟨fun z hz => ?_, insU_sorted T x h2⟩
      rcases (insU_mem x T ys z).mp hz with rfl | hz
      · exact q
      · exact h1 z hz
    · split
      · rename_i q
        refine List.pairwise_cons.mpr ⟨fun z hz => ?_, h⟩
        rcases List.mem_cons.mp hz with rfl | hz
        · exact q
        · exact T.tr _ _ _ q (h1 z hz)
      · exact h
theorem srtU_mem (T : Tot lt) : ∀ (l : List α) (z : α), z ∈ srtU lt l ↔ z ∈ l
  | [], z => Iff.rfl
  | x :: xs, z => by
    show z ∈ insU lt x (srtU lt xs) ↔ _
    rw [insU_mem x T, srtU_mem T xs, List.mem_cons]
theorem srtU_sorted (T : Tot lt) : ∀ l : List α, (srtU lt l).Pairwise (fun a b => lt a b = true)
  | [] => List.Pairwise.nil
  | x :: xs => insU_sorted T x (srtU_sorted T xs)
theorem strict_nodup (T : Tot lt) {l : List α} (h : l.Pairwise (fun a b => lt a b = true)) : l.Nodup :=
  h.imp fun {a b} q e => by subst e; rw [T.irr] at q; cases q
/-- a list without doubles, put in order, is the ascending list of what it holds -/
theorem srtU_uniq (T : Tot lt) {l m : List α} (nd : l.Nodup) (hm : ∀ z, z ∈ l ↔ z ∈ m) (s : l.Pairwise (fun a b => lt b a = false)) : l = srtU lt m := by
  have s2 : (srtU lt m).Pairwise (fun a b => lt b a = false) := (srtU_sorted T m).imp fun {a b} q => T.asym q
  refine List.Perm.eq_of_pairwise (le := fun a b => lt b a = false) (fun a b _ _ h1 h2 => T.tot _ _ h2 h1) s s2 ?_
  classical
  exact (List.perm_ext_iff_of_nodup nd (strict_nodup T (srtU_sorted T m))).mpr fun z => (hm z).trans (srtU_mem T m z).symm
end
def ltI (a b : Int) : Bool := decide (a < b)
theorem tot_int : Tot ltI := ⟨fun x => decide_eq_false (Int.lt_irrefl x), fun x y z h1 h2 => decide_eq_true (Int.lt_trans (of_decide_eq_true h1) (of_decide_eq_true h2)), fun x y h1 h2 => by
  have a := of_decide_eq_false h1
  have b := of_decide_eq_false h2
  omega⟩
theorem lexLt_irr : ∀ x : List Int, HT.lexLt x x = false
  | [] => rfl
  | a :: as => by rw [HT.lexLt_cons, if_pos rfl]; exact lexLt_irr as
theorem lexLt_tr : ∀ x y z : List Int, HT.lexLt x y = true → HT.lexLt y z = true → HT.lexLt x z = true
  | [], [], _, h, _ => by cases h
  | [], _ :: _, [], _, h => by cases h
  | [], _ :: _, _ :: _, _, _ => rfl
  | _ :: _, [], _, h, _ => by cases h
  | _ :: _, _ :: _, [], _, h => by cases h
  | a :: as, b :: bs, c :: cs, h1, h2 => by
    rw [HT.lexLt_cons] at h1 h2 ⊢
    split at h1 <;> split at h2
    · rename_i e1 e2; subst e1; subst e2
      rw [if_pos rfl]; exact lexLt_tr as bs cs h1 h2
    · rename_i e1 e2; subst e1
      rw [if_neg e2]; exact h2
    · rename_i e1 e2; subst e2
      rw [if_neg e1]; exact h1
    · have a1 := of_decide_eq_true h1
      have a2 := of_decide_eq_true h2
      rw [if_neg (by omega)]
      exact decide_eq_true (by omega)
theorem lexLt_tot : ∀ x y : List Int, HT.lexLt x y = false → HT.lexLt y x = false → x = y
  | [], [], _, _ => rfl
  | [], _ :: _, h, _ => by cases h
  | _ :: _, [], _, h => by cases h
  | a :: as, b :: bs, h1, h2 => by
    rw [HT.lexLt_cons] at h1 h2
    by_cases e : a = b
    · subst e
      rw [if_pos rfl] at h1 h2
      rw [lexLt_tot as bs h1 h2]
    · rw [if_neg e] at h1
      rw [if_neg (fun z => e z.symm)] at h2
      have a1 := of_decide_eq_false h1
      have a2 := of_decide_eq_false h2
      omega
theorem tot_lex : Tot HT.lexLt := ⟨lexLt_irr, lexLt_tr, lexLt_tot⟩
theorem Tot.swo {α β : Type} {lt : α → α → Bool} (T : Tot lt) (k : β → α) : SrtO.Swo fun v u => lt (k v) (k u) :=
  ⟨fun x y h => T.asym h, fun x y z h1 h2 => by
    show lt (k z) (k x) = false
    have h1' : lt (k y) (k x) = false := h1
    have h2' : lt (k z) (k y) = false := h2
    cases c : lt (k z) (k x) with
    | false => rfl
    | true =>
      rcases T.cmp (k y) (k x) with q | q | q
      · rw [q] at h1'; cases h1'
      · rw [q, c] at h2'; cases h2'
      · rw [T.tr _ _ _ c q] at h2'; cases h2'⟩

/-! ### keys of values -/
/-- how values are keyed by lists of ints, and compare so -/
structure Keyer (KX : Heap → Value → List Int → Prop) : Prop where
  keeps : ∀ {h h' : Heap} {v : Value} {ns : List Int}, KX h v ns → (∀ b o, h.get? b = some o → o.cls = .type "tuple" → h'.get? b = some o) → KX h' v ns
  uniq : ∀ {h : Heap} {v : Value} {ns ms : List Int}, KX h v ns → KX h v ms → ns = ms
  isRef : ∀ {h : Heap} {v : Value} {ns : List Int}, KX h v ns → ∃ a, v = .ref a
  first : ∀ {h : Heap} {v : Value} {ns : List Int}, KX h v ns → ∃ a o xs n i t, v = .ref a ∧ h.get? a = some o ∧ o.cls = .type "tuple" ∧ o.data = .seq xs n ∧ xs[0]? = some (.int i t)
  cmp : ∀ {prog : Program} {w : World} {A : Around} {s : Shared} {v u : Value} {ns ms : List Int} {Q : Bool → Shared → Prop} {E : Value → Shared → Prop}, A.units + 8 < cLine → KX s.heap v ns → KX s.heap u ms → Q (HT.lexLt ns ms) s →
    wpAny (model prog w) A (keyLt' (tuples' true) v u) Q E s
def KI (h : Heap) (v : Value) (ns : List Int) : Prop := TS.TupInts h v ns ∧ ns ≠ []
def KP (h : Heap) (v : Value) (ns : List Int) : Prop := ∃ a o t u n i ms, v = .ref a ∧ h.get? a = some o ∧ o.cls = .type "tuple" ∧ o.data = .seq #[.int i t, u] n ∧ TS.TupInts h u ms ∧ ns = i :: ms
theorem lex_lists {prog : Program} {w : World} {A : Around} {s : Shared} {b fin : Bool} {Q : Bool → Shared → Prop} : ∀ {xs ys : List Value} {ns ms : List Int} (i : Nat), IntsAre xs ns → IntsAre ys ms → fin = decide (xs.length < ys.length) → Q (HT.lexLt ns ms) s →
    PySem.W.KatLex prog w A b fin Q (xs.zip ys) i s
  | _, _, _, _, _, .nil, .nil, e, h => by subst e; exact PySem.W.kat_nil h
  | _, _, _, _, _, .nil, .cons _ _ _, e, h => by subst e; exact PySem.W.kat_nil h
  | _, _, _, _, _, .cons _ _ _, .nil, e, h => by subst e; exact PySem.W.kat_nil h
  | _, _, _, _, i, .cons p t hx, .cons q u hy, e, h => by
    refine PySem.W.kat_cons (wpAny_eqBool_int ?_)
    rw [HT.lexLt_cons] at h
    by_cases e1 : p = q
    · subst e1
      rw [if_pos rfl] at h
      rw [beq_self_eq_true]
      refine PySem.W.kat_yes (lex_lists (i + 1) hx hy ?_ h)
      rw [e]; simp
    · rw [if_neg e1] at h
      rw [show (p == q) = false from beq_eq_false_iff_ne.mpr e1]
      exact PySem.W.kat_no (TS.oneLt_ints _ h)
theorem keyer_KI : Keyer KI where
  keeps := fun x k => ⟨x.1.keeps k, x.2⟩
  uniq := fun x y => x.1.ints.symm.trans y.1.ints
  isRef := fun ⟨⟨a, _, e, _⟩, _⟩ => ⟨a, e⟩
  first := fun {h v ns} ⟨⟨a, xs, e, ⟨o, ho, hc, n, hd⟩, i⟩, ne⟩ => by
    obtain ⟨xl⟩ := xs
    cases i with
    | nil => exact absurd rfl ne
    | cons m t r => exact ⟨a, o, _, n, m, t, e, ho, hc, hd, rfl⟩
  cmp := fun {prog w A s v u ns ms Q E} hu ⟨⟨a, xs, e, ⟨o, ho, hc, n, hd⟩, i⟩, ne⟩ ⟨⟨a', xs', e', ⟨o', ho', hc', n', hd'⟩, i'⟩, ne'⟩ q => by
    subst e; subst e'
    exact PySem.W.kat_lt ho hd ho' hd' (lex_lists 0 i i' (by simp) q)
theorem readsAll_of_ints {h : Heap} : ∀ {vs : List Value} {ns : List Int}, IntsAre vs ns → ReadsAll h vs (ns.map PyData.int) []
  | _, _, .nil => .nil
  | _, _, .cons i t r => ReadsAll.cons (as := []) (bs := []) (.int i t) (readsAll_of_ints r)
theorem reads_tupInts {h : Heap} {v : Value} {ns : List Int} (x : TS.TupInts h v ns) : Reads h v (.tuple (ns.map PyData.int)) [] := by
  obtain ⟨a, xs, rfl, ⟨o, ho, hc, n, hd⟩, i⟩ := x
  exact .tuple ho hc hd (readsAll_of_ints i)
theorem eqvAll_ints : ∀ ns ms : List Int, PyData.eqvAll (ns.map PyData.int) (ms.map PyData.int) = decide (ns = ms)
  | [], [] => by simp [PyData.eqvAll]
  | [], _ :: _ => by simp [PyData.eqvAll]
  | _ :: _, [] => by simp [PyData.eqvAll]
  | n :: ns, m :: ms => by
    simp only [List.map_cons, PyData.eqvAll, eqvAll_ints ns ms, PyData.eqv]
    by_cases e : n = m <;> by_cases e2 : ns = ms <;> simp [e, e2]
theorem eqv_ints (ns ms : List Int) : PyData.eqv (.tuple (ns.map PyData.int)) (.tuple (ms.map PyData.int)) = decide (ns = ms) := by
  simp only [PyData.eqv]
  exact eqvAll_ints ns ms
theorem canAll_ints : ∀ ns : List Int, PyData.canLayAll0 (ns.map PyData.int) = true
  | [] => rfl
  | n :: ns => by simp only [List.map_cons, PyData.canLayAll0, canAll_ints ns]; rfl
theorem depthAll_ints : ∀ ns : List Int, PyData.depthAll (ns.map PyData.int) ≤ 1
  | [] => by simp [PyData.depthAll]
  | n :: ns => by
    have := depthAll_ints ns
    simp only [List.map_cons, PyData.depthAll, PyData.depth]
    omega
theorem keyer_KP : Keyer KP where
  keeps := fun ⟨a, o, t, u, n, i, ms, e, ho, hc, hd, x, e2⟩ k => ⟨a, o, t, u, n, i, ms, e, k _ _ ho hc, hc, hd, x.keeps k, e2⟩
  uniq := fun {h v ns ms'} ⟨a, o, t, u, n, i, ms, e, ho, hc, hd, x, e2⟩ ⟨a', o', t', u', n', i', ms', e', ho', hc', hd', x', e2'⟩ => by
    subst e
    cases e'
    cases ho.symm.trans ho'
    have := hd.symm.trans hd'
    injection this with z1 z2
    injection z1 with z1
    simp only [List.cons.injEq, Value.int.injEq, and_true] at z1
    obtain ⟨⟨rfl, rfl⟩, rfl⟩ := z1
    rw [e2, e2', x.ints.symm.trans x'.ints]
  isRef := fun ⟨a, _, _, _, _, _, _, e, _⟩ => ⟨a, e⟩
  first := fun ⟨a, o, t, u, n, i, ms, e, ho, hc, hd, x, e2⟩ => ⟨a, o, _, n, i, t, e, ho, hc, hd, rfl⟩
  cmp := fun {prog w A s v v' ns ms' Q E} hu ⟨a, o, t, u, n, i, ms, e, ho, hc, hd, x, e2⟩ ⟨a', o', t', u', n', i', ms', e', ho', hc', hd', x', e2'⟩ q => by
    subst e; subst e'; subst e2; subst e2'
    refine PySem.W.kat_lt ho hd ho' hd' ?_
    show PySem.W.KatLex prog w A true (decide (2 < 2)) _ [(.int i t, .int i' t'), (u, u')] 0 s
    rw [HT.lexLt_cons] at q
    refine PySem.W.kat_cons (SeqAt.EqAt.int_int i t i' t' prog w _ _ ?_)
    refine PySem.W.kat_go (fun e1 => ?_) (fun e1 => ?_)
    · have ex : i = i' := by simpa using e1
      rw [if_pos ex] at q
      have eq := SeqAt.eqAt_reads _ _ A s u u' _ _ (reads_tupInts x) (reads_tupInts x') (by simp only [PyData.canLay0]; exact canAll_ints ms) (by simp only [PyData.canLay0]; exact canAll_ints ms') (by
        have d1 := depthAll_ints ms
        have d2 := depthAll_ints ms'
        simp only [PyData.depth]
        omega)
      rw [eqv_ints] at eq
      refine PySem.W.kat_yes (PySem.W.kat_cons (eq prog w _ _ ?_))
      refine PySem.W.kat_go (fun e2 => ?_) (fun e2 => ?_)
      · have ey : ms = ms' := of_decide_eq_true e2
        subst ey
        rw [lexLt_irr] at q
        exact PySem.W.kat_yes (PySem.W.kat_nil q)
      · obtain ⟨b, xs, rfl, it, hi⟩ := x
        obtain ⟨b', xs', rfl, it', hi'⟩ := x'
        exact PySem.W.kat_no (PySem.W.kat_one _ _ (HT.lt_tupInts it it' hi hi' (by omega) q))
    · have ex : ¬ i = i' := by simpa using e1
      rw [if_neg ex] at q
      exact PySem.W.kat_no (oneLt_int q)
/-- the key itself -/
noncomputable def keyV (KX : Heap → Value → List Int → Prop) (h : Heap) (v : Value) : List Int := by
  classical exact if q : ∃ ns, KX h v ns then Classical.choose q else []
theorem keyV_eq {KX : Heap → Value → List Int → Prop} (Y : Keyer KX) {h : Heap} {v : Value} {ns : List Int} (x : KX h v ns) : keyV KX h v = ns := by
  unfold keyV
  have q : ∃ ns, KX h v ns := ⟨ns, x⟩
  rw [dif_pos q]
  exact Y.uniq (Classical.choose_spec q) x
section
variable {prog : Program} {w : World} {A : Around} {E : Value → Shared → Prop} {s : Shared} {KX : Heap → Value → List Int → Prop}
theorem firsts_keyed (Y : Keyer KX) {h : Heap} : ∀ {vs : List Value}, (∀ v ∈ vs, ∃ ns, KX h v ns) → ∃ fs : List Value, PySem.W.KatTups h vs fs ∧ fs.length = vs.length ∧ ∀ f ∈ fs, ∃ x t, f = Value.int x t
  | [], _ => ⟨[], PySem.W.KatTups.nil, rfl, fun _ hm => by simp at hm⟩
  | v :: vs, hp => by
    obtain ⟨fs, h1, h2, h3⟩ := firsts_keyed Y (vs := vs) fun v' hm => hp v' (List.mem_cons_of_mem _ hm)
    obtain ⟨ns, x⟩ := hp v (List.mem_cons_self ..)
    obtain ⟨a, o, xs, n, i, t, e, ho, hc, hd, hf⟩ := Y.first x
    subst e
    refine ⟨.int i t :: fs, PySem.W.KatTups.cons ho hc hd hf h1, by rw [List.length_cons, List.length_cons, h2], fun f hm => ?_⟩
    rcases List.mem_cons.mp hm with rfl | hm
    · exact ⟨i, t, rfl⟩
    · exact h3 f hm
theorem keyed_sortable (Y : Keyer KX) (hu : A.units + 8 < cLine) {h0 : Heap} {a : Addr} {vs : List Value} (hn : 0 < vs.length) (hp : ∀ v ∈ vs, ∃ ns, KX h0 v ns) (h0s : ∀ b o, h0.get? b = some o → s.heap.get? b = some o) (ha : ∀ o, s.heap.get? a = some o → o.cls ≠ .type "tuple") :
    SrtO.SortableO prog w A s a vs fun v u => HT.lexLt (keyV KX h0 v) (keyV KX h0 u) := by
  intro h' keep
  have hp' : ∀ v ∈ vs, KX h' v (keyV KX h0 v) := fun v hm => by
    obtain ⟨ns, x⟩ := hp v hm
    rw [keyV_eq Y x]
    refine Y.keeps x fun b o e c => keep b o (fun z => ?_) (h0s b o e)
    subst z
    exact ha o (h0s _ _ e) c
  obtain ⟨fs, h1, h2, h3⟩ := firsts_keyed Y fun v hm => ⟨_, hp' v hm⟩
  refine ⟨tuples' true, fun Q E hq => ?_, fun p q hm hm' => ?_⟩
  · refine PySem.W.kat_kind (T := .type "int") h1 (by omega) (fun f hm => ?_) (by rfl) ?_
    · obtain ⟨x, t, rfl⟩ := h3 f hm
      exact PySem.W.Looks.now
    · have e : (Value.type "int" != Value.type "tuple") = true := by first | decide +kernel | rfl | decide
      rw [e]
      exact hq
  · show wpAny (model prog w) A (keyLt' (tuples' true) p.1 q.1) (fun r s' => s' = _ ∧ r = HT.lexLt (keyV KX h0 p.1) (keyV KX h0 q.1)) (fun _ _ => False) _
    exact Y.cmp hu (hp' _ hm) (hp' _ hm') ⟨rfl, rfl⟩
theorem srtd_keys (Y : Keyer KX) {h0 : Heap} {vs out : List Value} {ks : List (List Int)} (hk : vs.map (keyV KX h0) = ks) (hs : SrtO.Srtd (fun v u => HT.lexLt (keyV KX h0 v) (keyV KX h0 u)) out) (hb : SrtO.Stb (fun v u => HT.lexLt (keyV KX h0 v) (keyV KX h0 u)) out vs) :
    out.map (keyV KX h0) = srtG HT.lexLt ks := by
  refine srtG_uniq tot_lex ?_ (List.pairwise_map.mpr hs)
  rw [← hk]
  exact hb.perm.map _
end

/-! ### sorted of a list, said of readings -/
/-- what is data by its key -/
structure KeyD (KX : Heap → Value → List Int → Prop) (mk : List Int → D) (ok : List Int → Prop) : Prop where
  yer : Keyer KX
  raw : ∀ {X : Cx} {pins : List (Addr × Obj)} {σ : St} {H : Hp} {s : Shared} {v : V} {u : Value} {ns : List Int}, Inv X pins σ H s → ok ns → Dp X.K H v (mk ns) → RelV v u → (∃ a, v = .ref a) ∧ KX s.heap u ns
def mkI (ns : List Int) : D := .tuple (ns.map .int)
def mkP : List Int → D
  | i :: ns => .tuple [.int i, mkI ns]
  | [] => .none
theorem sqT_ints {K : PySem.W.Frag} {H : Hp} {v : V} {ns : List Int} (h : Dp K H v (mkI ns)) : ∃ t, v = .ref t ∧ SqT K H t (ns.map V.int) := by
  have h' : Dp K H v (.tuple (ns.map .int)) := h
  cases h' with
  | tup h1 h2 =>
    rw [dpAll_int h2] at h1
    exact ⟨_, rfl, h1⟩
theorem keyD_I : KeyD KI mkI (fun ns => ns ≠ []) where
  yer := keyer_KI
  raw := fun {X pins σ H s v u ns} I ok h r => by
    obtain ⟨t, rfl, hs⟩ := sqT_ints h
    cases r
    exact ⟨⟨t, rfl⟩, tupI_raw I hs, ok⟩
theorem keyD_P : KeyD KP mkP (fun ns => ns ≠ []) where
  yer := keyer_KP
  raw := fun {X pins σ H s v u ns} I ok h r => by
    cases ns with
    | nil => exact absurd rfl ok
    | cons i ns =>
      have h' : Dp X.K H v (.tuple [.int i, mkI ns]) := h
      cases h' with
      | @tup p _ _ h1 h2 =>
        cases h2 with
        | cons a b =>
          cases b with
          | cons b c =>
            cases c
            cases a
            obtain ⟨t, rfl, hs⟩ := sqT_ints b
            cases r
            obtain ⟨its, rv, ⟨o, ho, hc, n, hd⟩, _⟩ := I.tuple h1
            obtain ⟨u1, u2, rfl, ri, rj⟩ := vals2 rv
            obtain ⟨t1, rfl⟩ := ri
            cases rj
            exact ⟨⟨_, rfl⟩, _, o, t1, _, n, i, ns, rfl, ho, hc, hd, tupI_raw I hs, rfl⟩
theorem keys_raw {KX : Heap → Value → List Int → Prop} {mk : List Int → D} {ok : List Int → Prop} (Y : KeyD KX mk ok) {X : Cx} {pins : List (Addr × Obj)} {σ : St} {H : Hp} {s : Shared} (I : Inv X pins σ H s) :
    ∀ {xs : List V} {ks : List (List Int)} {us : List Value}, (∀ k, k ∈ ks → ok k) → DpAll X.K H xs (ks.map mk) → Vals xs us → (∀ x ∈ xs, ∃ a, x = V.ref a) ∧ (∀ u ∈ us, ∃ ns, KX s.heap u ns) ∧ us.map (keyV KX s.heap) = ks ∧ us.map (fun u => (backV u, keyV KX s.heap u)) = xs.zip ks
  | [], [], _, _, _, .nil => ⟨fun _ h => (by cases h), fun _ h => (by cases h), rfl, rfl⟩
  | [], _ :: _, _, _, h, _ => by cases h
  | _ :: _, [], _, _, h, _ => by cases h
  | x :: xs, k :: ks, _, hk, h, .cons r t => by
    cases h with
    | cons h1 h2 =>
      obtain ⟨a1, a2, a3, a4⟩ := keys_raw Y I (fun k' m => hk k' (List.mem_cons_of_mem _ m)) h2 t
      obtain ⟨⟨a, rfl⟩, kx⟩ := Y.raw I (hk k List.mem_cons_self) h1 r
      cases r
      refine ⟨fun y m => ?_, fun y m => ?_, ?_, ?_⟩
      · rcases List.mem_cons.mp m with rfl | m
        · exact ⟨a, rfl⟩
        · exact a1 y m
      · rcases List.mem_cons.mp m with rfl | m
        · exact ⟨k, kx⟩
        · exact a2 y m
      · rw [List.map_cons, a3, keyV_eq Y.yer kx]
      · rw [List.map_cons, a4, keyV_eq Y.yer kx]; rfl
def rSortedK (K : PySem.W.Frag) (mk : List Int → D) (ok : List Int → Prop) : List V → Hp → VK → Prop := fun vs H Q => ∃ (a : Addr) (xs : List V) (ks : List (List Int)), vs = [V.ref a] ∧ SqL K H a xs ∧ DpAll K H xs (ks.map mk) ∧ (∀ k, k ∈ ks → ok k) ∧
  ∀ (ps : List (V × List Int)) (p : Addr), ps.Perm (xs.zip ks) → ps.map (·.2) = srtG HT.lexLt ks → H p = none → Q (.ref p) (upd H p (.lst (ps.map (·.1))))
section
variable {X : Cx}
theorem vals_backP {h : Heap} {KX : Heap → Value → List Int → Prop} {out : List Value} (h3 : ∀ u ∈ out, ∃ a, u = Value.ref a) : Vals ((out.map (fun u => (backV u, keyV KX h u))).map (·.1)) out := by
  rw [List.map_map]
  exact vals_back h3
theorem cr_sortedK {KX : Heap → Value → List Int → Prop} {mk : List Int → D} {ok : List Int → Prop} (Y : KeyD KX mk ok) (hu : X.A.units + 64 < cLine) : CallR X (.builtin "sorted") (rSortedK X.K mk ok) := by
  intro pins s σ H vs us Q I r h
  obtain ⟨a, xs, ks, rfl, hs, hd, hk, q⟩ := h
  obtain ⟨its, rv, hl, hz⟩ := I.list hs
  rw [Vals.ref1 r]
  obtain ⟨e1, e2, e3, e4⟩ := keys_raw Y I hk hd rv
  obtain ⟨_, e5⟩ := refs_back rv e1
  refine SrtO.sorted_ord (tot_lex.swo (keyV KX s.heap)) hl.isList (by rw [← rv.length]; exact hz) (fun h2 h₁ a' ha kk => ?_) fun out h1 h2 => ?_
  · refine keyed_sortable (s := { s with heap := h₁ }) Y.yer (by show X.A.units + 1 + 1 + 8 < cLine; omega) (by omega) e2 (fun b o e => (kk b o e).2) fun o e => ?_
    have e' : some o = some (seqObj "list" its.toArray 0) := e.symm.trans ha
    cases e'
    intro c
    exact absurd (Value.type.inj c) (by decide)
  · obtain ⟨ep, he'⟩ := PyProof.Rows.sortedAll_at s.heap its out.toArray
    have h3 : ∀ u ∈ out, ∃ a, u = Value.ref a := fun u m => e5 u (h2.perm.mem_iff.mp m)
    have pm : (out.map (fun u => (backV u, keyV KX s.heap u))).Perm (xs.zip ks) := by
      rw [← e4]; exact h2.perm.map _
    have hlen : ((out.map (fun u => (backV u, keyV KX s.heap u))).map (·.1)).length ≤ sizeLine := by
      rw [List.length_map, List.length_map, h2.perm.length_eq, ← rv.length]
      exact hz
    exact ⟨.ref _, upd H (s.heap.objs.size + 1) (.lst ((out.map (fun u => (backV u, keyV KX s.heap u))).map (·.1))), I.laid (t' := s.toks) (fun _ _ => PyProof.Rows.sortedAll_old) (Nat.le_succ _) ⟨hlen, out, ep, vals_backP h3, he'⟩, rfl,
      q _ _ pm (by rw [List.map_map]; exact srtd_keys Y.yer e3 h1 h2) (I.hok.fresh (Nat.le_succ _))⟩
end
end DL
end L2

set_option Elab.async false
set_option linter.all false
set_option maxRecDepth 100000
set_option maxHeartbeats 1600000
/-! sets of lists; what is in them, in order -/
namespace L2
namespace DL
open PySem PySem.Spec PyProof.Rows
section
variable {P : Program} {w : World} {A : Around} {E : Value → Shared → Prop} {s : Shared}
theorem ints_at : ∀ {vs : List Value} {ns : List Int} {i : Nat} {v : Value}, IntsAre vs ns → vs[i]? = some v → ∃ k t, ns[i]? = some k ∧ v = .int k t
  | _, _, _, _, .nil, h => by simp at h
  | _, _, 0, _, .cons k t r, h => by
    simp at h
    exact ⟨k, t, rfl, h.symm⟩
  | _, _, i + 1, _, .cons k t r, h => by
    obtain ⟨k', t', e1, e2⟩ := ints_at (i := i) r (by simpa using h)
    exact ⟨k', t', by simpa using e1, e2⟩
theorem call_set_ints {l : Addr} {items : Array Value} {ns : List Int} {m : Nat} {Q : Value → Shared → Prop} (hh : A.handled = none) (hl : s.heap.IsList l items) (hi : IntsAre items.toList ns) (fw : Few ns m) (hb : m + 1 < scanBound)
    (h : ∀ s' c, (∀ b o, s.heap.get? b = some o → s'.heap.get? b = some o) → s'.gens = s.gens → s'.os = s.os → SetR w s'.heap s.heap.objs.size (fun j => decide (j ∈ ns)) c → Q (.ref s.heap.objs.size) s') :
    wpAny (model P w) A (call (.type "set") [.ref l]) Q E s := by
  refine set_of_list (Z := fun s' => (∀ b o, s.heap.get? b = some o → s'.heap.get? b = some o) ∧ s'.gens = s.gens ∧ s'.os = s.os ∧ ∃ c, SetR w s'.heap s.heap.objs.size (fun j => decide (j ∈ ns)) c) hl (fun A' R hA hR => ?_) (fun s' z => ?_)
  · have hlt : l < s.heap.objs.size := by obtain ⟨o, ho, _⟩ := hl; exact Heap.lt_size ho
    have hsz : (s.heap.push (newSet w)).objs.size = s.heap.objs.size + 1 := Heap.size_push ..
    have keep : ∀ b o, s.heap.get? b = some o → ((s.heap.push (newSet w)).push { cls := .type "list_iterator", data := .fields #[.ref l, .int 0 0] }).get? b = some o := fun b o e => Heap.get?_push_of_some _ (Heap.get?_push_of_some _ e)
    have hit : ((s.heap.push (newSet w)).push { cls := .type "list_iterator", data := .fields #[.ref l, .int 0 0] }).get? (s.heap.objs.size + 1) = some { cls := .type "list_iterator", data := .fields #[.ref l, .int 0 0] } := by
      rw [← hsz]; exact Heap.get?_push_size _ rfl
    refine upd_loop (A := A') (s := { s with heap := (s.heap.push (newSet w)).push { cls := .type "list_iterator", data := .fields #[.ref l, .int 0 0] } }) ((Walks.list (A := A'.in1) (hA.trans hh) (s.heap.objs.size + 1) l (Nat.ne_of_lt (Nat.lt_succ_of_lt hlt)) items).toS) s.heap.objs.size (by
      simp only [List.mem_cons, List.not_mem_nil, or_false, not_or]
      exact ⟨Nat.ne_of_lt (Nat.lt_succ_self _), Nat.ne_of_gt hlt⟩) ns ?_ fw hb ?_ (fun s' c mv hS => hR s' ⟨fun b o e => ?_, mv.gens, mv.os, c, hS⟩) ?_ ?_
    · rw [← hi.length, Array.length_toList]
    · intro i v hv
      have hv' : items[i]? = some v := hv
      exact ints_at hi (by rw [Array.getElem?_toList]; exact hv')
    · refine mv.heap b o ?_ (keep b o e)
      have := Heap.lt_size e
      simp only [List.mem_cons, List.not_mem_nil, or_false, not_or]
      exact ⟨Nat.ne_of_lt this, Nat.ne_of_lt (Nat.lt_succ_of_lt this)⟩
    · exact ⟨⟨_, hit, rfl, rfl⟩, hl.at fun o e => keep l o e⟩
    · refine (setR_new_at (ns := ns) ?_).congr fun k => by simp
      exact Heap.get?_push_of_some _ (Heap.get?_push_size _ rfl)
  · obtain ⟨z1, z2, z3, c, z4⟩ := z
    exact h s' c z1 z2 z3 z4
theorem sorted_setI {a : Addr} {S : Int → Bool} {n : Nat} {Q : Value → Shared → Prop} (R : SetR w s.heap a S n) (hh : A.handled = none)
    (hQ : ∀ s' p (out : Array Value) (c : Nat) (ns : List Int), (∀ b o, s.heap.get? b = some o → s'.heap.get? b = some o) → s'.gens = s.gens → s'.os = s.os → s.heap.objs.size ≤ p →
      s'.heap.get? p = some (seqObj "list" out c) → IntsAre out.toList ns → ns.Pairwise (· ≤ ·) → ns.Nodup → (∀ k, k ∈ ns ↔ S k = true) → Q (.ref p) s') :
    wpAny (model P w) A (call (.builtin "sorted") [.ref a]) Q E s := by
  obtain ⟨o, es, ep, t, ho, hex, hd, g, nd, hm, hb, hf, hn, hr, hl⟩ := R
  refine Calls.call_function_entry kind_sorted plain_sorted entry_sorted (args_sorted1 _) ?_
  unfold Builtin.«sorted»
  refine wpAny_bind (m := checkCount "sorted" 1 1 _) (wpAny_pure ?_)
  refine wpAny_bind (collect_set (A := A.in1) hh ⟨o, ho, hex.1, hd⟩ hf hb hr hl fun s1 vs k1 hz g1 o1 pm => ?_)
  have hvl : vs.length < scanBound := by rw [pm.length_eq, List.length_map, Array.length_toList]; exact hb
  have hvz : vs.length ≤ sizeLine := by
    rw [sizeLine_eq]
    have : scanBound = 4096 := rfl
    omega
  have hI : IntsAre vs (vs.map Builtin.Re.reRawOf) := ints_of vs fun v hv => by
    obtain ⟨e, he, q⟩ := List.mem_map.mp (pm.mem_iff.mp hv)
    obtain ⟨k, tk, h1, _⟩ := g e he
    exact ⟨k, tk, by rw [← q]; exact h1⟩
  have pk : (vs.map Builtin.Re.reRawOf).Perm (es.toList.map keyOf) := by
    have q := pm.map Builtin.Re.reRawOf
    rw [List.map_map] at q
    exact q
  refine wpAny_bind (wpAny_newList ?_ hvz)
  have hoL : (s1.heap.push (seqObj "list" vs.toArray 0)).get? s1.heap.objs.size = some (seqObj "list" vs.toArray 0) := Heap.get?_push_size _ rfl
  refine wpAny_bind (wpAny_holding (wpAny_call_entry slot_list_sort ⟨_, hoL, rfl⟩ entry_list_sort (SrtO.list_sort_ord SrtO.swo_int hoL hvz (fun h2 => SrtO.ints_sortable hI h2) fun out h1 h2 => ⟨_, rfl, ?_⟩) (args_list_sort _)))
  obtain ⟨a1, a2, a3⟩ := SrtO.ints_out hI h1 h2
  obtain ⟨c, hc⟩ := sortedHeap_at (vs := vs) (out := out.toArray) hoL
  have pn : (out.map SrtO.iv).Perm (es.toList.map keyOf) := a2.trans pk
  refine wpAny_pure ⟨_, rfl, hQ _ s1.heap.objs.size out.toArray c (out.map SrtO.iv) (fun b u e => ?_) g1 o1 hz hc a1 a3 (pn.nodup_iff.mpr nd) (fun k => by rw [pn.mem_iff, ← hm k])⟩
  have q := k1 b u e
  have hlt := Heap.lt_size q
  show (sortedHeap (s1.heap.push (seqObj "list" vs.toArray 0)) s1.heap.objs.size vs out.toArray).get? b = some u
  rw [sortedHeap_old (Nat.ne_of_lt hlt) (by rw [size_push']; exact Nat.lt_succ_of_lt hlt)]
  exact Heap.get?_push_of_some _ q
/-- sorted of a set of tuples of ints, of any lengths -/
theorem sorted_setU {a : Addr} {L : List (Addr × List Int)} {es : Array (Int × Value)} {ep : Nat} {t : SetTable} {Q : Value → Shared → Prop} (R : SetTR P w s.heap a L es ep t) (hh : A.handled = none) (hu : A.units + 64 < cLine) (hne : ∀ p ∈ L, p.2 ≠ [])
    (hQ : ∀ s' p (out : Array Value) (c : Nat) (L' : List (Addr × List Int)), (∀ b o, s.heap.get? b = some o → s'.heap.get? b = some o) → s'.gens = s.gens → s'.os = s.os → s.heap.objs.size ≤ p →
      s'.heap.get? p = some (seqObj "list" out c) → out.toList = L'.map (fun q => Value.ref q.1) → (∀ q ∈ L', q ∈ L) → (L'.map (·.2)).Perm (L.map (·.2)) → (L'.map (·.2)).Pairwise (fun x y => HT.lexLt y x = false) → Q (.ref p) s') :
    wpAny (model P w) A (call (.builtin "sorted") [.ref a]) Q E s := by
  obtain ⟨o, ho, hex, hd⟩ := R.ob
  have hsz := R.size
  have hfew := R.few
  refine Calls.call_function_entry kind_sorted plain_sorted entry_sorted (args_sorted1 _) ?_
  unfold Builtin.«sorted»
  refine wpAny_bind (m := checkCount "sorted" 1 1 _) (wpAny_pure ?_)
  refine wpAny_bind (collect_set (A := A.in1) hh ⟨o, ho, hex.1, hd⟩ R.fits (by unfold scanBound; omega) R.tab.ris R.led fun s1 vs k1 hz g1 o1 pm => ?_)
  have hes : es.toList.map (·.2) = L.map fun q => Value.ref q.1 := by
    rw [R.rows]
    unfold rowsOf
    rw [List.map_map] <;> rfl
  rw [hes] at pm
  have hvl : vs.length < 64 := by rw [pm.length_eq, List.length_map]; exact hfew
  have hvz : vs.length ≤ sizeLine := by rw [sizeLine_eq]; omega
  refine wpAny_bind (wpAny_newList ?_ hvz)
  have hoL : (s1.heap.push (seqObj "list" vs.toArray 0)).get? s1.heap.objs.size = some (seqObj "list" vs.toArray 0) := Heap.get?_push_size _ rfl
  have tk : ∀ q ∈ L, KI s.heap (.ref q.1) q.2 := fun q hq => ⟨tupInts_of (P := P) (w := w) (R.tup q hq), hne q hq⟩
  have tv : ∀ v ∈ vs, ∃ ns, KI s.heap v ns := fun v hv => by
    obtain ⟨q, hq, e⟩ := List.mem_map.mp (pm.mem_iff.mp hv)
    rw [← e]
    exact ⟨_, tk q hq⟩
  refine wpAny_bind (wpAny_holding (wpAny_call_entry slot_list_sort ⟨_, hoL, rfl⟩ entry_list_sort (SrtO.list_sort_ord (tot_lex.swo (keyV KI s.heap)) hoL hvz (fun h2 => keyed_sortable (s := { s1 with heap := s1.heap.push (seqObj "list" vs.toArray 0) }) keyer_KI (by show A.units + 1 + 1 + 8 < cLine; omega) (by omega) tv (fun b o e => Heap.get?_push_of_some _ (k1 b o e)) fun o e => ?_) fun out h1 h2 => ⟨_, rfl, ?_⟩) (args_list_sort _)))
  · have e' : some o = some (seqObj "list" vs.toArray 0) := e.symm.trans hoL
    cases e'
    intro c
    exact absurd (Value.type.inj c) (by decide)
  -- back to rows
  have ord : ∀ vs : List Value, (∀ v ∈ vs, ∃ q ∈ L, v = Value.ref q.1) → ∃ L1 : List (Addr × List Int), vs = L1.map (fun q => Value.ref q.1) ∧ ∀ q ∈ L1, q ∈ L := by
    intro vs
    induction vs with
    | nil => intro _; exact ⟨[], rfl, fun q hq => (by cases hq)⟩
    | cons v vs ih =>
      intro hv
      obtain ⟨q, hq, e⟩ := hv v List.mem_cons_self
      obtain ⟨L1, e1, hs⟩ := ih fun u hu => hv u (List.mem_cons_of_mem _ hu)
      refine ⟨q :: L1, by rw [List.map_cons, e, e1], fun r hr => ?_⟩
      rcases List.mem_cons.mp hr with z | z
      · rw [z]; exact hq
      · exact hs r z
  have keys : ∀ L1 : List (Addr × List Int), (∀ q ∈ L1, q ∈ L) → (L1.map (fun q => Value.ref q.1)).map (keyV KI s.heap) = L1.map (·.2) := fun L1 hs => by
    rw [List.map_map]
    exact List.map_congr_left fun q hq => keyV_eq keyer_KI (tk q (hs q hq))
  obtain ⟨L', e', hs'⟩ := ord out fun v hv => by
    obtain ⟨q, hq, e⟩ := List.mem_map.mp (pm.mem_iff.mp (h2.perm.mem_iff.mp hv))
    exact ⟨q, hq, e.symm⟩
  obtain ⟨c, hc⟩ := sortedHeap_at (vs := vs) (out := out.toArray) hoL
  have pp : (L'.map (·.2)).Perm (L.map (·.2)) := by
    have q := (h2.perm.trans pm).map (keyV KI s.heap)
    rw [e', keys L' hs', keys L fun q hq => hq] at q
    exact q
  have ps : (L'.map (·.2)).Pairwise (fun x y => HT.lexLt y x = false) := by
    rw [← keys L' hs', ← e']
    exact List.pairwise_map.mpr h1
  refine wpAny_pure ⟨_, rfl, hQ _ s1.heap.objs.size out.toArray c L' (fun b u e => ?_) g1 o1 hz hc e' hs' pp ps⟩
  have q := k1 b u e
  have hlt := Heap.lt_size q
  show (sortedHeap (s1.heap.push (seqObj "list" vs.toArray 0)) s1.heap.objs.size vs out.toArray).get? b = some u
  rw [sortedHeap_old (Nat.ne_of_lt hlt) (by rw [size_push']; exact Nat.lt_succ_of_lt hlt)]
  exact Heap.get?_push_of_some _ q
end
/-! ### said of readings -/
/-- sorted(set(xs)), in one -/
def rSetI (K : PySem.W.Frag) (w : World) : List V → Hp → VK → Prop := fun vs H Q => ∃ (a : Addr) (ns : List Int) (m : Nat), vs = [V.ref a] ∧ SqL K H a (ns.map V.int) ∧ Few ns m ∧ m + 1 < scanBound ∧
  ∀ S c, H S = none → Q (.ref S) (upd H S (SetO w S (fun j => decide (j ∈ ns)) c))
def rSortedSetI (w : World) : List V → Hp → VK → Prop := fun vs H Q => ∃ (a : Addr) (S : Int → Bool) (n : Nat), vs = [V.ref a] ∧ H a = some (SetO w a S n) ∧
  ∀ (ns : List Int) (p : Addr), ns.Pairwise (· ≤ ·) → ns.Nodup → (∀ k : Int, k ∈ ns ↔ S k = true) → H p = none → Q (.ref p) (upd H p (.lst (ns.map V.int)))
def rSortedSetU (K : PySem.W.Frag) (P : Program) (w : World) : List V → Hp → VK → Prop := fun vs H Q => ∃ (a : Addr) (L : List (Addr × List Int)), vs = [V.ref a] ∧ H a = some (SetTO P w a L) ∧ (∀ p ∈ L, SqT K H p.1 (p.2.map V.int)) ∧ (∀ p ∈ L, p.2 ≠ []) ∧
  ∀ (L' : List (Addr × List Int)) (p : Addr), (∀ q ∈ L', q ∈ L) → (L'.map (·.2)).Nodup → (∀ k, k ∈ L'.map (·.2) ↔ k ∈ L.map (·.2)) → (L'.map (·.2)).Pairwise (fun x y => HT.lexLt y x = false) → H p = none → Q (.ref p) (upd H p (.lst (L'.map fun q => V.ref q.1)))
section
variable {X : Cx}
theorem cr_setI (hc : X.calm = true) : CallR X (.type "set") (rSetI X.K X.w) := by
  intro pins s σ H xs us Q I r h
  obtain ⟨l, ns, m, rfl, hl, fw, hb, q⟩ := h
  rw [Vals.ref1 r]
  obtain ⟨its, rv, pl, hz⟩ := I.list hl
  have hn : H s.heap.objs.size = none := I.hok.fresh (Nat.le_refl _)
  refine call_set_ints (P := X.prog) (w := X.w) (I.ok.hd hc) pl.isList rv.ints fw hb fun s' c k g o R => ?_
  have J : Inv X pins σ (upd H s.heap.objs.size (SetO X.w s.heap.objs.size (fun j => decide (j ∈ ns)) c)) s' :=
    I.call' (ch := []) o (Un.laid k (Nat.le_refl _) hn) (I.hok.laid k (Nat.le_refl _) (setO_new R)) (by rw [g]; exact I.bare) (fun _ z => nomatch z)
  exact ⟨.ref _, _, J, rfl, q _ c hn⟩
theorem cr_sortedSetI (hc : X.calm = true) : CallR X (.builtin "sorted") (rSortedSetI X.w) := by
  intro pins s σ H vs us Q I r h
  obtain ⟨a, S, n, rfl, ha, q⟩ := h
  have R := setO_get I ha
  rw [Vals.ref1 r]
  have hb : n < scanBound := by
    obtain ⟨o, es, ep, t, ho, hex, hd, g, nd, hm, hb, hf, hn, hr, hl⟩ := R
    rw [← hn]; exact hb
  refine sorted_setI R (I.ok.hd hc) fun s' p out c ns k g o hp hg hi hs hd hm => ?_
  have hn : H p = none := I.hok.fresh hp
  have hlen : (ns.map V.int).length ≤ sizeLine := by
    obtain ⟨o, es, ep, t, ho, hex, hd', g', nd', hm', hb', hf', hn', hr', hl'⟩ := R
    have pl : ns.Perm (es.toList.map keyOf) := (List.perm_ext_iff_of_nodup hd nd').mpr fun z => (hm z).trans (hm' z)
    rw [List.length_map, pl.length_eq, List.length_map, Array.length_toList, sizeLine_eq]
    have : scanBound = 4096 := rfl
    omega
  have J : Inv X pins σ (upd H p (.lst (ns.map V.int))) s' :=
    I.call' (ch := []) o (Un.laid k hp hn) (I.hok.laid k hp ⟨hlen, out.toList, c, vals_of_ints hi, hg⟩) (by rw [g]; exact I.bare) (fun _ z => nomatch z)
  exact ⟨.ref p, _, J, rfl, q ns p hs hd hm hn⟩
theorem cr_sortedSetU (hc : X.calm = true) (hu : X.A.units + 64 < cLine) : CallR X (.builtin "sorted") (rSortedSetU X.K X.prog X.w) := by
  intro pins s σ H vs us Q I r h
  obtain ⟨a, L, rfl, ha, hk, hne, q⟩ := h
  have R0 : SetT0 X.prog X.w s.heap a L := (I.hok a _ ha).1
  obtain ⟨es, ep, t, R⟩ := R0.full fun p hp => I.isT (hk p hp)
  rw [Vals.ref1 r]
  refine sorted_setU R (I.ok.hd hc) hu hne fun s' p out c L' k g o hp hg hout hs pm pw => ?_
  have hlen : (L'.map fun q => V.ref q.1).length ≤ sizeLine := by
    have e := pm.length_eq
    rw [List.length_map, List.length_map] at e
    rw [List.length_map, sizeLine_eq, e]
    have := R.few
    omega
  have hn : H p = none := I.hok.fresh hp
  have hv : Vals (L'.map fun q => V.ref q.1) out.toList := by rw [hout]; exact vals_of_refs L'
  have J : Inv X pins σ (upd H p (.lst (L'.map fun q => V.ref q.1))) s' :=
    I.call' (ch := []) o (Un.laid k hp hn) (I.hok.laid k hp ⟨hlen, out.toList, c, hv, hg⟩) (by rw [g]; exact I.bare) (fun _ z => nomatch z)
  exact ⟨.ref p, _, J, rfl, q L' p hs (pm.nodup_iff.mpr R.nd) (fun k => pm.mem_iff) pw hn⟩
end
end DL
end L2

set_option Elab.async false
set_option linter.all false
set_option maxRecDepth 100000
set_option maxHeartbeats 1600000
/-! x[::-1]; sorted, sets over data -/
namespace L2
namespace DL
open PySem PySem.Spec PyProof.Rows
section
variable {prog : Program} {w : World} {A : Around} {E : Value → Shared → Prop} {s : Shared}
theorem fm_congr {α β : Type} {f g : α → Option β} : ∀ {l : List α}, (∀ m, m ∈ l → f m = g m) → l.filterMap f = l.filterMap g
  | [], _ => rfl
  | a :: l, h => by
    rw [List.filterMap_cons, List.filterMap_cons, h a List.mem_cons_self, fm_congr fun m hm => h m (List.mem_cons_of_mem _ hm)]
theorem pick_back (xs : Array Value) : ((List.range xs.size).filterMap fun (m : Nat) => xs[(((xs.size : Int) - 1) + (m : Int) * (-1)).toNat]?).toArray = xs.toList.reverse.toArray := by
  rw [← PySem.W.krv_all xs, ← List.filterMap_reverse, ← PySem.W.krv_range, List.filterMap_map]
  congr 1
  refine fm_congr fun m hm => ?_
  have := List.mem_range.mp hm
  show xs[(((xs.size : Int) - 1) + (m : Int) * (-1)).toNat]? = xs[xs.size - 1 - m]?
  congr 1
  omega
theorem sliceApplied_back {sl : Addr} {vl vu vs : Value} {n : Nat} {Q : Int × Int × Nat → Shared → Prop} (hs : s.heap.IsSliceOf sl vl vu vs) (pl : IsPart vl none) (pu : IsPart vu none) (ps : IsPart vs (some (-1)))
    (h : Q ((n : Int) - 1, -1, n) s) : wpAny (model prog w) A (Builtin.Slice.sliceApplied (.ref sl) (pure (n : Int))) Q E s := by
  obtain ⟨os, hos, hcs, hds⟩ := id hs
  unfold Builtin.Slice.sliceApplied Builtin.Slice.sliceFields
  refine wpAny_bind (wpAny_bind (wpAny_field hos hds (x := vl) rfl (wpAny_bind (wpAny_field hos hds (x := vu) rfl (wpAny_bind (wpAny_field hos hds (x := vs) rfl (wpAny_pure ?_)))))))
  refine wpAny_bind (HT.slicePart_ ps ?_)
  show wpAny _ _ (if ((-1 : Int) == 0) = true then _ else _) _ _ s
  rw [if_neg (by decide)]
  refine wpAny_bind (HT.slicePart_ pl (wpAny_bind (HT.slicePart_ pu (wpAny_bind (wpAny_pure ?_)))))
  have e1 : Builtin.Slice.sliceAdjust none none (-1) (n : Int) = ((n : Int) - 1, -1) := rfl
  show wpAny _ _ (match Builtin.Slice.sliceAdjust none none (-1) (n : Int) with | (lo, hi) => pure (lo, (-1 : Int), Builtin.Slice.slicePlaces lo hi (-1))) _ _ s
  rw [e1]
  show wpAny _ _ (pure ((n : Int) - 1, (-1 : Int), Builtin.Slice.slicePlaces ((n : Int) - 1) (-1) (-1))) _ _ s
  have e2 : Builtin.Slice.slicePlaces ((n : Int) - 1) (-1) (-1) = n := by
    unfold Builtin.Slice.slicePlaces
    have h1 : ¬ ((-1 : Int) > 0) := by omega
    have h2 : (- -1 : Int) = 1 := by decide
    simp only [h1, if_false, h2, Int.ediv_one]
    split <;> omega
  rw [e2]
  exact wpAny_pure h
theorem getItem_tuple_back {t sl : Addr} {items : Array Value} {vl vu vs : Value} {Q : Value → Shared → Prop} (ht : IsTup s.heap t items) (hs : s.heap.IsSliceOf sl vl vu vs) (pl : IsPart vl none) (pu : IsPart vu none) (ps : IsPart vs (some (-1)))
    (h : Q (.ref s.heap.objs.size) { s with heap := s.heap.push { cls := .type "tuple", data := .seq items.toList.reverse.toArray } })
    (hsz : items.size ≤ sizeLine) : wpAny (model prog w) A (getItem (.ref t) (.ref sl)) Q E s := by
  have htake : sizeOk (.seq items.toList.reverse.toArray) := by
    show items.toList.reverse.toArray.size ≤ sizeLine
    rw [List.size_toArray, List.length_reverse, Array.length_toList]
    exact hsz
  obtain ⟨os, hos, hcs, hds⟩ := id hs
  have hTs : s.TypeIs (.ref sl) "slice" := ⟨os, hos, hcs⟩
  unfold getItem
  try with_reducible refine wpAny_holding ?_
  first | refine wpAny_bind (wpAny_pure ?_) | skip
  refine wpAny_bind (wpAny_sequenceKey ht.typeIs (by decide) ?_)
  refine wpAny_bind (wpAny_callSpecial?_slot (name := Str.ofString "__getitem__") ht.typeIs PyProof.Rows.slot_tuple_getitem
    (wpAny_call_entry PyProof.Rows.slot_tuple_getitem ht.typeIs entry_tuple_getitem ?_ (args_tuple_getitem _ _)))
  show wpAny _ _ (Builtin.Tuple.tupleItemsOf (.ref t) >>= _) _ _ s
  refine wpAny_bind (tupleItemsOf_ ht ?_)
  refine wpAny_bind (wpAny_typeOf hTs ?_)
  rw [if_pos (by decide)]
  refine wpAny_bind (sliceApplied_back hs pl pu ps ?_)
  have hno : ¬ (((items.size : Int) - 1 == 0 && (-1 : Int) == 1 && items.size == items.size) = true) := by
    rw [show ((-1 : Int) == 1) = false from rfl, Bool.and_false, Bool.false_and]
    exact Bool.false_ne_true
  show wpAny _ _ (if ((items.size : Int) - 1 == 0 && (-1 : Int) == 1 && items.size == items.size) = true then _ else _) _ _ s
  rw [if_neg hno, pick_back]
  first
    | exact wpAny_bind (m := Builtin.Tuple.tupleExact _) (wpAny_newObj_type (wpAny_pure ⟨_, rfl, wpAny_pure h⟩) htake)
    | exact wpAny_bind (m := Builtin.Tuple.tupleExact _) (wpAny_newObj_type (wpAny_bind (wpAny_pure (wpAny_pure ⟨_, rfl, wpAny_pure h⟩))) htake)
    | exact wpAny_bind (wpAny_bind (m := Builtin.Tuple.tupleExact _) (wpAny_newObj_type (wpAny_pure (wpAny_pure ⟨_, rfl, wpAny_pure h⟩)) htake))
    | exact wpAny_bind (wpAny_bind (m := Builtin.Tuple.tupleExact _) (wpAny_newObj_type (wpAny_pure ⟨_, rfl, wpAny_pure h⟩) htake))
end
def revS (z : Str) : Str := ⟨z.cps.toList.reverse.toArray⟩
theorem revS_by (z : Str) : (Builtin.Str.strSliceIndices none none (-1) z.length).filterMap (z.cps[·]?) = z.cps.toList.reverse := by
  show (sliceRange ((z.length : Int) - 1) (-1) (-1)).filterMap (z.cps[·]?) = _
  rw [PySem.W.krv_sliceRange, PySem.W.krv_range, List.filterMap_reverse]
  congr 1
  exact PySem.W.krv_all z.cps
def tRev (K : PySem.W.Frag) (te : TE) : TE := fun σ H Q => te σ H fun x H1 => (∃ a xs, x = .ref a ∧ SqL K H1 a xs ∧ ∀ p, H1 p = none → Q (.ref p) (upd H1 p (.lst xs.reverse))) ∨
  (∃ a xs, x = .ref a ∧ SqT K H1 a xs ∧ ∀ p, H1 p = none → Q (.ref p) (upd H1 p (.tup xs.reverse))) ∨ ∃ z, x = .str z ∧ z.length ≤ sizeLine ∧ Q (.str (revS z)) H1
section
variable {X : Cx}
theorem pe_revA {e : Expr} {te : TE} {k : Nat} {p1 p2 p3 pos : Pos} (he : PE X e te) : PE X (.Subscript e (.Slice none none (some (.UnaryOp .USub (.Constant (.int 1) k p1) p2)) p3) pos) (tRev X.K te) := by
  refine ⟨fun pins s σ H Q I h => ?_⟩
  refine Subscript_ (thn (he.run pins s σ H _ I h) fun v s1 ⟨x, H1, I1, r1, q1⟩ => ?_)
  have hst : PO X (some (.UnaryOp .USub (.Constant (.int 1) k p1) p2)) (tPart (tUn (rU fun i => .int (-i)) (tC (.int 1)))) := po_some (pe_un un_neg pe_int)
  refine wpAny_Slice (thn (po_none.run pins s1 σ H1 (fun o H2 => o = none ∧ H2 = H1) I1 ⟨rfl, rfl⟩) fun vl s2 ⟨l, H2, I2, pl, el, e2⟩ => ?_)
  subst el e2
  refine thn (po_none.run pins s2 σ H2 (fun o H3 => o = none ∧ H3 = H2) I2 ⟨rfl, rfl⟩) fun vu s3 ⟨u, H3, I3, pu, eu, e3⟩ => ?_
  subst eu e3
  refine thn (hst.run pins s3 σ H3 (fun o H4 => o = some (-1) ∧ H4 = H3) I3 ⟨1, rfl, -1, rfl, rfl, rfl⟩) fun vs s4 ⟨o, H4, I4, ps, eo, e4⟩ => ?_
  subst eo e4
  have I5 : Inv X pins σ H4 { s4 with heap := s4.heap.push { cls := .type "slice", data := .fields #[vl, vu, vs] } } := I4.kept (t' := s4.toks) fun b ob q => Heap.get?_push_of_some _ q
  show wpAny (model X.prog X.w) X.A (subscriptTail e (.Slice none none (some (.UnaryOp .USub (.Constant (.int 1) k p1) p2)) p3) v (.ref s4.heap.objs.size)) (EP X pins σ Q) X.xe { s4 with heap := s4.heap.push { cls := .type "slice", data := .fields #[vl, vu, vs] } }
  rcases q1 with ⟨a, xs, ex, hx, q⟩ | ⟨a, xs, ex, hx, q⟩ | ⟨z, ex, hz, q⟩
  · subst ex
    cases r1
    obtain ⟨its, r, ht, hz⟩ := I5.list hx
    have hlen := r.length
    refine tail_any (ops := [.ref a, .ref s4.heap.objs.size]) ht.isList.typeIs (PySem.slot_list_getitem.lookup) ?_ (by with_unfolding_all rfl)
    refine wpAny_getItem_list_slice ht.isList (Heap.IsSliceOf.new _ vl vu vs) pl pu ps (by decide) ?_ (by rw [List.size_toArray]; omega)
    rw [PySem.W.krv_pick]
    refine ⟨.ref _, _, I5.laid (t' := s4.toks) (o := .lst xs.reverse) (fun b ob q => Heap.get?_push_of_some _ q) (Nat.le_refl _) ?_, rfl, q _ (I5.hok.fresh (Nat.le_refl _))⟩
    exact ⟨by rw [List.length_reverse]; exact hz, _, 0, r.reverse, Heap.get?_push_size _ rfl⟩
  · subst ex
    cases r1
    obtain ⟨its, r, ht, hz⟩ := I5.tuple hx
    have hlen := r.length
    refine tail_any (ops := [.ref a, .ref s4.heap.objs.size]) ht.typeIs (PyProof.Rows.slot_tuple_getitem.lookup) ?_ (by with_unfolding_all rfl)
    refine getItem_tuple_back ht (Heap.IsSliceOf.new _ vl vu vs) pl pu ps ?_ (by rw [List.size_toArray]; omega)
    refine ⟨.ref _, _, I5.laid (t' := s4.toks) (o := .tup xs.reverse) (fun b ob q => Heap.get?_push_of_some _ q) (Nat.le_refl _) ?_, rfl, q _ (I5.hok.fresh (Nat.le_refl _))⟩
    exact ⟨by rw [List.length_reverse]; exact hz, _, r.reverse, IsTup.new _ _⟩
  · subst ex
    obtain ⟨t, rfl⟩ := r1
    obtain ⟨l, rfl, el⟩ := IsPart.raw pl
    obtain ⟨u, rfl, eu⟩ := IsPart.raw pu
    obtain ⟨st, rfl, es⟩ := IsPart.raw ps
    refine tail_any (ops := [.str z t, .ref s4.heap.objs.size]) (typeIs_str _ _ _) F.slot_str_getitem.lookup ?_ (by with_unfolding_all rfl)
    have el' : l = none := by cases l with
      | none => rfl
      | some _ => cases el
    have eu' : u = none := by cases u with
      | none => rfl
      | some _ => cases eu
    have est : ∃ t', st = some (-1, t') := by
      cases st with
      | none => cases es
      | some p =>
        obtain ⟨i, t'⟩ := p
        have e' : some i = some (-1) := es
        cases e'
        exact ⟨t', rfl⟩
    obtain ⟨t', rfl⟩ := est
    subst el' eu'
    obtain ⟨os, hos, hcs, hds⟩ : Heap.IsSliceOf _ s4.heap.objs.size _ _ _ := Heap.IsSliceOf.new s4.heap .none .none (.int (-1) t')
    refine wpAny_getItem_str_slice (l := none) (u := none) (st := some (-1, t')) ⟨os, hos, hcs, hds⟩ rfl ?_
    show Made.post (if ((-1 : Int) == 1 && (Builtin.Str.strSliceIndices none none (-1) z.length).length == z.length) = true then Made.val (.str z t)
      else Made.str ⟨((Builtin.Str.strSliceIndices none none (-1) z.length).filterMap (z.cps[·]?)).toArray⟩) (EP X pins σ Q) _
    rw [show ((-1 : Int) == 1) = false from rfl, Bool.false_and, if_neg (by decide), revS_by]
    have hl : (revS z).length ≤ sizeLine := by
      show (z.cps.toList.reverse.toArray).size ≤ _
      rw [List.size_toArray, List.length_reverse, Array.length_toList]
      exact hz
    exact ⟨hl, .str _, _, I5.tok _, ⟨_, rfl⟩, q⟩
end
end DL
end L2

set_option Elab.async false
set_option linter.all false
set_option maxRecDepth 100000
set_option maxHeartbeats 1600000
/-! x[::-1], sorted, sorted(set(xs)) over data -/
namespace L2
namespace DL
open PySem PySem.Spec PyProof.Rows
def gRev : D → M D
  | .list ds => M.ret (.list ds.reverse)
  | .tuple ds => M.ret (.tuple ds.reverse)
  | .str z => if szOk z.length = true then M.ret (.str (revS z)) else M.no
  | _ => M.no
section
variable {X : Cx} {W : WX} {e a b c : Expr} {es : List Expr} {fa fb fc : Env' → M D} {fs : Env' → M (List D)} {pos p : Pos}
theorem ej_rev {k : Nat} {p1 p2 p3 : Pos} (ha : EJ X W a fa) : EJ X W (.Subscript a (.Slice none none (some (.UnaryOp .USub (.Constant (.int 1) k p1) p2)) p3) pos) (x1 gRev fa) := by
  refine pe_imp (pe_revA ha) fun σ H Q h => ?_
  obtain ⟨μ, S, ρ, he, hw, h⟩ := h
  refine ⟨μ, S, ρ, he, hw, h.bind.mono fun d μ1 S1 H1 s1 w1 h1 v a1 => ?_⟩
  cases d with
  | list ds =>
    obtain ⟨p, xs, rfl, k1, k2⟩ := at_list a1
    exact .inl ⟨p, xs, rfl, nh_same.seq k1, fun q hq => Post.new h1 w1 hq _ _ (at_new_list w1 hq (dpAll_reverse k2))⟩
  | tuple ds =>
    obtain ⟨p, xs, rfl, k1, k2⟩ := at_tup a1
    exact .inr (.inl ⟨p, xs, rfl, seqT_mono nh_same k1, fun q hq => Post.new h1 w1 hq _ _ (at_new_tup w1 hq (dpAll_reverse k2))⟩)
  | str z =>
    unfold gRev at h1
    by_cases q : szOk z.length = true
    · simp only [if_pos q] at h1
      exact .inr (.inr ⟨z, at_str a1, szOk_le q, Post.here h1 w1 _ (.inr (.str _))⟩)
    · simp only [if_neg q] at h1
      exact h1.elim
  | none => exact h1.elim
  | bool _ => exact h1.elim
  | int _ => exact h1.elim
  | dict _ => exact h1.elim
end
/-! ### sorted -/
def kI : D → Option (List Int)
  | .tuple ds => match intsD ds with
    | some (n :: ns) => some (n :: ns)
    | _ => none
  | _ => none
def kP : D → Option (List Int)
  | .tuple [.int i, .tuple ds] => (intsD ds).map (i :: ·)
  | _ => none
theorem kI_mk {d : D} {ns : List Int} (h : kI d = some ns) : d = mkI ns ∧ ns ≠ [] := by
  unfold kI at h
  split at h
  · split at h
    · rename_i ds n ms e
      cases h
      exact ⟨congrArg PyData.tuple (of_ints e), by simp⟩
    · cases h
  · cases h
theorem kP_mk {d : D} {ns : List Int} (h : kP d = some ns) : d = mkP ns ∧ ns ≠ [] := by
  unfold kP at h
  split at h
  · rename_i i ds
    obtain ⟨ms, e, rfl⟩ := Option.map_eq_some_iff.mp h
    refine ⟨?_, by simp⟩
    show PyData.tuple [.int i, .tuple ds] = PyData.tuple [.int i, .tuple (ms.map .int)]
    rw [of_ints e]
  · cases h
theorem kI_back {ns : List Int} (h : ns ≠ []) : kI (mkI ns) = some ns := by
  cases ns with
  | nil => exact absurd rfl h
  | cons n ns =>
    show (match intsD ((n :: ns).map PyData.int) with
      | some (n :: ns) => some (n :: ns)
      | _ => none) = _
    rw [ints_map]
theorem kP_back (i : Int) (ns : List Int) : kP (mkP (i :: ns)) = some (i :: ns) := by
  show (intsD (ns.map PyData.int)).map (i :: ·) = _
  rw [ints_map]; rfl
theorem allOf_mem {α : Type} {f : D → Option α} : ∀ {ds : List D} {as : List α}, allOf f ds = some as → ∀ a, a ∈ as → ∃ d, d ∈ ds ∧ f d = some a
  | [], as, e, a, h => by
    have e' : some ([] : List α) = some as := e
    cases e'; cases h
  | d :: ds, as, e, a, h => by
    have e' : (match f d, allOf f ds with
      | some a, some as => some (a :: as)
      | _, _ => none) = some as := e
    cases h1 : f d with
    | none => rw [h1] at e'; cases e'
    | some b =>
      cases h2 : allOf f ds with
      | none => rw [h1, h2] at e'; cases e'
      | some bs =>
        rw [h1, h2] at e'
        cases e'
        rcases List.mem_cons.mp h with rfl | h
        · exact ⟨d, List.mem_cons_self, h1⟩
        · obtain ⟨d', m, k⟩ := allOf_mem h2 a h
          exact ⟨d', List.mem_cons_of_mem _ m, k⟩
def oSorted : List D → Option D
  | [.list ds] => match intsD ds with
    | some ns => some (.list ((srtG ltI ns).map .int))
    | none => match allOf kI ds with
      | some ks => some (.list ((srtG HT.lexLt ks).map mkI))
      | none => (allOf kP ds).map fun ks => .list ((srtG HT.lexLt ks).map mkP)
  | _ => none
section
variable {K : PySem.W.Frag} {mg : Str → Option Value} {H : Hp}
theorem dpAll_zip : ∀ {xs : List V} {ks : List (List Int)} {mk : List Int → D}, DpAll K H xs (ks.map mk) → ∀ p, p ∈ xs.zip ks → Dp K H p.1 (mk p.2)
  | [], _, _, _, p, h => by simp at h
  | _ :: _, [], _, _, p, h => by simp at h
  | x :: xs, k :: ks, _, h, p, hp => by
    cases h with
    | cons h1 h2 =>
      rw [List.zip_cons_cons] at hp
      rcases List.mem_cons.mp hp with rfl | hp
      · exact h1
      · exact dpAll_zip h2 p hp
theorem dpAll_pairs {mk : List Int → D} : ∀ {ps : List (V × List Int)}, (∀ p, p ∈ ps → Dp K H p.1 (mk p.2)) → DpAll K H (ps.map (·.1)) ((ps.map (·.2)).map mk)
  | [], _ => .nil
  | p :: ps, h => .cons (h p List.mem_cons_self) (dpAll_pairs fun q hq => h q (List.mem_cons_of_mem _ hq))
/-- what may follow from a new list of es -/
def NewL (K : PySem.W.Frag) (μ : Mu) (S : Wd) (H : Hp) (d : D) (Q : VK) : Prop := ∀ es zs p, d = .list es → H p = none → DpAll K (Nh μ S.length H) zs es → Q (.ref p) (upd H p (.lst zs))
theorem cs_sortedK {mk : List Int → D} {ok : List Int → Prop} {μ : Mu} {S : Wd} {ds : List D} {ks : List (List Int)} {v : V} {Q : VK} (e : ds = ks.map mk) (hok : ∀ k, k ∈ ks → ok k)
    (b : At K μ S.length (Nh μ S.length H) v (.list ds)) (f : NewL K μ S H (.list ((srtG HT.lexLt ks).map mk)) Q) : rSortedK K mk ok [v] H Q := by
  obtain ⟨p, xs, rfl, h1, h2⟩ := at_list b
  subst e
  refine ⟨p, xs, ks, rfl, nh_same.seq h1, dpAll_mono nh_same _ _ h2, hok, fun ps p hp e hn => ?_⟩
  have q := dpAll_pairs (ps := ps) fun r hr => dpAll_zip h2 r (hp.mem_iff.mp hr)
  rw [e] at q
  exact f _ _ _ rfl hn q
theorem rd_sorted {μ : Mu} {S : Wd} {vs : List V} {ds : List D} {d : D} {Q : VK} (a : Paired (At K μ S.length (Nh μ S.length H)) vs ds) (e : oSorted ds = some d) (f : NewL K μ S H d Q) :
    rSortedI K vs H Q ∨ rSortedK K mkI (fun ns => ns ≠ []) vs H Q ∨ rSortedK K mkP (fun ns => ns ≠ []) vs H Q := by
  unfold oSorted at e
  split at e
  · rename_i ds
    obtain ⟨v, rfl, b⟩ := pr1 a
    split at e
    · rename_i ns e1
      cases e
      obtain ⟨p, rfl, q⟩ := at_ints b e1
      refine .inl ⟨p, ns, rfl, q, fun ns' p' hp hs hn => ?_⟩
      have e2 : ns' = srtG ltI ns := srtG_uniq tot_int hp (hs.imp fun {x y} h => decide_eq_false (by omega))
      rw [e2]
      exact f _ _ _ rfl hn (dpAll_of_int _)
    · split at e
      · rename_i ks e2
        cases e
        exact .inr (.inl (cs_sortedK (of_allOf (fun d a h => (kI_mk h).1) e2) (fun k hk => let ⟨d, _, h⟩ := allOf_mem e2 k hk; (kI_mk h).2) b f))
      · obtain ⟨ks, e2, rfl⟩ := Option.map_eq_some_iff.mp e
        exact .inr (.inr (cs_sortedK (of_allOf (fun d a h => (kP_mk h).1) e2) (fun k hk => let ⟨d, _, h⟩ := allOf_mem e2 k hk; (kP_mk h).2) b f))
  · cases e
theorem cs_sorted : CallS K mg (fun vs H Q => rSortedI K vs H Q ∨ rSortedK K mkI (fun ns => ns ≠ []) vs H Q ∨ rSortedK K mkP (fun ns => ns ≠ []) vs H Q) (gO oSorted) := cs_of fun μ S H vs ds d Q sz w a e f =>
  rd_sorted a e fun es zs p ed hn hd => by subst ed; exact f.new w hn (at_new_list w hn hd)
end
/-! ### sorted(set(xs)) -/
def oSortedSet : D → Option D
  | .list ds => match intsD ds with
    | some ns => if decide ((srtU ltI ns).length + 1 < 4096) = true then some (.list ((srtU ltI ns).map .int)) else none
    | none => match allOf kI ds with
      | some ks => if decide (ks.length < 64) = true then some (.list ((srtU HT.lexLt ks).map mkI)) else none
      | none => none
  | _ => none
def gSortedSet : D → M D := fun d => ofO (oSortedSet d)
theorem nodup_len {α : Type} [DecidableEq α] : ∀ (l m : List α), l.Nodup → (∀ x ∈ l, x ∈ m) → l.length ≤ m.length
  | [], _, _, _ => Nat.zero_le _
  | x :: l, D, hn, hs => by
    obtain ⟨h1, h2⟩ := List.nodup_cons.mp hn
    have hx : x ∈ D := hs x List.mem_cons_self
    have ih := nodup_len l (D.erase x) h2 fun y hy => by
      have hne : y ≠ x := fun e => h1 (e ▸ hy)
      exact (List.mem_erase_of_ne hne).2 (hs y (List.mem_cons_of_mem _ hy))
    have e := List.length_erase_of_mem hx
    have hp : 0 < D.length := List.length_pos_of_mem hx
    rw [List.length_cons]
    omega
theorem few_srtU (ns : List Int) : Few ns (srtU ltI ns).length := fun ks nd hs => nodup_len ks _ nd fun x hx => (srtU_mem tot_int ns x).mpr (hs x hx)
theorem dpAll_refs {K : PySem.W.Frag} {H : Hp} : ∀ {xs : List V} {ks : List (List Int)}, DpAll K H xs (ks.map mkI) → ∃ L : List (Addr × List Int), xs = L.map (fun p => V.ref p.1) ∧ ks = L.map (·.2) ∧ ∀ p, p ∈ L → Dp K H (.ref p.1) (mkI p.2)
  | [], [], _ => ⟨[], rfl, rfl, fun _ h => by cases h⟩
  | [], _ :: _, h => by cases h
  | _ :: _, [], h => by cases h
  | x :: xs, k :: ks, h => by
    cases h with
    | cons h1 h2 =>
      obtain ⟨L, e1, e2, h3⟩ := dpAll_refs h2
      obtain ⟨t, rfl, _⟩ := sqT_ints h1
      refine ⟨(t, k) :: L, by rw [e1]; rfl, by rw [e2]; rfl, fun p hp => ?_⟩
      rcases List.mem_cons.mp hp with rfl | hp
      · exact h1
      · exact h3 p hp
theorem sqT_of_dp {K : PySem.W.Frag} {H : Hp} {t : Addr} {ns : List Int} (h : Dp K H (.ref t) (mkI ns)) : SqT K H t (ns.map V.int) := by
  obtain ⟨t', e, h'⟩ := sqT_ints h
  cases e
  exact h'
section
variable {X : Cx} {W : WX} {e a b c : Expr} {es : List Expr} {fa fb fc : Env' → M D} {fs : Env' → M (List D)} {pos p : Pos} {k : Nat}
theorem c_sorted (hr : Room k X.A) (hm : X.mg "sorted" = none) (ha : AJ X W [a] fs) (hg : Gl X "sorted" := by rfl) (he : starEach (a :: []) X.env = (false, eval a X.env) :: starEach [] X.env := by rfl) (hpl : (backTo pos (starEach [] X.env)).any (·.1) = false := by rfl) : EJ X W (.Call (.Name "sorted" p) [a] [] pos) (xCall (gO oSorted) fs) :=
  ej_callB (cr_sortedI.or ((cr_sortedK keyD_I hr.units).or (cr_sortedK keyD_P hr.units))) cs_sorted hm (by decide +kernel) ha hg (by decide) (by decide) he hpl
def fSorted (f : Env' → M (List D)) : Env' → M (D × Bool) := fun ρ => M.bind (f ρ) fun ds => M.bind (gO oSorted ds) fun d => M.ret (d, true)
theorem fj_sorted (hr : Room k X.A) (hm : X.mg "sorted" = none) (ha : AJ X W [a] fs) (hg : Gl X "sorted" := by rfl) (he : starEach (a :: []) X.env = (false, eval a X.env) :: starEach [] X.env := by rfl) (hpl : (backTo pos (starEach [] X.env)).any (·.1) = false := by rfl) : FJ X W (.Call (.Name "sorted" p) [a] [] pos) (fSorted fs) :=
  pe_imp (pe_callB (cr_sortedI.or ((cr_sortedK keyD_I hr.units).or (cr_sortedK keyD_P hr.units))) hg hm (by decide +kernel) ha (by decide) (by decide) he hpl) fun σ H Q h => by
    obtain ⟨μ, S, ρ, hen, hw, h⟩ := h
    refine ⟨μ, S, ρ, hen, hw, h.bind.mono fun ds μ1 S1 H1 s1 w1 h1 vs a1 => ?_⟩
    have h2 := h1.bind
    unfold gO at h2
    obtain ⟨d, e, h2⟩ := h2.ofO
    have h3 := h2.here w1
    refine rd_sorted a1 e fun es zs p ed hn hd => ?_
    subst ed
    exact Post.new h3 w1 hn _ _ (fr_new w1 hn (still s1 hw w1 hn) hd)
theorem c_sortedSet {q : Pos} (hc : X.calm = true) (hr : Room k X.A) (hm : X.mg "sorted" = none) (hm2 : X.mg "set" = none) {p2 : Pos} (ha : EJ X W a fa) (hg : Gl X "sorted" := by rfl) (hg2 : Gl X "set" := by rfl)
    (he2 : starEach (a :: []) X.env = (false, eval a X.env) :: starEach [] X.env := by rfl) (hpl2 : (backTo q (starEach [] X.env)).any (·.1) = false := by rfl)
    (he : starEach (.Call (.Name "set" p2) [a] [] q :: []) X.env = (false, eval (.Call (.Name "set" p2) [a] [] q) X.env) :: starEach [] X.env := by rfl) (hpl : (backTo pos (starEach [] X.env)).any (·.1) = false := by rfl) :
    EJ X W (.Call (.Name "sorted" p) [.Call (.Name "set" p2) [a] [] q] [] pos) (x1 gSortedSet fa) := by
  have hu := hr.units
  refine pe_imp (pe_callB ((cr_sortedSetI hc).or (cr_sortedSetU hc hu)) hg hm (by decide +kernel) (pa_cons (pe_callTy ((cr_setI hc).or (cr_setOfT hc hu)) hg2 hm2 (by decide +kernel) (pa_cons ha pa_nil he2) (by decide) (by decide) he2 hpl2) pa_nil he) (by decide) (by decide) he hpl) fun σ H Q h => ?_
  obtain ⟨μ, S, ρ, hen, hw, h⟩ := h
  refine ⟨μ, S, ρ, hen, hw, h.bind.mono fun d μ1 S1 H1 s1 w1 h1 v a1 => ?_⟩
  obtain ⟨d', e, h1⟩ := h1.ofO
  unfold oSortedSet at e
  split at e
  · rename_i ds
    split at e
    · rename_i ns e1
      split at e
      · rename_i hlen
        cases e
        obtain ⟨q, rfl, hq⟩ := at_ints a1 e1
        refine .inl ⟨q, ns, _, rfl, hq, few_srtU ns, of_decide_eq_true hlen, fun T c hT => ?_⟩
        refine .inl ⟨T, _, c, rfl, upd_same, fun ns' p' hs hd hmm hp' => ?_⟩
        obtain ⟨st1, w2⟩ := step_new w1 hT (SetO X.w T (fun j => decide (j ∈ ns)) c)
        obtain ⟨st2, w3⟩ := step_new w2 hp' (.lst (ns'.map V.int))
        have e2 : ns' = srtU ltI ns := srtU_uniq tot_int hd (fun z => (hmm z).trans decide_eq_true_iff) (hs.imp fun {x y} h => decide_eq_false (by omega))
        subst e2
        exact h1 _ _ (st1.trans st2) w3 _ (at_new_list w2 hp' (dpAll_of_int _))
      · cases e
    · split at e
      · rename_i ks e2
        split at e
        · rename_i hlen
          cases e
          obtain ⟨q, xs, rfl, k1, k2⟩ := at_list a1
          rw [of_allOf (fun d a h => (kI_mk h).1) e2] at k2
          have hne : ∀ k, k ∈ ks → k ≠ [] := fun k hk => let ⟨d, _, h⟩ := allOf_mem e2 k hk; (kI_mk h).2
          obtain ⟨L0, rfl, rfl, hL⟩ := dpAll_refs k2
          have hlen' : L0.length < 64 := by simpa using of_decide_eq_true hlen
          refine .inr ⟨q, L0, rfl, nh_same.seq k1, fun p hp => seqT_mono nh_same (sqT_of_dp (hL p hp)), hlen', fun T L hT hs hm => ?_⟩
          obtain ⟨st1, w2⟩ := step_new w1 hT (SetTO X.prog X.w T L)
          refine .inr ⟨T, L, rfl, upd_same, fun p hp => seqT_mono (st1.keep.trans nh_same) (sqT_of_dp (hL p (hs p hp))), fun p hp => hne _ (List.mem_map.mpr ⟨p, hs p hp, rfl⟩), fun L' p' hs' hd hmm hso hp' => ?_⟩
          obtain ⟨st2, w3⟩ := step_new w2 hp' (.lst (L'.map fun q => V.ref q.1))
          have e3 : L'.map (·.2) = srtU HT.lexLt (L0.map (·.2)) := srtU_uniq tot_lex hd (fun z => (hmm z).trans ⟨fun m => ?_, fun m => ?_⟩) hso
          · refine h1 _ _ (st1.trans st2) w3 _ (at_new_list w2 hp' ?_)
            rw [← e3, List.map_map]
            have q : DpAll X.K (Nh μ1 S1.length (upd H1 T (SetTO X.prog X.w T L))) ((L'.map fun q => (V.ref q.1, q.2)).map (·.1)) (((L'.map fun q => (V.ref q.1, q.2)).map (·.2)).map mkI) := dpAll_pairs fun r hr => by
              obtain ⟨l, hl, rfl⟩ := List.mem_map.mp hr
              exact dp_mono st1.keep _ _ (hL l (hs l (hs' l hl)))
            rw [List.map_map, List.map_map, List.map_map] at q
            exact q
          · obtain ⟨l, hl, rfl⟩ := List.mem_map.mp m
            exact List.mem_map.mpr ⟨l, hs l hl, rfl⟩
          · obtain ⟨l, hl, rfl⟩ := List.mem_map.mp m
            exact hm l hl
        · cases e
      · cases e
  · cases e
end
end DL
end L2

set_option Elab.async false
set_option linter.all false
set_option maxRecDepth 100000
set_option maxHeartbeats 1600000
/-! enumerate of a tuple -/
namespace L2
namespace DL
open PySem PySem.Spec PyProof.Rows
theorem new_enum {v : Value} {o : Obj} {Z : Heap → Prop} (B : PySem.Begins v o Z) :
    Meets (Builtin.«enumerate.__new__» ⟨[.type "enumerate", v], []⟩) (fun _ R s => Z s.heap ∧
      R (.ok (.ret (.ref (s.heap.push o).objs.size))) { s with heap := (s.heap.push o).push { cls := .type "enumerate", data := .fields #[.none, .bool false, .ref s.heap.objs.size, rawInt 0, .none, .none] } }) :=
  .of_wp fun prog w A R s h => by
    obtain ⟨hp, g, d, tk, os⟩ := s
    obtain ⟨z, h⟩ := h
    have hsub := sub_enumerate
    have it : ∀ {A' : Around} {E' : Value → Shared → Prop} {Q' : Value → Shared → Prop}, Q' (.ref hp.objs.size) ⟨hp.push o, g, d, tk, os⟩ → wpAny (model prog w) A' (pyIter v) Q' E' ⟨hp, g, d, tk, os⟩ :=
      fun q => B.iter prog w _ _ ⟨hp, g, d, tk, os⟩ _ z q
    wp_walk using it
    refine wpAny_stack_any fun _ => wpAny_pure ?_
    split
    · rename_i c _ _ _ _ _
      cases (c == Value.type "enumerate") <;> (wp_walk using it; exact ⟨_, rfl, h⟩)
    · wp_walk using it
      exact ⟨_, rfl, h⟩
theorem call_enum {prog : Program} {w : World} {A : Around} {E : Value → Shared → Prop} {s : Shared} {v : Value} {o : Obj} {Z : Heap → Prop} {Q : Value → Shared → Prop} (B : PySem.Begins v o Z) (z : Z s.heap)
    (h : ∀ h', IsEnum h' (s.heap.objs.size + 1) s.heap.objs.size 0 .none → h'.get? s.heap.objs.size = some o → (∀ b u, s.heap.get? b = some u → h'.get? b = some u) → Q (.ref (s.heap.objs.size + 1)) { s with heap := h' }) :
    wpAny (model prog w) A (call (.type "enumerate") [v]) Q E s := by
  refine callType_new F.called_enumerate (by decide) (F.typeCall_enumerate_1 _) (F.newCall_enumerate_1 _) (fun obj => F.args_object_init_2 obj _) F.entry_enumerate_new (new_enum B) ⟨z, ?_⟩
  have hz : (s.heap.push o).objs.size = s.heap.objs.size + 1 := Heap.size_push ..
  show _ ∧ _
  rw [hz]
  have he : ((s.heap.push o).push { cls := .type "enumerate", data := .fields #[.none, .bool false, .ref s.heap.objs.size, rawInt 0, .none, .none] }).get? (s.heap.objs.size + 1) = some { cls := .type "enumerate", data := .fields #[.none, .bool false, .ref s.heap.objs.size, rawInt 0, .none, .none] } := by
    rw [← hz]; exact Heap.get?_push_size _ rfl
  exact ⟨⟨_, he, rfl⟩, h _ he (Heap.get?_push_of_some _ (Heap.get?_push_size _ B.free)) fun b u x => Heap.get?_push_of_some _ (Heap.get?_push_of_some _ x)⟩
/-- the tuple at a, each item in a new pair -/
def IteT (K : PySem.W.Frag) (a : Addr) : It :=
  ⟨fun i H => ∃ (xs : List V) (x : V), SqT K H a xs ∧ xs[i]? = some x, fun i H v H' => ∃ T x, v = .ref T ∧ H T = none ∧ H' = upd H T (.tup [.int (i : Nat), x]) ∧ ∀ xs, SqT K H a xs → xs[i]? = some x, fun i H => ∃ xs : List V, SqT K H a xs ∧ xs.length = i⟩
theorem turn_enumT {P : Program} {w : World} {K : PySem.W.Frag} {elts : List Expr} {kk : Nat} {tpos : Pos} (a e it : Addr) :
    Turn P w K (.Tuple elts kk tpos) (IteT K a) [e, it] e (fun i h => (∃ old, IsEnum h e it ((i : Nat) : Int) old) ∧ h.IsTupleIter it a i ∧ e ≠ it) where
  mem := by simp
  obj := fun i h st b hb => by
    obtain ⟨⟨old, he⟩, ⟨o, ho, hc, hd⟩, _⟩ := st
    have e' : b = e ∨ b = it := by simpa using hb
    rcases e' with z | z
    · rw [z]; exact ⟨_, he, fun v q => nomatch q⟩
    · rw [z]; exact ⟨o, ho, fun v q => by rw [hd] at q; cases q⟩
  keep := fun i h h' st k => let ⟨⟨old, he⟩, hi, hne⟩ := st; ⟨⟨old, k e (by simp) _ he⟩, hi.at fun o q => k it (by simp) o q, hne⟩
  item := by
    intro X hP hw hK hc i pins s σ H E I hf st hg
    subst hP hw hK
    obtain ⟨⟨old, he⟩, hit, hne⟩ := st
    obtain ⟨xs, x, hq, hx⟩ := hg
    obtain ⟨its, rv, p, hz⟩ := I.tuple hq
    obtain ⟨u, hu, ru⟩ := rv.get hx
    have hel : e < s.heap.objs.size := Heap.lt_size he
    have hil : it < s.heap.objs.size := by obtain ⟨_, q, _⟩ := hit; exact Heap.lt_size q
    have hal : ∃ o, s.heap.get? a = some o ∧ o.cls = .type "tuple" := let ⟨o, ho, hc, _⟩ := p; ⟨o, ho, hc⟩
    have hai : a ≠ it := fun z => by
      obtain ⟨o, ho, hc⟩ := hal
      obtain ⟨o', ho', hc', _⟩ := hit
      rw [z, ho'] at ho
      cases ho
      rw [hc] at hc'
      exact absurd (Value.type.inj hc') (by decide)
    have hae : e ≠ a := fun z => by
      obtain ⟨o, ho, hc⟩ := hal
      rw [← z] at ho
      have := he.symm.trans ho
      cases this
      exact absurd (Value.type.inj hc) (by decide)
    have hlt : i < its.toArray.size := by
      have := (List.getElem?_eq_some_iff.mp hu).1
      simpa using this
    have pT : s.heap.IsTuple a its.toArray := let ⟨o, ho, hc, n, hd⟩ := p; ⟨o, ho, hc, n, hd⟩
    refine wpAny_pyNext_enum_itemD (Draws.tuple (A := X.A.in1) (I.ok.hd hc) it a hai its.toArray) he ⟨hit, pT⟩ hlt hne (by simp [hne, hae]) fun y h' tk hy ho st' hT hsz hk => ?_
    have ey : y = u := by
      have q : its.toArray[i]? = some u := by simpa using hu
      exact Option.some.inj (hy.symm.trans q)
    subst ey
    refine ⟨_, rfl, wpAny_letOwnedTupleGo_enum (s := { s with heap := h', toks := tk + 1 }) ho fun h'' he' sb => ?_⟩
    have hT2 : h''.get? s.heap.objs.size = some { cls := .type "tuple", data := .seq #[.int i tk, y] } := (sb.2 _ (Nat.ne_of_gt hel)).trans hT
    have new : ObjOk X.prog X.w (upd H s.heap.objs.size (.tup [.int (i : Nat), x])) h'' s.heap.objs.size (.tup [.int (i : Nat), x]) :=
      ⟨by show 2 ≤ sizeLine; decide, [.int i tk, y], .cons ⟨_, rfl⟩ (.cons ru .nil), ⟨_, hT2, rfl, _, rfl⟩⟩
    have I1 : Inv X pins σ (upd H s.heap.objs.size (.tup [.int (i : Nat), x])) { s with heap := h'', toks := tk + 1 } :=
      I.turnedNew (ch := [e, it]) (fun b ob hb q => (sb.2 b (fun z => hb (by simp [z]))).trans (hk b ob (fun z => hb (by simp [z])) (fun z => hb (by simp [z])) q)) hf (Nat.le_refl _) new
    refine ⟨.ref s.heap.objs.size, _, I1, rfl, ⟨_, x, rfl, I.hok.fresh (Nat.le_refl _), rfl, fun ys hys => by rw [I.tuple_inj hys hq]; exact hx⟩, ⟨⟨y, ?_⟩, st'.1.at fun o q => (sb.2 it (Ne.symm hne)).trans q, hne⟩, fun b hb => ?_⟩
    · have e1 : ((i + 1 : Nat) : Int) = (i : Int) + 1 := by omega
      rw [e1]; exact he'
    · have hb' : b < s.heap.objs.size := by
        have e' : b = e ∨ b = it := by simpa using hb
        rcases e' with z | z
        · rw [z]; exact hel
        · rw [z]; exact hil
      rw [upd_ne (Nat.ne_of_lt hb')]
      exact (hf b hb).1
  done := by
    intro X hP hw hK hc i pins s σ H E I hf st hg
    subst hP hw hK
    obtain ⟨⟨old, he⟩, hit, hne⟩ := st
    obtain ⟨xs, hq, hx⟩ := hg
    obtain ⟨its, rv, p, hz⟩ := I.tuple hq
    obtain ⟨f0, f1, f2, f3, f4, f5⟩ := hf it (by simp)
    have hl := rv.length
    have hai : a ≠ it := fun z => by
      obtain ⟨o, ho, hc, _⟩ := p
      obtain ⟨o', ho', hc', _⟩ := hit
      rw [z, ho'] at ho
      cases ho
      rw [hc] at hc'
      exact absurd (Value.type.inj hc') (by decide)
    have pT : s.heap.IsTuple a its.toArray := let ⟨o, ho, hc, n, hd⟩ := p; ⟨o, ho, hc, n, hd⟩
    have hn : its.toArray.size = i := by rw [List.size_toArray, ← hl, hx]
    have hit' : s.heap.IsTupleIter it a its.toArray.size := by rw [hn]; exact hit
    exact wpAny_pyNext_enum_endD (Draws.tuple (A := X.A.in1) (I.ok.hd hc) it a hai its.toArray) he ⟨hit', pT⟩ fun h' eb => ⟨rfl, I.turned (t' := s.toks) (fun b o hb q => eb b o hb q) f0 f1 f3 f4 f5⟩
  self := fun A i s Q E st h => let ⟨⟨_, he⟩, _⟩ := st; wpAny_pyIter_enum he h
def tEnumT (K : PySem.W.Frag) (ta : TA) : TI := fun σ H R => ta σ H fun vs H1 => ∃ a xs, vs = [.ref a] ∧ SqT K H1 a xs ∧ R (IteT K a) H1
section
variable {X : Cx} {W : WX} {tg e a b : Expr} {fa fb : Env' → M D} {pos : Pos}
theorem pi_enumT {ta : TA} {p tpos : Pos} {elts : List Expr} {kk : Nat} (hg : Gl X "enumerate") (hm : X.mg "enumerate" = none) (ha : PA X [e] ta) (hs : starEach [e] X.env = [(false, eval e X.env)] := by rfl) :
    PI X (.Tuple elts kk tpos) (.Call (.Name "enumerate" p) [e] [] pos) (tEnumT X.K ta) := by
  refine ⟨fun pins s σ H R I h => ?_⟩
  refine Call_ (ld_blt I hg hm boot_enumerate (PyProof.Rows.callWith_type1 (thn (ha.run pos pins s σ H _ I h) fun us s1 ⟨vs, H1, I1, r1, q1⟩ => ?_) hs rfl))
  obtain ⟨a, xs, ex, hq, q⟩ := q1
  subst ex
  cases r1 with
  | cons r rr =>
    cases rr
    cases r
    obtain ⟨its, rv, p', hz⟩ := I1.tuple hq
    have pT : s1.heap.IsTuple a its.toArray := let ⟨o, ho, hc, n, hd⟩ := p'; ⟨o, ho, hc, n, hd⟩
    refine call_enum (PySem.begins_tuple a its.toArray) pT fun h' he ho hk => wpAny_pyIter_enum he ?_
    have hit : h'.IsTupleIter s1.heap.objs.size a 0 := ⟨_, ho, rfl, rfl⟩
    have I2 : Inv X pins σ H1 { s1 with heap := h' } := I1.kept (t' := s1.toks) hk
    refine ⟨s1.heap.objs.size + 1, [s1.heap.objs.size + 1, s1.heap.objs.size], _, _, H1, rfl, I2, turn_enumT a (s1.heap.objs.size + 1) s1.heap.objs.size, ⟨⟨.none, he⟩, hit, Nat.succ_ne_self _⟩, fun b hb => ?_, q⟩
    have e' : b = s1.heap.objs.size + 1 ∨ b = s1.heap.objs.size := by simpa using hb
    have hle : s1.heap.objs.size ≤ b := by
      rcases e' with z | z
      · rw [z]; exact Nat.le_add_right _ _
      · rw [z]; exact Nat.le_refl _
    exact I1.fpOk hle (I1.hok.fresh hle)
def numD (i : Nat) : List D → List D
  | [] => []
  | d :: ds => .tuple [.int i, d] :: numD (i + 1) ds
def oEnum : List D → Option (List D)
  | [.list xs] => some (numD 0 xs)
  | [.tuple xs] => some (numD 0 xs)
  | _ => none
theorem numD_len : ∀ (ds : List D) (i : Nat), (numD i ds).length = ds.length
  | [], _ => rfl
  | _ :: ds, i => congrArg (· + 1) (numD_len ds (i + 1))
theorem numD_get : ∀ (ds : List D) (i j : Nat) {d : D}, ds[j]? = some d → (numD i ds)[j]? = some (.tuple [.int ((i + j : Nat) : Int), d])
  | [], _, _, _, h => by simp at h
  | d :: ds, i, 0, _, h => by
    simp at h
    subst h
    rfl
  | d :: ds, i, j + 1, d', h => by
    have := numD_get ds (i + 1) j (d := d') (by simpa using h)
    have e : i + 1 + j = i + (j + 1) := by omega
    rw [e] at this
    exact this
theorem iter_enumT {K : PySem.W.Frag} {Hb : Hp} {a : Addr} {xs : List V} {ds : List D} (h : SqT K Hb a xs) (k : DpAll K Hb xs ds) (z : xs.length ≤ sizeLine) : IterOk K Hb (IteT K a) (numD 0 ds) := by
  have hl := dpAll_length k
  refine ⟨by rw [numD_len, ← hl]; exact z, fun i H hi e => ?_, fun H e => ⟨xs, seqT_mono e h, by rw [numD_len, hl]⟩, fun i H x H' hi e y => ?_⟩
  · rw [numD_len] at hi
    exact ⟨xs, xs[i]'(by omega), seqT_mono e h, List.getElem?_eq_getElem _⟩
  · rw [numD_len] at hi
    obtain ⟨T, x1, rfl, hT, rfl, f⟩ := y
    obtain ⟨d, h1, h2⟩ := dpAll_get k (f xs (seqT_mono e h))
    refine ⟨_, numD_get ds 0 i h1, .inr ⟨T, _, x1, _, d, rfl, hT, rfl, rfl, ?_, h2⟩⟩
    rw [Nat.zero_add]
    exact .int _
theorem iter_enumL {K : PySem.W.Frag} {Hb : Hp} {a : Addr} {xs : List V} {ds : List D} (h : SqL K Hb a xs) (k : DpAll K Hb xs ds) (z : xs.length ≤ sizeLine) : IterOk K Hb (Ite K a) (numD 0 ds) := by
  have hl := dpAll_length k
  refine ⟨by rw [numD_len, ← hl]; exact z, fun i H hi e => ?_, fun H e => ⟨xs, e.seq h, by rw [numD_len, hl]; exact Nat.le_refl _⟩, fun i H x H' hi e y => ?_⟩
  · rw [numD_len] at hi
    exact ⟨xs, xs[i]'(by omega), e.seq h, List.getElem?_eq_getElem _⟩
  · rw [numD_len] at hi
    obtain ⟨T, x1, rfl, hT, rfl, f⟩ := y
    obtain ⟨d, h1, h2⟩ := dpAll_get k (f xs (e.seq h))
    refine ⟨_, numD_get ds 0 i h1, .inr ⟨T, _, x1, _, d, rfl, hT, rfl, rfl, ?_, h2⟩⟩
    rw [Nat.zero_add]
    exact .int _
theorem pa_szI {es : List Expr} {t : TA} (h : PA X es t) : PA X es (fun σ H Q => t σ H fun v H' => Sz X.K H' → Q v H') := pa_sz h
theorem ij_enum {p tpos : Pos} {elts : List Expr} {kk : Nat} {f : Env' → M (List D)} (ha : AJ X W [a] f) (hm : X.mg "enumerate" = none) (hg : Gl X "enumerate" := by rfl) (hs : starEach [a] X.env = [(false, eval a X.env)] := by rfl) :
    IJ X W (.Tuple elts kk tpos) (.Call (.Name "enumerate" p) [a] [] pos) (iA oEnum f) := by
  refine pi_imp (pi_or (pi_enum hg hm (pa_sz ha) hs) (pi_enumT hg hm (pa_sz ha) hs)) fun σ H R h => ?_
  obtain ⟨μ, S, ρ, he, hw, h⟩ := h
  have hb := h.bind
  cases q : f ρ S with
  | no => rw [q] at hb; exact hb.elim
  | ex e' S' =>
    refine .inl ⟨μ, S, ρ, he, hw, ?_⟩
    rw [q] at hb ⊢
    exact hb
  | ok ds S' =>
    have go : ∀ {P : List D → Mu → Wd → Hp → Prop}, (∀ μ1 H1, Step μ S.length H μ1 S'.length H1 → WOk X.K μ1 S' H1 → (∃ es, oEnum ds = some es ∧ ∀ J, IterOk X.K (Nh μ1 S'.length H1) J es → R J H1) → P ds μ1 S' H1) → Post X.K X.mg (fun c d H' => W c d σ H') μ S H (f ρ S) P := fun k => by
      rw [q] at hb ⊢
      intro μ1 H1 s1 w1
      obtain ⟨ds, e, h1⟩ := Post.ofO (hb μ1 H1 s1 w1)
      exact k μ1 H1 s1 w1 ⟨ds, e, h1.here w1⟩
    by_cases c : ∃ xs, ds = [.list xs]
    · refine .inl ⟨μ, S, ρ, he, hw, go fun μ1 H1 s1 w1 ⟨es, e, k⟩ vs a1 sz => ?_⟩
      obtain ⟨xs, rfl⟩ := c
      cases e
      obtain ⟨v, rfl, b⟩ := pr1 a1
      obtain ⟨p, ys, rfl, h1, h2⟩ := at_list b
      exact ⟨p, ys, rfl, nh_same.seq h1, k _ (iter_enumL h1 h2 (szL sz h1))⟩
    · refine .inr ⟨μ, S, ρ, he, hw, go fun μ1 H1 s1 w1 ⟨es, e, k⟩ vs a1 sz => ?_⟩
      unfold oEnum at e
      split at e
      · exact absurd ⟨_, rfl⟩ c
      · cases e
        obtain ⟨v, rfl, b⟩ := pr1 a1
        obtain ⟨p, ys, rfl, h1, h2⟩ := at_tup b
        exact ⟨p, ys, rfl, seqT_mono nh_same h1, k _ (iter_enumT h1 h2 (szT sz h1))⟩
      · cases e
end
end DL
end L2

set_option Elab.async false
set_option linter.all false
set_option maxRecDepth 100000
set_option maxHeartbeats 1600000
/-! list(text) -/
namespace L2
namespace DL
open PySem PySem.Spec PyProof.Rows
section
variable {prog : Program} {w : World} {A : Around} {E : Value → Shared → Prop} {s : Shared}
theorem ext_text {R : Result → Shared → Prop} (hh : A.handled = none) (x : Str) (t : Tok) (B : Addr) (c0 : Nat) (hB : s.heap.get? B = some { cls := .type "list", data := .seq #[] c0 })
    (hn : x.cps.size ≤ sizeLine) (hR : ∀ h' tk its c', (∀ b o, b ≠ B → s.heap.get? b = some o → h'.get? b = some o) → h'.get? B = some { cls := .type "list", dict := none, data := .seq its c', slots := #[] } → ItemsOf (SignAt x) its x.cps.size → R (.ok (.ret .none)) { s with heap := h', toks := tk }) :
    wpAny (model prog w) A.in1 (Builtin.List.listExtendWith (.ref B) (.str x t) .none)
      (fun f s' => match f with | .done r => R (.ok r) s' | .again c' => c'.quiet = true ∧ codeAny (model prog w) A c' R s') (fun e s' => R (.error e) s') s := by
  unfold Builtin.List.listExtendWith
  refine wpAny_bind (wpAny_typeOf (T := "str") (v := .str x t) rfl ?_)
  simp only [show Builtin.List.listSameRef (.ref B) (.str x t) = false from rfl, show (Value.type "str" == Value.type "list") = false by decide, show (Value.type "str" == Value.type "tuple") = false by decide, Bool.or_false, Bool.false_eq_true, if_false]
  refine wpAny_bind (wpAny_pyIter_str fun o St W st0 => wpAny_bind (wpAny_holding ?_))
  unfold Builtin.List.listLengthHint
  refine wpAny_bind (wpAny_specialOf (T := "str") (v := .str x t) rfl F.str_len ?_)
  wp_delta
  refine wpAny_bind (wpAny_isInstance (T := "str") (v := .str x t) (b := true) rfl (by rw [isSubtype_type]; kernel_rfl) ?_)
  show wpAny _ _ (typeOf (Value.str x t) >>= _) _ _ _
  refine wpAny_bind (wpAny_typeOf (T := "str") (v := .str x t) rfl (wpAny_pure ?_))
  rw [if_neg (by decide)]
  have ne : B ∉ [s.heap.objs.size] := fun m => Nat.ne_of_lt (Heap.lt_size hB) (List.mem_singleton.mp m)
  refine wpAny_pure ⟨plainId_quiet F.plain_extend_loop _, codeAny_extend_loopS (W A.in1 hh).toS hn B ne .none x.cps.size 0 _ #[] c0 rfl (Nat.zero_le _) st0 (Heap.get?_push_of_some _ hB) (ItemsOf.nil _) fun s' its c' mv hB' hi => ?_⟩
  rw [Moved.eq_with mv]
  refine hR s'.heap s'.toks its c' (fun b o hb e => mv.heap b o (fun m => ?_) (Heap.get?_push_of_some _ e)) hB' hi
  rcases List.mem_cons.mp m with z | m
  · exact hb z
  · exact Nat.lt_irrefl _ (by have := Heap.lt_size e; rw [List.mem_singleton.mp m] at this; exact this)
theorem init_text {R : Result → Shared → Prop} (hh : A.handled = none) (x : Str) (t : Tok) (B : Addr) (hB : s.heap.get? B = some { cls := .type "list", data := .seq #[] })
    (hn : x.cps.size ≤ sizeLine) (hR : ∀ h' tk its c', (∀ b o, b ≠ B → s.heap.get? b = some o → h'.get? b = some o) → h'.get? B = some { cls := .type "list", dict := none, data := .seq its c', slots := #[] } → ItemsOf (SignAt x) its x.cps.size → R (.ok (.ret .none)) { s with heap := h', toks := tk }) :
    wpAny (model prog w) A.in1 (Builtin.«list.__init__» ⟨[.ref B, .str x t], []⟩)
      (fun f s' => match f with | .done r => R (.ok r) s' | .again c' => c'.quiet = true ∧ codeAny (model prog w) A c' R s') (fun e s' => R (.error e) s') s := by
  show wpAny _ _ (do let was ← Builtin.List.listItems (.ref B); Builtin.List.listUpdate (.ref B) (fun _ => #[]); letGo was.toList.reverse; Builtin.List.listExtendWith (.ref B) (.str x t) .none) _ _ s
  refine wpAny_bind ?_
  unfold Builtin.List.listItems
  refine wpAny_bind (wpAny_seqItems hB rfl (wpAny_pure ?_))
  show wpAny _ _ (updateSeq B (fun _ => #[]) >>= fun _ => letGo (#[] : Array Value).toList.reverse >>= fun _ => Builtin.List.listExtendWith (.ref B) (.str x t) .none) _ _ s
  refine wpAny_bind (wpAny_updateSeq hB rfl (wpAny_bind (wpAny_letGo ?_)))
  refine ext_text hh x t B _ (Heap.get?_update_self (Obj.mapSeq (fun _ => (#[] : Array Value))) hB rfl) hn fun h' tk its c' k hB' hi => hR h' tk its c' (fun b o hb e => k b o hb ?_) hB' hi
  exact (Heap.get?_update_other _ _ (Ne.symm hb)).trans e
theorem call_list_text {x : Str} {t : Tok} {Q : Value → Shared → Prop} (hh : A.handled = none) (hn : x.cps.size ≤ sizeLine)
    (hQ : ∀ h' tk its c', (∀ b o, s.heap.get? b = some o → h'.get? b = some o) → h'.get? s.heap.objs.size = some { cls := .type "list", dict := none, data := .seq its c', slots := #[] } → ItemsOf (SignAt x) its x.cps.size → Q (.ref s.heap.objs.size) { s with heap := h', toks := tk }) :
    wpAny (model prog w) A (call (.type "list") [.str x t]) Q E s := by
  refine callType_codes (Q₁ := fun v s1 => v = .ref s.heap.objs.size ∧ s1 = { s with heap := s.heap.push { cls := .type "list", data := .seq #[] } }) PySem.F.called_list (PySem.F.typeCall_list_1 _) PySem.F.entry_list_init (code_list_new _ ⟨rfl, rfl⟩) fun v s1 e => ?_
  obtain ⟨rfl, rfl⟩ := e
  have hB : (s.heap.push { cls := .type "list", data := .seq #[] }).get? s.heap.objs.size = some { cls := .type "list", data := .seq #[] } := Heap.get?_push_size _ rfl
  exact ⟨⟨_, hB, rfl⟩, PySem.F.args_list_init_2 _ _, init_text (A := A.in1) hh x t _ hB hn fun h' tk its c' k hB' hi => ⟨rfl, hQ h' tk its c' (fun b o e => k b o (Nat.ne_of_lt (Heap.lt_size e)) (Heap.get?_push_of_some _ e)) hB' hi⟩⟩
end
def sgV (c : Nat) : V := .str ⟨#[c]⟩
theorem vals_signs (x : Str) {its : Array Value} (h : ItemsOf (SignAt x) its x.cps.size) : Vals (x.cps.toList.map sgV) its.toList := by
  refine vals_of_idx _ _ (by rw [List.length_map, Array.length_toList, Array.length_toList]; exact h.1) fun j u e => ?_
  obtain ⟨c, tk, e1, e2⟩ := h.2 j u (by rw [← Array.getElem?_toList]; exact e)
  exact ⟨sgV c, by rw [List.getElem?_map, Array.getElem?_toList, e1]; rfl, tk, e2⟩
def rListS : List V → Hp → VK → Prop := fun xs H Q => ∃ z : Str, xs = [.str z] ∧ z.length ≤ sizeLine ∧ ∀ l, H l = none → Q (.ref l) (upd H l (.lst (z.cps.toList.map sgV)))
section
variable {X : Cx} {W : WX} {a : Expr} {fs : Env' → M (List D)} {pos p : Pos} {K : PySem.W.Frag} {mg : Str → Option Value}
theorem cr_listS (hc : X.calm = true) : CallR X (.type "list") rListS := by
  intro pins s σ H xs us Q I r h
  obtain ⟨z, rfl, hz, q⟩ := h
  obtain ⟨u, rfl, rx⟩ := vals1 r
  obtain ⟨t, rfl⟩ := rx
  refine call_list_text (I.ok.hd hc) hz fun h' tk its c' k hB hi => ?_
  refine ⟨.ref _, upd H s.heap.objs.size (.lst (z.cps.toList.map sgV)), I.laid (t' := tk) k (Nat.le_refl _) ?_, rfl, q _ (I.hok.fresh (Nat.le_refl _))⟩
  exact ⟨by rw [List.length_map, Array.length_toList]; exact hz, its.toList, c', vals_signs z hi, by rw [Array.toArray_toList]; exact hB⟩
theorem dp_signs {H : Hp} : ∀ l : List Nat, DpAll K H (l.map sgV) (l.map sgn)
  | [] => .nil
  | c :: l => .cons (.str _) (dp_signs l)
def oListS : List D → Option D
  | [.str z] => if szOk z.length = true then some (.list (z.cps.toList.map sgn)) else none
  | ds => oList ds
theorem cs_listS : CallS K mg (fun xs H Q => (∃ p ys, xs = [.ref p] ∧ (SqL K H p ys ∨ SqT K H p ys) ∧ ∀ l, H l = none → Q (.ref l) (upd H l (.lst ys))) ∨ rListS xs H Q) (gO oListS) := cs_of fun μ S H vs ds d Q sz w a e f => by
  unfold oListS at e
  split at e
  · rename_i z
    obtain ⟨v, rfl, b⟩ := pr1 a
    split at e
    · rename_i q
      cases e
      rw [at_str b]
      exact .inr ⟨z, rfl, szOk_le q, fun l hl => f.new w hl (at_new_list w hl (dp_signs _))⟩
    · cases e
  · unfold oList at e
    split at e
    · cases e
      obtain ⟨v, rfl, b⟩ := pr1 a
      obtain ⟨p, xs, rfl, h1, h2⟩ := at_list b
      exact .inl ⟨p, xs, rfl, .inl (nh_same.seq h1), fun l hl => f.new w hl (at_new_list w hl h2)⟩
    · cases e
      obtain ⟨v, rfl, b⟩ := pr1 a
      obtain ⟨p, xs, rfl, h1, h2⟩ := at_tup b
      exact .inl ⟨p, xs, rfl, .inr (seqT_mono nh_same h1), fun l hl => f.new w hl (at_new_list w hl h2)⟩
    · cases e
theorem c_list (hc : X.calm = true) (hm : X.mg "list" = none) (ha : AJ X W [a] fs) (hg : Gl X "list" := by rfl) (he : starEach (a :: []) X.env = (false, eval a X.env) :: starEach [] X.env := by rfl) (hpl : (backTo pos (starEach [] X.env)).any (·.1) = false := by rfl) : EJ X W (.Call (.Name "list" p) [a] [] pos) (xCall (gO oListS) fs) :=
  ej_callTy (call_list_of.or (cr_listS hc)) cs_listS hm (by decide +kernel) ha hg (by decide) (by decide) he hpl
end
end DL
end L2

set_option Elab.async false
set_option linter.all false
set_option maxRecDepth 100000
/-! constants of the module; the law's walk -/
namespace L2
namespace DL
open PySem PySem.Spec PyProof.Rows
section
variable {K : PySem.W.Frag} {mg : Str → Option Value}
/-- a value of the module's is this data, whatever the heap -/
def KV (K : PySem.W.Frag) (u : Value) (v : V) (d : D) : Prop := RelV v u ∧ ∀ H, Dp K H v d
theorem kv_int {i : Int} {t : Tok} : KV K (.int i t) (.int i) (.int i) := ⟨⟨t, rfl⟩, fun _ => .int i⟩
theorem kv_str {i : Str} {t : Tok} : KV K (.str i t) (.str i) (.str i) := ⟨⟨t, rfl⟩, fun _ => .str i⟩
inductive KVs (K : PySem.W.Frag) : List Value → List V → List D → Prop
  | nil : KVs K [] [] []
  | cons {u v d us vs ds} : KV K u v d → KVs K us vs ds → KVs K (u :: us) (v :: vs) (d :: ds)
theorem KVs.vals : ∀ {us : List Value} {vs : List V} {ds : List D}, KVs K us vs ds → Vals vs us
  | _, _, _, .nil => .nil
  | _, _, _, .cons h t => .cons h.1 t.vals
theorem KVs.dps (H : Hp) : ∀ {us : List Value} {vs : List V} {ds : List D}, KVs K us vs ds → DpAll K H vs ds
  | _, _, _, .nil => .nil
  | _, _, _, .cons h t => .cons (h.2 H) (KVs.dps H t)
theorem kv_tup {a : Addr} {od : Option Addr} {n : Nat} {sl : Array (Option Value)} {us : List Value} {vs : List V} {ds : List D} (l : K.lookup a = some ⟨.type "tuple", od, .seq us.toArray n, sl⟩) (h : KVs K us vs ds) (hz : decide (us.length ≤ 1000) = true) : KV K (.ref a) (.ref a) (.tuple ds) :=
  ⟨rfl, fun H => .tup (.inr ⟨_, us.toArray, n, l, rfl, rfl, by have := of_decide_eq_true hz; rw [sizeLine_eq, List.size_toArray]; omega, by simpa using h.vals⟩) (h.dps H)⟩
theorem glk {x : Str} {u : Value} {v : V} {d : D} (hm : mg x = some u) (k : KV K u v d) : GlK K mg x d := ⟨u, v, hm, k.1, k.2⟩
end
/-- the law's walk -/
theorem law_walk {kk : Nat} {l : PySem.W.OpenLaw} {q : Program} {loose : List Str} {XP : (Str → Option Value) → Heap → Prop} {YP : World → Heap → Prop} {d : DefRec} {K : Params → PySem.W.Frag} (hn : l.most = some 63) (hdf : d.params.defaults = [])
    (hr : Room kk callerA) (hY : ∀ (w : World) (h : Heap), YP w h → (K w.params).In h)
    (F : ∀ (w : World) (mg : Str → Option Value) (fa : Addr) (h : Heap), (K w.params).In h → h.Ns mainGlobals mg → mg d.name = some (.ref fa) →
      ∃ fd : FuncData, (∀ (s : Shared) (u : Value), BindsTo s fd ⟨[u], []⟩ [("script", u)]) ∧ ∀ base : Heap, (K w.params).In base → base.Ns mainGlobals mg → FnOk l.prog w (K w.params) mg base (L2.CX l.prog w) kk fa fd ["script"] (spLaw (K w.params) 63)) :
    PySem.W.WalkO q loose XP YP l.row.toRowW d [] (fun f vs => PySem.call f vs) :=
  L2.walk_of (n := 63) (k := kk) (x := "script") (CX := fun w => L2.CX l.prog w) (sp := fun w => spLaw (K w.params) 63) hn (by rw [sizeLine_eq]; omega) hdf hr hY F (fun _ _ a ns hl _ hS => ⟨a, ns, rfl, hS, hl, fun _ => rfl⟩) fun _ _ _ _ _ z => cx_no z
end DL
end L2

set_option Elab.async false
set_option linter.all false
set_option maxRecDepth 100000
/-! text * int -/
namespace L2
namespace DL
open PySem PySem.Spec PyProof.Rows
def repS (z : Str) (n : Nat) : Str := ⟨(List.replicate n z.cps.toList).flatten.toArray⟩
def rMulS : R2 := fun x y H Q => ∃ (z : Str) (k : Int), x = .str z ∧ y = .int k ∧ -4611686018427387904 ≤ k ∧ k < 4611686018427387904 ∧ z.length * k.toNat ≤ 16777216 ∧ Q (.str (repS z k.toNat)) H
theorem rep_fold (a : Array Nat) : ∀ (m : Nat) (acc : Array Nat), (List.replicate m a).foldl (fun x y => x ++ y) acc = acc ++ (List.replicate m a.toList).flatten.toArray
  | 0, acc => by simp
  | m + 1, acc => by
    rw [List.replicate_succ, List.foldl_cons, rep_fold a m, List.replicate_succ, List.flatten_cons, Array.append_assoc]
    congr 1
    simp
section
variable {X : Cx} {W : WX} {a b : Expr} {fa fb : Env' → M D} {pos : Pos} {K : PySem.W.Frag} {mg : Str → Option Value}
theorem op_mulS : OpR X (binaryOp .Mult) rMulS := by
  intro pins s σ H x y v u Q I rx ry h
  obtain ⟨z, k, rfl, rfl, h1, h2, hz, q⟩ := h
  obtain ⟨t, rfl⟩ := rx
  obtain ⟨t', rfl⟩ := ry
  have hz' : z.length * k.toNat ≤ sizeLine := by rw [sizeLine_eq]; exact hz
  refine PySem.P.mul_str ?_ (fun c _ => ?_) (fun _ _ => ?_) ?_
  · rw [decide_eq_false (by omega), decide_eq_false (by omega)]; rfl
  · have hk : 0 < k := by omega
    have e : ((k.toNat : Nat) : Int) = k := by omega
    have m1 : (z.length : Int) * k ≤ 16777216 := by
      rw [← e]
      have h3 : ((z.length * k.toNat : Nat) : Int) ≤ 16777216 := Int.ofNat_le.mpr hz
      rw [Int.natCast_mul] at h3
      exact h3
    have : (z.length : Int) ≤ (2 ^ 63 - 1) / k := (Int.le_ediv_iff_mul_le hk).mpr (by omega)
    omega
  · show decide (z.length * k.toNat > sizeLine) = false
    exact decide_eq_false (by omega)
  · by_cases c1 : k < 1
    · rw [if_pos c1]
      have e : k.toNat = 0 := by omega
      rw [e] at q
      refine ⟨by decide, .str Str.empty, H, I.tok _, ⟨_, rfl⟩, ?_⟩
      exact q
    · rw [if_neg c1]
      by_cases c2 : (k == 1 || z.length == 0) = true
      · rw [if_pos c2]
        have e : repS z k.toNat = z := by
          rcases Bool.or_eq_true_iff.mp c2 with c | c
          · have : k = 1 := by simpa using c
            subst this
            show (⟨(List.replicate 1 z.cps.toList).flatten.toArray⟩ : Str) = z
            simp
          · have l0 : z.cps.toList = [] := by
              have : z.cps.size = 0 := eq_of_beq c
              exact List.eq_nil_of_length_eq_zero (by rw [Array.length_toList]; exact this)
            unfold repS
            rw [l0]
            cases z with
            | mk cps =>
              have : cps = #[] := by
                have l1 : cps.toList = [] := l0
                have := congrArg List.toArray l1
                simpa using this
              subst this
              simp
        rw [e] at q
        exact ⟨.str z, H, I, ⟨t, rfl⟩, q⟩
      · rw [if_neg c2]
        have e : (⟨(List.replicate k.toNat z.cps).foldl (fun x y => x ++ y) #[]⟩ : Str) = repS z k.toNat := by
          unfold repS
          rw [rep_fold]
          simp
        refine ⟨?_, .str (repS z k.toNat), H, I.tok _, ⟨s.toks, ?_⟩, q⟩
        · rw [e]
          show ((List.replicate k.toNat z.cps.toList).flatten.toArray).size ≤ sizeLine
          rw [List.size_toArray, PyProof.Rows.lm_len_rep_flat, Array.length_toList, Nat.mul_comm]
          exact hz'
        · rw [e]
def gMulA : D → D → M D
  | .str z, .int k => if decide (-4611686018427387904 ≤ k ∧ k < 4611686018427387904 ∧ z.length * k.toNat ≤ 16777216) = true then M.ret (.str (repS z k.toNat)) else M.no
  | d, e => gMul d e
theorem ops_mulA : OpS K mg (fun x y H Q => rI CMul (fun i j => .int (i * j)) x y H Q ∨ rMulS x y H Q) gMulA := by
  intro Ec μ S H x y d e Q sz w ax ay h
  by_cases k : ∃ z i, d = .str z ∧ e = .int i
  · obtain ⟨z, i, rfl, rfl⟩ := k
    simp only [gMulA] at h
    split at h
    · rename_i q
      obtain ⟨q1, q2, q3⟩ := of_decide_eq_true q
      rw [at_str ax, at_int ay]
      exact .inr ⟨z, i, rfl, rfl, q1, q2, q3, h.here w _ (.inr (.str _))⟩
    · exact h.elim
  · have e0 : gMulA d e = gMul d e := by
      unfold gMulA
      split
      · exact absurd ⟨_, _, rfl, rfl⟩ k
      · rfl
    rw [e0] at h
    exact .inl (ops_mul Ec μ S H x y d e Q sz w ax ay h)
theorem ej_mulA (ha : EJ X W a fa) (hb : EJ X W b fb) : EJ X W (.BinOp a .Mult b pos) (x2 gMulA fa fb) := ej_bin (op_mul.or op_mulS) ops_mulA ha hb
end
end DL
end L2

set_option Elab.async false
set_option linter.all false
set_option maxRecDepth 100000
set_option maxHeartbeats 1600000
/-! comprehensions with two fors -/
namespace L2
namespace DL
open PySem PySem.Spec PyProof.Rows
/-- no error comes of it -/
def NoEx {α : Type} (m : M α) : Prop := ∀ s e s', m s ≠ .ex e s'
theorem noEx_ret {α : Type} (a : α) : NoEx (M.ret a) := fun _ _ _ h => by cases h
theorem noEx_no {α : Type} : NoEx (M.no : M α) := fun _ _ _ h => by cases h
theorem noEx_quiet {α : Type} (m : M α) : NoEx (M.quiet m) := fun s e s' h => by
  unfold M.quiet at h
  cases q : m s with
  | ok a s2 => rw [q] at h; cases h
  | ex e2 s2 => rw [q] at h; cases h
  | no => rw [q] at h; cases h
theorem noEx_bind {α β : Type} {m : M α} {f : α → M β} (h : NoEx m) (hf : ∀ a, NoEx (f a)) : NoEx (M.bind m f) := fun s e s' q => by
  unfold M.bind at q
  cases c : m s with
  | ok a s2 => rw [c] at q; exact hf a s2 e s' q
  | ex e2 s2 => exact h s e2 s2 c
  | no => rw [c] at q; cases q
theorem quiet_of {α : Type} {m : M α} (h : NoEx m) : M.quiet m = m := by
  funext s
  unfold M.quiet
  cases c : m s with
  | ok a s2 => rfl
  | ex e2 s2 => exact absurd c (h s e2 s2)
  | no => rfl
def R.quiet {α : Type} : R α → R α
  | .ok a s' => .ok a s'
  | _ => .no
theorem quiet_ap {α : Type} (m : M α) (s : Wd) : M.quiet m s = (m s).quiet := by
  unfold M.quiet R.quiet
  cases m s <;> rfl
theorem quiet_bind {α β : Type} (m : M α) (f : α → M β) : M.quiet (M.bind m f) = M.bind (M.quiet m) fun a => M.quiet (f a) := by
  funext s
  rw [quiet_ap]
  unfold M.bind
  rw [quiet_ap]
  cases c : m s with
  | ok a s2 =>
    show R.quiet (f a s2) = M.quiet (f a) s2
    rw [quiet_ap]
  | ex e s2 => rfl
  | no => rfl
theorem noEx_lc {item : D → M (Option D)} : ∀ ds : List D, NoEx (lcM item ds)
  | [] => noEx_ret _
  | d :: ds => noEx_bind (noEx_quiet _) fun _ => noEx_bind (noEx_lc ds) fun _ => noEx_ret _
/-- the outer turns: each gives a list -/
def lcMM (outer : D → M (List D)) : List D → M (List D)
  | [] => M.ret []
  | d :: ds => M.bind (M.quiet (outer d)) fun es => M.bind (lcMM outer ds) fun es' => M.ret (es ++ es')
theorem noEx_lcMM {outer : D → M (List D)} : ∀ ds : List D, NoEx (lcMM outer ds)
  | [] => noEx_ret _
  | d :: ds => noEx_bind (noEx_quiet _) fun _ => noEx_bind (noEx_lcMM ds) fun _ => noEx_ret _
/-- an outer turn -/
def lcOut (gt : D → Env' → Option Env') (ft : Env' → M Bool) (fj : Env' → M (List D)) (gt1 : D → Env' → Option Env') (ft1 : Env' → M Bool) (fe : Env' → M D) (vs1 : List Nat) (ρ : Env') (d : D) : M (List D) := match gt d ρ with
  | none => M.no
  | some ρ' => M.bind (ft ρ') fun b => if b = true then M.bind (fj ρ') fun ds1 => lcM (lcItem gt1 ft1 fe (wipeE ρ' vs1)) ds1 else M.ret []
def lcFin (es : List D) : M D := if szOk es.length = true then M.ret (.list es) else M.no
def xLc2 (fi : Env' → M (List D)) (gt : D → Env' → Option Env') (ft : Env' → M Bool) (fj : Env' → M (List D)) (gt1 : D → Env' → Option Env') (ft1 : Env' → M Bool) (fe : Env' → M D) (vs vs1 : List Nat) : Env' → M D := fun ρ =>
  M.bind (fi ρ) fun ds => M.bind (lcMM (lcOut gt ft fj gt1 ft1 fe vs1 (wipeE ρ vs)) ds) lcFin
/-- what is still to come, behind es0 -/
def Rest (m : M (List D)) (es0 : List D) : M D := M.bind m fun es => lcFin (es0 ++ es)
theorem rest_sz {K : PySem.W.Frag} {mg : Str → Option Value} {Ec : XK} {μ : Mu} {S S' : Wd} {H : Hp} {m : M (List D)} {es0 : List D} {P : D → Mu → Wd → Hp → Prop} (nx : NoEx m) (h : Post K mg Ec μ S H (Rest m es0 S') P) : es0.length ≤ 16777216 := by
  unfold Rest M.bind at h
  cases c : m S' with
  | ok es s2 =>
    rw [c] at h
    unfold lcFin at h
    by_cases q : szOk (es0 ++ es).length = true
    · have := of_decide_eq_true q
      rw [List.length_append] at this
      omega
    · simp only [R.thn, if_neg q] at h
      exact h.elim
  | ex e s2 => exact absurd c (nx S' e s2)
  | no => rw [c] at h; exact h.elim
/-- what holds between two turns -/
structure LcG (K : PySem.W.Frag) (mg : Str → Option Value) (Ec : XK) (μ1 : Mu) (S1 : Wd) (H1 : Hp) (Dd : Addr) (m : M (List D)) (P : D → Mu → Wd → Hp → Prop) (H : Hp) (μ' : Mu) (S' : Wd) (acc : List V) (es0 : List D) : Prop where
  hid : μ'.hid = Dd :: μ1.hid
  at_ : H Dd = some (.lst acc)
  w : WOk K μ' S' H
  st : Step μ1 S1.length H1 (μ'.with μ1.hid) S'.length H
  dp : DpAll K (Nh μ' S'.length H) acc es0
  post : Post K mg Ec μ1 S1 H1 (Rest m es0 S') P
section
variable {K : PySem.W.Frag} {mg : Str → Option Value} {Ec : XK} {μ1 μ2 μ' : Mu} {S1 S2 S' : Wd} {H1 H H2 : Hp} {Dd : Addr} {m m2 : M (List D)} {P : D → Mu → Wd → Hp → Prop} {acc : List V} {es0 : List D}
/-- nothing is added -/
theorem LcG.go (J : LcG K mg Ec μ1 S1 H1 Dd m P H μ' S' acc es0) (s : Step μ' S'.length H μ2 S2.length H2) (w : WOk K μ2 S2 H2) (hD : H1 Dd = none) (w1 : WOk K μ1 S1 H1) (q : Post K mg Ec μ1 S1 H1 (Rest m2 es0 S2) P) : LcG K mg Ec μ1 S1 H1 Dd m2 P H2 μ2 S2 acc es0 := by
  have hDm : Dd ∈ μ'.hid := by rw [J.hid]; exact List.mem_cons_self
  have sm2 : Same (Nh μ1 S1.length H1) (Nh μ' S'.length H) := fun a u e => by
    obtain ⟨e1, e2, e3⟩ := nh_some.mp (J.st.keep a u e)
    obtain ⟨f1, _, _⟩ := nh_some.mp e
    exact nh_some.mpr ⟨e1, e2, fun z => by
      rw [J.hid] at z
      rcases List.mem_cons.mp z with z | z
      · exact ne_of_none f1 hD z
      · exact e3 z⟩
  have hid4 : μ2.hid = Dd :: μ1.hid := s.hd.trans J.hid
  refine ⟨hid4, (s.hk Dd hDm).trans J.at_, w, ⟨Nat.le_trans J.st.le s.le, fun k hk => (s.ag k (Nat.lt_of_lt_of_le hk J.st.le)).trans (J.st.ag k hk), rfl, fun a ha => ?_, fun a u e => ?_⟩, dpAll_mono s.keep _ _ J.dp, q⟩
  · exact (s.hk a (by rw [J.hid]; exact List.mem_cons_of_mem _ ha)).trans (J.st.hk a ha)
  · obtain ⟨g1, g2, g3⟩ := nh_some.mp (s.keep a u (sm2 a u e))
    refine nh_some.mpr ⟨g1, g2, fun z => g3 ?_⟩
    rw [hid4]
    exact List.mem_cons_of_mem _ z
/-- one is added -/
theorem LcG.add (J : LcG K mg Ec μ1 S1 H1 Dd m P H μ' S' acc es0) (hD : H1 Dd = none) (w1 : WOk K μ1 S1 H1) {y : V} {e : D} (a : Dp K (Nh μ' S'.length H) y e) (q : Post K mg Ec μ1 S1 H1 (Rest m2 (es0 ++ [e]) S') P) : LcG K mg Ec μ1 S1 H1 Dd m2 P (upd H Dd (.lst (acc ++ [y]))) μ' S' (acc ++ [y]) (es0 ++ [e]) := by
  have hDm : Dd ∈ μ'.hid := by rw [J.hid]; exact List.mem_cons_self
  have neD : ∀ a, a ∈ μ1.hid → a ≠ Dd := fun a ha z => by
    obtain ⟨o, q⟩ := w1.ht a ha
    rw [z, hD] at q; cases q
  refine ⟨J.hid, upd_same, ⟨J.w.inj, fun k ob q => ?_, fun a ha => ?_, J.w.hn⟩, ⟨J.st.le, J.st.ag, rfl, fun a ha => ?_, fun a u e => ?_⟩, by rw [nh_hid hDm]; exact dpAll_append J.dp (.cons a .nil), q⟩
  · have hk : k < S'.length := (List.getElem?_eq_some_iff.mp q).1
    exact (J.w.ob k ob q).mono (by rw [nh_hid hDm]; exact Same.refl _) (upd_ne fun z => J.w.hn k hk (by rw [z]; exact hDm))
  · by_cases z : a = Dd
    · exact ⟨_, by rw [z]; exact upd_same⟩
    · rw [upd_ne z]; exact J.w.ht a ha
  · rw [upd_ne (neD a ha)]
    exact J.st.hk a ha
  · obtain ⟨f1, _, _⟩ := nh_some.mp e
    obtain ⟨g1, g2, g3⟩ := nh_some.mp (J.st.keep a u e)
    exact nh_some.mpr ⟨by rw [upd_ne (ne_of_none f1 hD)]; exact g1, g2, g3⟩
end
theorem rest_bind {α : Type} (a : M α) (f : α → M (List D)) (es0 : List D) : Rest (M.bind a f) es0 = M.bind a fun x => Rest (f x) es0 := by
  unfold Rest
  rw [M.bind_assoc]
theorem rest_nil (m : M (List D)) : Rest m [] = M.bind m lcFin := rfl
theorem noEx_rest {α : Type} {a : M α} {f : α → M (List D)} (h : NoEx a) (hf : ∀ x, NoEx (f x)) : NoEx (M.bind a f) := noEx_bind h hf
theorem ret_app (m : M (List D)) : (M.bind m fun es => M.ret ([] ++ es)) = m := by
  funext s
  unfold M.bind
  cases m s <;> rfl
/-- how one state lies behind another, the hidden list apart -/
structure Fw (μ : Mu) (n : Nat) (H : Hp) (μ' : Mu) (n' : Nat) (H' : Hp) : Prop where
  le : n ≤ n'
  ag : ∀ k, k < n → μ'.at_ k = μ.at_ k
  same : Same (Nh μ n H) (Nh μ' n' H')
theorem Fw.of {μ μ' : Mu} {n n' : Nat} {H H' : Hp} (s : Step μ n H μ' n' H') : Fw μ n H μ' n' H' := ⟨s.le, s.ag, s.keep⟩
theorem Fw.trans {μ μ1 μ2 : Mu} {n n1 n2 : Nat} {H H1 H2 : Hp} (a : Fw μ n H μ1 n1 H1) (b : Fw μ1 n1 H1 μ2 n2 H2) : Fw μ n H μ2 n2 H2 :=
  ⟨Nat.le_trans a.le b.le, fun k hk => (b.ag k (Nat.lt_of_lt_of_le hk a.le)).trans (a.ag k hk), a.same.trans b.same⟩
theorem lc2_read {fi fj : Env' → M (List D)} {gt gt1 : D → Env' → Option Env'} {is is1 vs vs1 : List Nat} {ft ft1 : Env' → M Bool} {fe : Env' → M D} {K : PySem.W.Frag} {mg : Str → Option Value} {W : WX} (hi : ∀ j, j ∈ is → j ∈ vs) (hi1 : ∀ j, j ∈ is1 → j ∈ vs1) {σ : St} {H : Hp} {Q : VK}
    (h : tE K mg W (xLc2 fi gt ft fj gt1 ft1 fe vs vs1) σ H Q) : tLc2 (tI K mg W fi) (tG K gt is) (tB K mg W0 ft) (tI K mg W0 fj) (tG K gt1 is1) (tB K mg W0 ft1) (tE K mg W0 fe) vs vs1 σ H Q := by
  obtain ⟨μ, S, ρ, he, hw, h⟩ := h
  refine ⟨μ, S, ρ, he, hw, h.bind.mono fun ds μ1 S1 H1 s1 w1 h1 J hJ => ?_⟩
  intro Dd hD
  have he1 := he.step s1
  generalize hout : lcOut gt ft fj gt1 ft1 fe vs1 (wipeE ρ vs) = outer at h1
  generalize hP : (fun (d : D) (μ' : Mu) (S' : Wd) (H' : Hp) => ∀ v, At K μ' S'.length (Nh μ' S'.length H') v d → Q v H') = P at h1
  generalize hE : (fun (c : Value) (d : Option Addr) (H' : Hp) => W c d σ H') = Ec at h1
  refine ⟨fun i m H => m = ds.length - i ∧ i ≤ ds.length ∧ ∃ μ' S' acc es0, LcG K mg Ec μ1 S1 H1 Dd (lcMM outer (ds.drop i)) P H μ' S' acc es0, ⟨ds.length, by omega, Nat.zero_le _, μ1.with (Dd :: μ1.hid), S1, [], [], ?_⟩, ?_⟩
  · obtain ⟨k1, k2⟩ := hide_new w1 hD (.lst [])
    exact ⟨rfl, upd_same, k2, (step_new w1 hD _).1, .nil, h1⟩
  · rintro i m H2 ⟨rfl, hle, μ', S', acc, es0, J0⟩
    have sm : Same (Nh μ1 S1.length H1) H2 := J0.st.keep.trans nh_same
    have sm2 : Same (Nh μ1 S1.length H1) (Nh μ' S'.length H2) := fun a u e => by
      obtain ⟨e1, e2, e3⟩ := nh_some.mp (J0.st.keep a u e)
      obtain ⟨f1, _, _⟩ := nh_some.mp e
      exact nh_some.mpr ⟨e1, e2, fun z => by
        rw [J0.hid] at z
        rcases List.mem_cons.mp z with z | z
        · exact ne_of_none f1 hD z
        · exact e3 z⟩
    by_cases hlt : i < ds.length
    · refine .inr ⟨hJ.goes i H2 hlt sm, fun H' => i + 1 ≤ ds.length ∧ ∃ μ' S' acc es0, LcG K mg Ec μ1 S1 H1 Dd (lcMM outer (ds.drop (i + 1))) P H' μ' S' acc es0, fun H' q => ⟨ds.length - (i + 1), by omega, rfl, q.1, q.2⟩, fun x H3 hy => ?_⟩
      obtain ⟨d, hd, y⟩ := hJ.yields i H2 x H3 hlt sm hy
      obtain ⟨s3, w3, a3⟩ := y.to J0.w sm2
      have hdrop : ds.drop i = d :: ds.drop (i + 1) := by
        rw [List.drop_eq_getElem_cons hlt]
        congr 1
        exact Option.some.inj ((List.getElem?_eq_getElem hlt).symm.trans hd)
      have hQ := J0.post
      rw [hdrop] at hQ
      generalize ds.drop (i + 1) = rest at hQ ⊢
      have hQ2 : Post K mg Ec μ1 S1 H1 (M.bind (M.quiet (outer d)) (fun es => Rest (M.bind (lcMM outer rest) fun es' => M.ret (es ++ es')) es0) S') P := by
        have q : Rest (lcMM outer (d :: rest)) es0 = M.bind (M.quiet (outer d)) (fun es => Rest (M.bind (lcMM outer rest) fun es' => M.ret (es ++ es')) es0) := rest_bind _ _ _
        rw [q] at hQ
        exact hQ
      have hin : outer d = match gt d (wipeE ρ vs) with
        | none => M.no
        | some ρ' => M.bind (ft ρ') fun b => if b = true then M.bind (fj ρ') fun ds1 => lcM (lcItem gt1 ft1 fe (wipeE ρ' vs1)) ds1 else M.ret [] := by rw [← hout]; rfl
      cases hg : gt d (wipeE ρ vs) with
      | none =>
        rw [hg] at hin
        rw [hin] at hQ2
        exact hQ2.elim
      | some ρ' =>
        rw [hg] at hin
        simp only at hin
        have hew : EnvOk K μ' S'.length (Nh μ' S'.length H3) (wipeE ρ vs) (L2.wipe σ vs) := (he1.mono (μ' := μ') J0.st.le J0.st.ag (sm2.trans s3.keep)).wipe vs
        refine ⟨μ', S'.length, wipeE ρ vs, d, ρ', hew, a3, hg, fun σ2 he2 hl2 hsame => ⟨?_, ?_⟩⟩
        · apply List.ext_getElem?
          intro j
          rw [wipe_get, wipe_get]
          have hl3 : σ2.length = σ.length := by rw [hl2, wipe_length]
          by_cases hj : j ∈ vs
          · rw [if_pos hj, if_pos hj, hl3]
          · rw [if_neg hj, if_neg hj, hsame j fun z => hj (hi j z), wipe_get, if_neg hj]
        rw [hin, quiet_bind, M.bind_assoc] at hQ2
        have hb := Post.quietB (Ec' := Ec0) (μ := μ') (S := S') (H := H3) hQ2
        refine ⟨μ', S', ρ', he2, w3, hb.mono fun b μ4 S4 H4 s4 w4 h4 => ?_⟩
        cases b with
        | false =>
          have h5 : Post K mg Ec μ1 S1 H1 (Rest (lcMM outer rest) es0 S4) P := by
            have q : M.bind (M.quiet (if false = true then M.bind (fj ρ') fun ds1 => lcM (lcItem gt1 ft1 fe (wipeE ρ' vs1)) ds1 else M.ret [])) (fun es => Rest (M.bind (lcMM outer rest) fun es' => M.ret (es ++ es')) es0) = Rest (lcMM outer rest) es0 := by
              show Rest (M.bind (lcMM outer rest) fun es' => M.ret ([] ++ es')) es0 = _
              rw [ret_app]
            rw [q] at h4
            exact h4
          exact ⟨hlt, μ4, S4, acc, es0, J0.go (s3.trans s4) w4 hD w1 h5⟩
        | true =>
          have h5 : Post K mg Ec μ1 S1 H1 (M.bind (M.quiet (fj ρ')) (fun ds1 => Rest (M.bind (lcM (lcItem gt1 ft1 fe (wipeE ρ' vs1)) ds1) fun es => M.bind (lcMM outer rest) fun es' => M.ret (es ++ es')) es0) S4) P := by
            have q : M.bind (M.quiet (if true = true then M.bind (fj ρ') fun ds1 => lcM (lcItem gt1 ft1 fe (wipeE ρ' vs1)) ds1 else M.ret [])) (fun es => Rest (M.bind (lcMM outer rest) fun es' => M.ret (es ++ es')) es0) = M.bind (M.quiet (fj ρ')) (fun ds1 => Rest (M.bind (lcM (lcItem gt1 ft1 fe (wipeE ρ' vs1)) ds1) fun es => M.bind (lcMM outer rest) fun es' => M.ret (es ++ es')) es0) := by
              rw [if_pos rfl, quiet_bind, M.bind_assoc]
              congr 1
              funext ds1
              rw [quiet_of (noEx_lc ds1), rest_bind]
            rw [q] at h4
            exact h4
          have hb5 := Post.quietB (Ec' := Ec0) (μ := μ4) (S := S4) (H := H4) h5
          refine ⟨μ4, S4, ρ', he2.step s4, w4, hb5.mono fun ds1 μ5 S5 H5 s5 w5 h6 J1 hJ1 => ?_⟩
          have he5 := (he2.step s4).step s5
          generalize hit : lcItem gt1 ft1 fe (wipeE ρ' vs1) = item at h6
          have s35 := s3.trans (s4.trans s5)
          refine ⟨fun j k H => k = ds1.length - j ∧ j ≤ ds1.length ∧ ∃ μ6 S6 acc es0, LcG K mg Ec μ1 S1 H1 Dd (M.bind (lcM item (ds1.drop j)) fun es => M.bind (lcMM outer rest) fun es' => M.ret (es ++ es')) P H μ6 S6 acc es0 ∧ Fw μ5 S5.length H5 μ6 S6.length H, ⟨ds1.length, by omega, Nat.zero_le _, μ5, S5, acc, es0, J0.go s35 w5 hD w1 h6, Fw.of (Step.refl ..)⟩, ?_⟩
          rintro j k H6 ⟨rfl, hle1, μ6, S6, acc6, es6, J6, F6⟩
          have smf : Same (Nh μ5 S5.length H5) H6 := F6.same.trans nh_same
          by_cases hlt1 : j < ds1.length
          · refine .inr ⟨hJ1.goes j H6 hlt1 smf, fun H' => j + 1 ≤ ds1.length ∧ ∃ μ6 S6 acc es0, LcG K mg Ec μ1 S1 H1 Dd (M.bind (lcM item (ds1.drop (j + 1))) fun es => M.bind (lcMM outer rest) fun es' => M.ret (es ++ es')) P H' μ6 S6 acc es0 ∧ Fw μ5 S5.length H5 μ6 S6.length H', fun H' q => ⟨ds1.length - (j + 1), by omega, rfl, q.1, q.2⟩, fun x1 H7 hy1 => ?_⟩
            obtain ⟨d1, hd1, y1⟩ := hJ1.yields j H6 x1 H7 hlt1 smf hy1
            obtain ⟨s7, w7, a7⟩ := y1.to J6.w F6.same
            have hdrop1 : ds1.drop j = d1 :: ds1.drop (j + 1) := by
              rw [List.drop_eq_getElem_cons hlt1]
              congr 1
              exact Option.some.inj ((List.getElem?_eq_getElem hlt1).symm.trans hd1)
            have hR := J6.post
            rw [hdrop1] at hR
            generalize ds1.drop (j + 1) = rest1 at hR ⊢
            have hR2 : Post K mg Ec μ1 S1 H1 (M.bind (M.quiet (item d1)) (fun o => Rest (M.bind (lcM item rest1) fun es => M.bind (lcMM outer rest) fun es' => M.ret ((match o with
                | some e => e :: es
                | none => es) ++ es')) es6) S6) P := by
              have q : Rest (M.bind (lcM item (d1 :: rest1)) fun es => M.bind (lcMM outer rest) fun es' => M.ret (es ++ es')) es6 = M.bind (M.quiet (item d1)) (fun o => Rest (M.bind (lcM item rest1) fun es => M.bind (lcMM outer rest) fun es' => M.ret ((match o with
                | some e => e :: es
                | none => es) ++ es')) es6) := by
                show Rest (M.bind (M.bind (M.quiet (item d1)) fun o => M.bind (lcM item rest1) fun es => M.ret (match o with
                  | some e => e :: es
                  | none => es)) fun es => M.bind (lcMM outer rest) fun es' => M.ret (es ++ es')) es6 = _
                rw [M.bind_assoc, rest_bind]
                congr 1
                funext o
                rw [M.bind_assoc]
                rfl
              rw [q] at hR
              exact hR
            have hin1 : item d1 = match gt1 d1 (wipeE ρ' vs1) with
              | none => M.no
              | some ρ2 => M.bind (ft1 ρ2) fun b => if b = true then M.bind (fe ρ2) fun e => if nd e = true then M.ret (some e) else M.no else M.ret none := by rw [← hit]; rfl
            cases hg1 : gt1 d1 (wipeE ρ' vs1) with
            | none =>
              rw [hg1] at hin1
              rw [hin1] at hR2
              exact hR2.elim
            | some ρ2 =>
              rw [hg1] at hin1
              simp only at hin1
              have hew1 : EnvOk K μ6 S6.length (Nh μ6 S6.length H7) (wipeE ρ' vs1) (L2.wipe σ2 vs1) := (he5.mono (μ' := μ6) F6.le F6.ag (F6.same.trans s7.keep)).wipe vs1
              refine ⟨μ6, S6.length, wipeE ρ' vs1, d1, ρ2, hew1, a7, hg1, fun σ3 he7 hl7 hsame1 => ⟨?_, ?_⟩⟩
              · apply List.ext_getElem?
                intro j
                rw [wipe_get, wipe_get]
                have hl3 : σ3.length = σ2.length := by rw [hl7, wipe_length]
                by_cases hj : j ∈ vs1
                · rw [if_pos hj, if_pos hj, hl3]
                · rw [if_neg hj, if_neg hj, hsame1 j fun z => hj (hi1 j z), wipe_get, if_neg hj]
              rw [hin1] at hR2
              have hb7 := (Post.quietB (Ec' := Ec0) (μ := μ6) (S := S6) (H := H7) hR2).bind
              refine ⟨μ6, S6, ρ2, he7, w7, hb7.mono fun b μ8 S8 H8 s8 w8 h8 => ?_⟩
              cases b with
              | false =>
                have h9 := Post.here h8 w8
                exact ⟨hlt1, μ8, S8, acc6, es6, J6.go (s7.trans s8) w8 hD w1 h9, F6.trans (Fw.of (s7.trans s8))⟩
              | true =>
                refine ⟨μ8, S8, ρ2, he7.step s8, w8, h8.bind.mono fun e μ9 S9 H9 s9 w9 h9 y9 a9 => ?_⟩
                split at h9
                · rename_i hnd
                  have h10 := Post.here h9 w9
                  have s79 := s7.trans (s8.trans s9)
                  have h11 : Post K mg Ec μ1 S1 H1 (Rest (M.bind (lcM item rest1) fun es => M.bind (lcMM outer rest) fun es' => M.ret (es ++ es')) (es6 ++ [e]) S9) P := by
                    have q : Rest (M.bind (lcM item rest1) fun es => M.bind (lcMM outer rest) fun es' => M.ret ((e :: es) ++ es')) es6 = Rest (M.bind (lcM item rest1) fun es => M.bind (lcMM outer rest) fun es' => M.ret (es ++ es')) (es6 ++ [e]) := by
                      unfold Rest
                      rw [M.bind_assoc, M.bind_assoc]
                      congr 1
                      funext es
                      rw [M.bind_assoc, M.bind_assoc]
                      congr 1
                      funext es'
                      show lcFin (es6 ++ (e :: es ++ es')) = lcFin (es6 ++ [e] ++ (es ++ es'))
                      congr 1
                      simp
                    rw [← q]
                    exact h10
                  have J9 := J6.go s79 w9 hD w1 h10
                  have hz := rest_sz (noEx_bind (noEx_lc _) fun _ => noEx_bind (noEx_lcMM _) fun _ => noEx_ret _) h11
                  refine ⟨acc6, J9.at_, ?_, hlt1, μ9, S9, acc6 ++ [y9], es6 ++ [e], J9.add hD w1 (at_dp a9 fun kvs z => by rw [z] at hnd; cases hnd) h11, ?_⟩
                  · have hl := dpAll_length J9.dp
                    rw [List.length_append, List.length_singleton] at hz
                    rw [sizeLine_eq]
                    omega
                  · have hDm : Dd ∈ μ9.hid := by rw [J9.hid]; exact List.mem_cons_self
                    have F9 := F6.trans (Fw.of s79)
                    exact ⟨F9.le, F9.ag, by rw [nh_hid hDm]; exact F9.same⟩
                · exact h9.elim
          · have e : j = ds1.length := by omega
            subst e
            refine .inl ⟨hJ1.stops H6 smf, hlt, μ6, S6, acc6, es6, ?_⟩
            have hR := J6.post
            have q : (M.bind (lcM item (ds1.drop ds1.length)) fun es => M.bind (lcMM outer rest) fun es' => M.ret (es ++ es')) = lcMM outer rest := by
              rw [List.drop_length]
              exact ret_app _
            rw [q] at hR
            exact ⟨J6.hid, J6.at_, J6.w, J6.st, J6.dp, hR⟩
    · have e : i = ds.length := by omega
      subst e
      refine .inl ⟨hJ.stops H2 sm, ?_⟩
      have hQ := J0.post
      have hz := rest_sz (noEx_lcMM _) hQ
      rw [List.drop_length] at hQ
      have hQ : Post K mg Ec μ1 S1 H1 (lcFin (es0 ++ []) S') P := hQ
      rw [List.append_nil] at hQ
      unfold lcFin at hQ
      rw [if_pos (show szOk es0.length = true from decide_eq_true hz)] at hQ
      have hQ : Post K mg Ec μ1 S1 H1 (.ok (.list es0) S') P := hQ
      subst hP
      refine hQ (μ'.with μ1.hid) H2 J0.st (J0.w.show fun a ha => by rw [J0.hid]; exact List.mem_cons_of_mem _ ha) _ (.inr (.lst (.inl (.inl (nh_some.mpr ⟨J0.at_, fun k hk z => J0.w.hn k hk ?_, fun z => ?_⟩))) (dpAll_mono (nh_more (μ := μ') (h' := μ'.hid) fun a ha => by rw [J0.hid]; exact List.mem_cons_of_mem _ ha) _ _ J0.dp)))
      · rw [J0.hid]
        have z' : μ'.at_ k = Dd := z
        rw [z']
        exact List.mem_cons_self
      · obtain ⟨o, q⟩ := w1.ht Dd z
        rw [hD] at q; cases q
section
variable {X : Cx} {W : WX}
theorem ej_lc2 {elt tg iter tg1 iter1 : Expr} {ifs ifs1 : List Expr} {scope : Scope} {own : List (Str × Nat)} {vs1 : List Nat} {pos : Pos} {fi fj : Env' → M (List D)} {gt gt1 : D → Env' → Option Env'} {is is1 : List Nat} {ft ft1 : Env' → M Bool} {fe : Env' → M D} (hc : X.calm = true) (hN : X.N.Nodup) (hi : IJ X W tg iter fi) (ok : BlkOk X.N X.env.scope scope own)
    (hg : ∀ (s : Shared) (H : Hp) (C : Addr) (cl : List (Str × Addr)) (fp : List Addr), TJ (X.blk s H scope (compEnvC scope cl C X.env) fp) tg gt is) (ht : ∀ (s : Shared) (H : Hp) (C : Addr) (cl : List (Str × Addr)) (fp : List Addr), TsJ (X.blk s H scope (compEnvC scope cl C X.env) fp) W0 ifs ft)
    (hi1 : ∀ (s : Shared) (H : Hp) (C : Addr) (cl : List (Str × Addr)) (fp : List Addr), IJ (X.blk s H scope (compEnvC scope cl C X.env) fp) W0 tg1 iter1 fj)
    (hg1 : ∀ (s : Shared) (H : Hp) (C : Addr) (cl : List (Str × Addr)) (fp : List Addr), TJ (X.blk s H scope (compEnvC scope cl C X.env) fp) tg1 gt1 is1) (ht1 : ∀ (s : Shared) (H : Hp) (C : Addr) (cl : List (Str × Addr)) (fp : List Addr), TsJ (X.blk s H scope (compEnvC scope cl C X.env) fp) W0 ifs1 ft1)
    (he : ∀ (s : Shared) (H : Hp) (C : Addr) (cl : List (Str × Addr)) (fp : List Addr), EJ (X.blk s H scope (compEnvC scope cl C X.env) fp) W0 elt fe) (hvv : ∀ i ∈ vs1, i ∈ own.map (·.2) := by decide) (hv : ∀ j, j ∈ is → j ∈ own.map (·.2) := by decide) (hv1 : ∀ j, j ∈ is1 → j ∈ vs1 := by decide)
    (hs : ∀ x, foldedSetIterable iter X.env x = pure x := by intro _; rfl) (hs1 : ∀ env x, foldedSetIterable iter1 env x = pure x := by intro _ _; rfl) :
    EJ X W (.ListComp elt [⟨tg, iter, ifs, 0⟩, ⟨tg1, iter1, ifs1, 0⟩] scope pos) (xLc2 fi gt ft fj gt1 ft1 fe (own.map (·.2)) vs1) :=
  pe_imp (pe_lc2 (g := tG X.K gt is) (tt := tB X.K X.mg W0 ft) (wi1 := tI X.K X.mg W0 fj) (g1 := tG X.K gt1 is1) (tt1 := tB X.K X.mg W0 ft1) (te := tE X.K X.mg W0 fe) hc hN hi ok hvv hg ht hi1 hg1 ht1 he hs hs1) fun σ H Q h => lc2_read hv hv1 h
theorem sj_setLc2 {i : Nat} {y : Str} {py : Pos} {elt tg iter tg1 iter1 : Expr} {ifs ifs1 : List Expr} {scope : Scope} {own : List (Str × Nat)} {vs1 : List Nat} {spos pos : Pos} {fi fj : Env' → M (List D)} {gt gt1 : D → Env' → Option Env'} {is is1 : List Nat} {ft ft1 : Env' → M Bool} {fe : Env' → M D} (hc : X.calm = true) (hN : X.N.Nodup) (hi : IJ X W tg iter fi) (ok : BlkOk X.N X.env.scope scope own)
    (hg : ∀ (s : Shared) (H : Hp) (C : Addr) (cl : List (Str × Addr)) (fp : List Addr), TJ (X.blk s H scope (compEnvC scope cl C X.env) fp) tg gt is) (ht : ∀ (s : Shared) (H : Hp) (C : Addr) (cl : List (Str × Addr)) (fp : List Addr), TsJ (X.blk s H scope (compEnvC scope cl C X.env) fp) W0 ifs ft)
    (hi1 : ∀ (s : Shared) (H : Hp) (C : Addr) (cl : List (Str × Addr)) (fp : List Addr), IJ (X.blk s H scope (compEnvC scope cl C X.env) fp) W0 tg1 iter1 fj)
    (hg1 : ∀ (s : Shared) (H : Hp) (C : Addr) (cl : List (Str × Addr)) (fp : List Addr), TJ (X.blk s H scope (compEnvC scope cl C X.env) fp) tg1 gt1 is1) (ht1 : ∀ (s : Shared) (H : Hp) (C : Addr) (cl : List (Str × Addr)) (fp : List Addr), TsJ (X.blk s H scope (compEnvC scope cl C X.env) fp) W0 ifs1 ft1)
    (he : ∀ (s : Shared) (H : Hp) (C : Addr) (cl : List (Str × Addr)) (fp : List Addr), EJ (X.blk s H scope (compEnvC scope cl C X.env) fp) W0 elt fe) (hy : X.N[i]? = some y := by rfl) (hyl : X.env.scope.names.lookup y = some .local := by rfl) (hsw : swapsWith (.ListComp elt [⟨tg, iter, ifs, 0⟩, ⟨tg1, iter1, ifs1, 0⟩] scope pos) (some (.Name y py)) spos.line X.env = pure true := by exact sw_true rfl rfl rfl (by decide +kernel))
    (hvv : ∀ i ∈ vs1, i ∈ own.map (·.2) := by decide) (hv : ∀ j, j ∈ is → j ∈ own.map (·.2) := by decide) (hv1 : ∀ j, j ∈ is1 → j ∈ vs1 := by decide) (hs : ∀ x, foldedSetIterable iter X.env x = pure x := by intro _; rfl) (hs1 : ∀ env x, foldedSetIterable iter1 env x = pure x := by intro _ _; rfl) :
    SJ X W (.Assign [.Name y py] (.ListComp elt [⟨tg, iter, ifs, 0⟩, ⟨tg1, iter1, ifs1, 0⟩] scope pos) spos) (sSet i (fE (xLc2 fi gt ft fj gt1 ft1 fe (own.map (·.2)) vs1))) := by
  refine ps_imp (ps_setLc2 (g := tG X.K gt is) (tt := tB X.K X.mg W0 ft) (wi1 := tI X.K X.mg W0 fj) (g1 := tG X.K gt1 is1) (tt1 := tB X.K X.mg W0 ft1) (te := tE X.K X.mg W0 fe) hc hN hy hyl hsw hi ok hvv hg ht hi1 hg1 ht1 he hs hs1) fun D σ H h => ?_
  obtain ⟨μ0, S0, H0, μ, S, τ, hs, h⟩ := h
  refine lc2_read hv hv1 ⟨μ, S, τ.1, hs.env, hs.w, ?_⟩
  have h2 := (h.lft hs).bind
  refine h2.mono fun d μ1 S1 H1 s1 w1 h1 v a => ?_
  have h1 := Post.here h1 w1
  split at h1
  · rename_i q
    exact h1 μ1 _ H1 (hs.set s1 w1 ⟨a, fun z => by cases z⟩ (of_decide_eq_true q))
  · exact h1.elim
end
end DL
end L2

set_option Elab.async false
set_option linter.all false
set_option maxRecDepth 100000
set_option maxHeartbeats 1600000
/-! sorted(set(t)), t a tuple of ints -/
namespace L2
namespace DL
open PySem PySem.Spec PyProof.Rows
def rSetTI (K : PySem.W.Frag) (w : World) : List V → Hp → VK → Prop := fun vs H Q => ∃ (a : Addr) (ns : List Int), vs = [V.ref a] ∧ SqT K H a (ns.map V.int) ∧ ns.length ≤ 1000 ∧
  ∀ S c, H S = none → Q (.ref S) (upd H S (SetO w S (fun j => decide (j ∈ ns)) c))
section
variable {X : Cx} {W : WX} {e a b c : Expr} {es : List Expr} {fa fb fc : Env' → M D} {fs : Env' → M (List D)} {pos p : Pos} {k : Nat}
theorem cr_setTI (hc : X.calm = true) : CallR X (.type "set") (rSetTI X.K X.w) := by
  intro pins s σ H xs us Q I r h
  obtain ⟨l, ns, rfl, hl, hz, q⟩ := h
  rw [Vals.ref1 r]
  obtain ⟨its, rv, pl, _⟩ := I.tuple hl
  have hn : H s.heap.objs.size = none := I.hok.fresh (Nat.le_refl _)
  refine call_set_tupI (P := X.prog) (w := X.w) ns (I.ok.hd hc) (show s.heap.IsTuple l its.toArray from pl) rv.ints (by unfold scanBound; omega) fun h' tk c R1 hcn k => ?_
  exact ⟨.ref _, upd H s.heap.objs.size (SetO X.w s.heap.objs.size (fun j => decide (j ∈ ns)) c), I.laid (t' := tk) k (Nat.le_refl _) (setO_new R1), rfl, q _ c hn⟩
def oSortedSetA : D → Option D
  | .tuple ds => match intsD ds with
    | some ns => if decide (ns.length ≤ 1000) = true then some (.list ((srtU ltI ns).map .int)) else none
    | none => none
  | d => oSortedSet d
def gSortedSetA : D → M D := fun d => ofO (oSortedSetA d)
theorem c_sortedSetA {q : Pos} (hc : X.calm = true) (hr : Room k X.A) (hm : X.mg "sorted" = none) (hm2 : X.mg "set" = none) {p2 : Pos} (ha : EJ X W a fa) (hg : Gl X "sorted" := by rfl) (hg2 : Gl X "set" := by rfl)
    (he2 : starEach (a :: []) X.env = (false, eval a X.env) :: starEach [] X.env := by rfl) (hpl2 : (backTo q (starEach [] X.env)).any (·.1) = false := by rfl)
    (he : starEach (.Call (.Name "set" p2) [a] [] q :: []) X.env = (false, eval (.Call (.Name "set" p2) [a] [] q) X.env) :: starEach [] X.env := by rfl) (hpl : (backTo pos (starEach [] X.env)).any (·.1) = false := by rfl) :
    EJ X W (.Call (.Name "sorted" p) [.Call (.Name "set" p2) [a] [] q] [] pos) (x1 gSortedSetA fa) := by
  have hu := hr.units
  have h1 := c_sortedSet (p := p) (pos := pos) hc hr hm hm2 ha hg hg2 he2 hpl2 he hpl
  have h2 := pe_callB (pos := pos) (p := p) (cr_sortedSetI hc) hg hm (by decide +kernel) (pa_cons (pe_callTy (pos := q) (p := p2) (cr_setTI hc) hg2 hm2 (by decide +kernel) (pa_cons ha pa_nil he2) (by decide) (by decide) he2 hpl2) pa_nil he) (by decide) (by decide) he hpl
  refine ⟨fun pins s σ H Q I h => ?_⟩
  obtain ⟨μ, S, ρ, hen, hw, h⟩ := h
  -- which of the two
  by_cases tup : ∃ ds S1, fa ρ S = .ok (.tuple ds) S1
  · obtain ⟨ds, S1, e1⟩ := tup
    refine h2.run pins s σ H Q I ⟨μ, S, ρ, hen, hw, ?_⟩
    have hb := h.bind
    rw [e1] at hb ⊢
    intro μ1 H1 s1 w1 v a1
    obtain ⟨d', e, h1⟩ := Post.ofO (hb μ1 H1 s1 w1)
    unfold oSortedSetA at e
    simp only at e
    split at e
    · rename_i ns e1
      split at e
      · rename_i hlen
        cases e
        obtain ⟨q, xs, rfl, k1, k2⟩ := at_tup a1
        rw [of_ints e1] at k2
        rw [dpAll_int k2] at k1
        refine ⟨q, ns, rfl, seqT_mono nh_same k1, of_decide_eq_true hlen, fun T c hT => ?_⟩
        refine ⟨T, _, c, rfl, upd_same, fun ns' p' hs hd hmm hp' => ?_⟩
        obtain ⟨st1, w2⟩ := step_new w1 hT (SetO X.w T (fun j => decide (j ∈ ns)) c)
        obtain ⟨st2, w3⟩ := step_new w2 hp' (.lst (ns'.map V.int))
        have e2 : ns' = srtU ltI ns := srtU_uniq tot_int hd (fun z => (hmm z).trans decide_eq_true_iff) (hs.imp fun {x y} h => decide_eq_false (by omega))
        subst e2
        exact h1 _ _ (st1.trans st2) w3 _ (at_new_list w2 hp' (dpAll_of_int _))
      · cases e
    · cases e
  · refine h1.run pins s σ H Q I ⟨μ, S, ρ, hen, hw, ?_⟩
    have e0 : x1 gSortedSetA fa ρ S = x1 gSortedSet fa ρ S := by
      show (M.bind (fa ρ) gSortedSetA) S = (M.bind (fa ρ) gSortedSet) S
      unfold M.bind
      cases c : fa ρ S with
      | ok d S1 =>
        show gSortedSetA d S1 = gSortedSet d S1
        unfold gSortedSetA gSortedSet oSortedSetA
        split
        · exact absurd ⟨_, _, c⟩ tup
        · rfl
      | ex e S1 => rfl
      | no => rfl
    rw [e0] at h
    exact h
end
end DL
end L2

set_option Elab.async false
set_option linter.all false
set_option maxRecDepth 100000
set_option maxHeartbeats 1600000
/-! zip of two texts with signs below 128 -/
namespace L2
namespace DL
open PySem PySem.Spec PyProof.Rows
open PySem.Sem (wp)
/-- five cells, no two alike -/
structure ZAp (z TI TO i1 i2 : Addr) : Prop where
  TIz : TI ≠ z
  TOz : TO ≠ z
  i1z : i1 ≠ z
  i2z : i2 ≠ z
  TITO : TI ≠ TO
  TIi1 : TI ≠ i1
  TIi2 : TI ≠ i2
  TOi1 : TO ≠ i1
  TOi2 : TO ≠ i2
  i12 : i1 ≠ i2
abbrev AIt (h : Heap) (i : Addr) (x : Str) (t : Tok) (k : Nat) : Prop := h.IsStrIter i "str_ascii_iterator" x t k
theorem AIt.at {h h' : Heap} {i : Addr} {x : Str} {t : Tok} {k : Nat} (y : AIt h i x t k) (q : ∀ o, h.get? i = some o → h'.get? i = some o) : AIt h' i x t k :=
  let ⟨o, ho, r⟩ := y; ⟨o, q o ho, r⟩
section
variable {prog : Program} {w : World} {A : Around} {E : Value → Shared → Prop} {s : Shared}
theorem nextOf_text_item {it : Addr} {x : Str} {t : Tok} {i c : Nat} {Q : Value → Shared → Prop} (hit : AIt s.heap it x t i) (hx : x.cps[i]? = some c)
    (hQ : ∀ h', AIt h' it x t (i + 1) → Heap.SameBut it s.heap h' → Q (.str ⟨#[c]⟩ s.toks) { s with heap := h', toks := s.toks + 1 }) :
    wpAny (model prog w) A (Builtin.SmallTypes.nextOf (.ref it)) Q E s := by
  obtain ⟨o, ho, hc, hd⟩ := id hit
  unfold Builtin.SmallTypes.nextOf
  refine wpAny_bind (wpAny_callSpecial?_slot (name := Str.ofString "__next__") hit.typeIs F.slot_str_ascii_iterator_next
    (wpAny_call_entry F.slot_str_ascii_iterator_next hit.typeIs F.entry_str_ascii_iterator_next ?_ (F.args_str_ascii_iterator_next_1 _)))
  show wpAny _ _ (field (.ref it) 0 >>= _) _ _ s
  refine wpAny_bind (wpAny_field ho hd (x := .str x t) rfl ?_)
  show wpAny _ _ (field (.ref it) 1 >>= _) _ _ s
  refine wpAny_bind (wpAny_field ho hd (x := .int i 0) rfl ?_)
  simp only [Int.toNat_natCast, hx]
  refine wpAny_bind (wpAny_setField ho hd (by simp) (wpAny_bind (wpAny_mkStr (wpAny_pure ⟨_, rfl, wpAny_pure (hQ _ ?_ (Heap.SameBut.update ..))⟩) (by show 1 ≤ sizeLine; decide))))
  exact ⟨_, Heap.get?_update_self _ ho (Obj.isFreed_of_fields (Obj.data_mapFields hd _)), (Obj.cls_mapFields ..).trans hc, by
    rw [Obj.data_mapFields hd]; simp [rawInt]⟩
theorem nextOf_text_end {it : Addr} {x : Str} {t : Tok} {i : Nat} {Q : Value → Shared → Prop} (hh : A.handled = none)
    (hit : AIt s.heap it x t i) (hx : x.cps[i]? = none)
    (hE : ∀ h' e, Heap.ExtBut it s.heap h' → (∃ o, h'.get? e = some o ∧ o.cls = .type "StopIteration") → E (.ref e) { s with heap := h' }) :
    wpAny (model prog w) A (Builtin.SmallTypes.nextOf (.ref it)) Q E s := by
  obtain ⟨o, ho, hc, hd⟩ := id hit
  unfold Builtin.SmallTypes.nextOf
  refine wpAny_bind (wpAny_callSpecial?_slot (name := Str.ofString "__next__") hit.typeIs F.slot_str_ascii_iterator_next
    (wpAny_call_entry F.slot_str_ascii_iterator_next hit.typeIs F.entry_str_ascii_iterator_next ?_ (F.args_str_ascii_iterator_next_1 _)))
  show wpAny _ _ (field (.ref it) 0 >>= _) _ _ s
  refine wpAny_bind (wpAny_field ho hd (x := .str x t) rfl ?_)
  show wpAny _ _ (field (.ref it) 1 >>= _) _ _ s
  refine wpAny_bind (wpAny_field ho hd (x := .int i 0) rfl ?_)
  simp only [Int.toNat_natCast, hx]
  refine wpAny_bind (wpAny_rule (wpAny_bind (wpAny_setField ho hd (by simp) (wpAny_bind (wpAny_letGo ?_)))))
  show wpAny _ _ (newExc (.type "StopIteration") [] >>= _) _ _ _
  refine wpAny_bind ?_
  simp only [newExc, newTuple]
  refine wpAny_bind (wpAny_newObj_type ?_ (by size_fits))
  refine wpAny_bind (m := firstArgMember _ _) (wpAny_of_eq (a := Value.none) (by first | rfl | (simp only [firstArgMember]; rfl)) ?_)
  refine wpAny_newObj_type ?_ (by size_fits)
  simp only [raiseNew]
  refine wpAny_bind (wpAny_handled ?_)
  first | rw [show A.in1.handled = none from hh] | rw [hh]
  refine wpAny_bind (wpAny_pure (wpAny_throw ?_))
  exact hE _ _ (((Heap.SameBut.update ..).extBut.push _).push _) ⟨_, Heap.get?_push_size _ rfl, rfl⟩
theorem zipS_next_item {z TI TO i1 i2 : Addr} {x1 x2 : Str} {t1 t2 : Tok} {k1 k2 c1 c2 : Nat} {a b : Value} {Q : Value → Shared → Prop} (D : ZAp z TI TO i1 i2)
    (hz : IsZip s.heap z TI TO .none) (hTI : IsPair s.heap TI (.ref i1) (.ref i2)) (hTO : IsPair s.heap TO a b)
    (h1 : AIt s.heap i1 x1 t1 k1) (h2 : AIt s.heap i2 x2 t2 k2) (hx : x1.cps[k1]? = some c1) (hy : x2.cps[k2]? = some c2)
    (hQ : ∀ h' u1 u2 tk, IsZip h' z TI TO (rawInt s.heap.objs.size) → IsPair h' TO (.str ⟨#[c1]⟩ u1) (.str ⟨#[c2]⟩ u2) → AIt h' i1 x1 t1 (k1 + 1) → AIt h' i2 x2 t2 (k2 + 1) → IsPair h' s.heap.objs.size (.str ⟨#[c1]⟩ u1) (.str ⟨#[c2]⟩ u2) → h'.objs.size = s.heap.objs.size + 1 →
      (∀ c o, c ≠ z → c ≠ TO → c ≠ i1 → c ≠ i2 → s.heap.get? c = some o → h'.get? c = some o) → Q (.ref s.heap.objs.size) { s with heap := h', toks := tk }) :
    wpAny (model prog w) A (Builtin.«zip.__next__» ⟨[.ref z], []⟩) (fun fin s' => ∃ v, fin = .done (.ret v) ∧ Q v s') E s := by
  show wpAny _ _ (field (.ref z) 2 >>= _) _ _ _
  refine wpAny_bind (wpAny_field hz rfl (x := .bool false) rfl ?_)
  show wpAny _ _ (field (.ref z) 3 >>= _) _ _ _
  refine wpAny_bind (wpAny_field hz rfl (x := .ref TI) rfl ?_)
  refine wpAny_bind (wpAny_seqItems hTI rfl ?_)
  show wpAny _ _ (Builtin.SmallTypes.ownedTupleIsFree (.ref z) >>= _) _ _ _
  refine wpAny_bind ?_
  unfold Builtin.SmallTypes.ownedTupleIsFree
  refine wpAny_bind (wpAny_field hz rfl (x := .none) rfl (wpAny_pure ?_))
  simp only [if_true]
  refine wpAny_bind (wpAny_rule ?_)
  refine wpAny_bind (wpAny_field hz rfl (x := .ref TO) rfl ?_)
  refine wpAny_bind (wpAny_setField_rec hz (by simp) fun h₁ hz₁ hs₁ => ?_)
  replace hz₁ : IsZip h₁ z TI TO .ellipsis := hz₁
  refine wpAny_bind ?_
  simp only [List.zipIdx_cons, List.zipIdx_nil, List.forIn_cons, List.forIn_nil]
  refine wpAny_bind (wpAny_bind (wpAny_onRaise ?_))
  show wpAny _ _ (Builtin.SmallTypes.nextOf (.ref i1) >>= _) _ _ _
  refine wpAny_bind (nextOf_text_item (h1.extBut hs₁.extBut D.i1z) hx fun h₂ h1₂ hs₂ => wpAny_pure ?_)
  have hTO₂ : IsPair h₂ TO a b := hs₂.extBut _ _ D.TOi1 (hs₁.extBut _ _ D.TOz hTO)
  refine wpAny_bind (wpAny_seqItems hTO₂ rfl ?_)
  refine wpAny_bind (wpAny_updateSeq_pair hTO₂ fun h₃ hTO₃ hs₃ => ?_)
  replace hTO₃ : IsPair h₃ TO (.str ⟨#[c1]⟩ s.toks) b := hTO₃
  refine wpAny_bind (wpAny_letGo (wpAny_pure ?_))
  refine wpAny_bind (wpAny_bind (wpAny_onRaise ?_))
  show wpAny _ _ (Builtin.SmallTypes.nextOf (.ref i2) >>= _) _ _ _
  refine wpAny_bind (nextOf_text_item (((h2.extBut hs₁.extBut D.i2z).extBut hs₂.extBut D.i12.symm).extBut hs₃.extBut D.TOi2.symm) hy fun h₄ h2₄ hs₄ => wpAny_pure ?_)
  have hTO₄ := hs₄.extBut _ _ D.TOi2 hTO₃
  refine wpAny_bind (wpAny_seqItems hTO₄ rfl ?_)
  refine wpAny_bind (wpAny_updateSeq_pair hTO₄ fun h₅ hTO₅ hs₅ => ?_)
  replace hTO₅ : IsPair h₅ TO (.str ⟨#[c1]⟩ s.toks) (.str ⟨#[c2]⟩ (s.toks + 1)) := hTO₅
  refine wpAny_bind (wpAny_letGo (wpAny_pure (wpAny_pure ?_)))
  refine wpAny_bind (wpAny_seqItems hTO₅ rfl ?_)
  refine wpAny_bind (wpAny_newTuple ?_)
  have hsz : h₅.objs.size = s.heap.objs.size := by rw [hs₅.1, hs₄.1, hs₃.1, hs₂.1, hs₁.1]
  have hz₅ : IsZip h₅ z TI TO .ellipsis := hs₅.extBut _ _ D.TOz.symm (hs₄.extBut _ _ D.i2z.symm (hs₃.extBut _ _ D.TOz.symm (hs₂.extBut _ _ D.i1z.symm hz₁)))
  have hk₅ : ∀ c o, c ≠ z → c ≠ TO → c ≠ i1 → c ≠ i2 → s.heap.get? c = some o → h₅.get? c = some o := fun c o c1 c2 c3 c4 e =>
    hs₅.extBut _ _ c2 (hs₄.extBut _ _ c4 (hs₃.extBut _ _ c2 (hs₂.extBut _ _ c3 (hs₁.extBut _ _ c1 e))))
  have h1₅ : AIt h₅ i1 x1 t1 (k1 + 1) := ((h1₂.extBut hs₃.extBut D.TOi1.symm).extBut hs₄.extBut D.i12).extBut hs₅.extBut D.TOi1.symm
  have h2₅ : AIt h₅ i2 x2 t2 (k2 + 1) := h2₄.extBut hs₅.extBut D.TOi2.symm
  have hzlt : z < h₅.objs.size := Heap.lt_size hz₅
  show wpAny _ _ (Builtin.SmallTypes.ownedTupleHandOut (.ref z) (.ref h₅.objs.size) >>= _) _ _ _
  refine wpAny_bind ?_
  unfold Builtin.SmallTypes.ownedTupleHandOut
  have hz₆ := Heap.get?_push_of_some { cls := .type "tuple", data := .seq #[Value.str ⟨#[c1]⟩ s.toks, Value.str ⟨#[c2]⟩ (s.toks + 1)] } hz₅
  refine wpAny_bind (wpAny_setField_rec hz₆ (by simp) fun h₇ hz₇ hs₇ => ?_)
  refine wpAny_setField_rec hz₇ (by simp) fun h₈ hz₈ hs₈ => ?_
  replace hz₈ : IsZip h₈ z TI TO (rawInt h₅.objs.size) := hz₈
  have up : ∀ c o, c ≠ z → h₅.get? c = some o → h₈.get? c = some o := fun c o c1 e => hs₈.extBut _ _ c1 (hs₇.extBut _ _ c1 (Heap.get?_push_of_some _ e))
  have hT₈ : IsPair h₈ h₅.objs.size (.str ⟨#[c1]⟩ s.toks) (.str ⟨#[c2]⟩ (s.toks + 1)) := hs₈.extBut _ _ (Nat.ne_of_gt hzlt) (hs₇.extBut _ _ (Nat.ne_of_gt hzlt) (Heap.get?_push_size _ rfl))
  have hz8 : h₈.objs.size = h₅.objs.size + 1 := by rw [hs₈.1, hs₇.1, Heap.size_push]
  rw [hsz] at hz₈ hT₈ hz8
  refine wpAny_pure ⟨_, rfl, ?_⟩
  show Q (.ref h₅.objs.size) _
  rw [hsz]
  exact hQ h₈ _ _ _ hz₈ (up _ _ D.TOz hTO₅) (h1₅.at fun o e => up _ o D.i1z e) (h2₅.at fun o e => up _ o D.i2z e) hT₈ hz8 fun c o c1 c2 c3 c4 e => up c o c1 (hk₅ c o c1 c2 c3 c4 e)
end
end DL
end L2

set_option Elab.async false
set_option linter.all false
set_option maxRecDepth 100000
set_option maxHeartbeats 1600000
/-! zip of two texts: the end, the call, the walk -/
namespace L2
namespace DL
open PySem PySem.Spec PyProof.Rows
open PySem.Sem (wp)
section
variable {prog : Program} {w : World} {A : Around} {E : Value → Shared → Prop} {s : Shared}
theorem zipS_next_end {z TI TO i1 i2 : Addr} {x1 x2 : Str} {t1 t2 : Tok} {k1 k2 : Nat} {a b : Value} {Q : PySem.Fin → Shared → Prop} (hh : A.handled = none) (D : ZAp z TI TO i1 i2)
    (hz : IsZip s.heap z TI TO .none) (hTI : IsPair s.heap TI (.ref i1) (.ref i2)) (hTO : IsPair s.heap TO a b)
    (h1 : AIt s.heap i1 x1 t1 k1) (h2 : AIt s.heap i2 x2 t2 k2) (hend : x1.cps[k1]? = none ∨ x2.cps[k2]? = none)
    (hE : ∀ h' e tk, (∀ c o, c ≠ z → c ≠ TO → c ≠ i1 → c ≠ i2 → s.heap.get? c = some o → h'.get? c = some o) → (∃ o, h'.get? e = some o ∧ o.cls = .type "StopIteration") → E (.ref e) { s with heap := h', toks := tk }) :
    wpAny (model prog w) A (Builtin.«zip.__next__» ⟨[.ref z], []⟩) Q E s := by
  show wpAny _ _ (field (.ref z) 2 >>= _) _ _ _
  refine wpAny_bind (wpAny_field hz rfl (x := .bool false) rfl ?_)
  show wpAny _ _ (field (.ref z) 3 >>= _) _ _ _
  refine wpAny_bind (wpAny_field hz rfl (x := .ref TI) rfl ?_)
  refine wpAny_bind (wpAny_seqItems hTI rfl ?_)
  show wpAny _ _ (Builtin.SmallTypes.ownedTupleIsFree (.ref z) >>= _) _ _ _
  refine wpAny_bind ?_
  unfold Builtin.SmallTypes.ownedTupleIsFree
  refine wpAny_bind (wpAny_field hz rfl (x := .none) rfl (wpAny_pure ?_))
  simp only [if_true]
  refine wpAny_bind (wpAny_rule ?_)
  refine wpAny_bind (wpAny_field hz rfl (x := .ref TO) rfl ?_)
  refine wpAny_bind (wpAny_setField_rec hz (by simp) fun h₁ hz₁ hs₁ => ?_)
  replace hz₁ : IsZip h₁ z TI TO .ellipsis := hz₁
  refine wpAny_bind ?_
  simp only [List.zipIdx_cons, List.zipIdx_nil, List.forIn_cons, List.forIn_nil]
  refine wpAny_bind (wpAny_bind (wpAny_onRaise ?_))
  show wpAny _ _ (Builtin.SmallTypes.nextOf (.ref i1) >>= _) _ _ _
  cases hx : x1.cps[k1]? with
  | none =>
    refine wpAny_bind (nextOf_text_end hh (h1.extBut hs₁.extBut D.i1z) hx fun h₂ e hs₂ he => ?_)
    obtain ⟨oe, hoe, hce⟩ := he
    have hz₂ : IsZip h₂ z TI TO .ellipsis := hs₂ _ _ D.i1z.symm hz₁
    have hez : e ≠ z := fun x => by subst x; rw [hz₂] at hoe; cases hoe; simp at hce
    refine wpAny_setField_rec hz₂ (by simp) fun h₃ _ hs₃ => hE h₃ e _ (fun c o c1 _ c3 _ x => hs₃.extBut _ _ c1 (hs₂ _ _ c3 (hs₁.extBut _ _ c1 x))) ⟨oe, hs₃.extBut _ _ hez hoe, hce⟩
  | some x =>
    have hy : x2.cps[k2]? = none := by rcases hend with h | h; rw [hx] at h; cases h; exact h
    refine wpAny_bind (nextOf_text_item (h1.extBut hs₁.extBut D.i1z) hx fun h₂ h1₂ hs₂ => wpAny_pure ?_)
    have hTO₂ : IsPair h₂ TO a b := hs₂.extBut _ _ D.TOi1 (hs₁.extBut _ _ D.TOz hTO)
    refine wpAny_bind (wpAny_seqItems hTO₂ rfl ?_)
    refine wpAny_bind (wpAny_updateSeq_pair hTO₂ fun h₃ hTO₃ hs₃ => ?_)
    refine wpAny_bind (wpAny_letGo (wpAny_pure ?_))
    refine wpAny_bind (wpAny_bind (wpAny_onRaise ?_))
    show wpAny _ _ (Builtin.SmallTypes.nextOf (.ref i2) >>= _) _ _ _
    refine wpAny_bind (nextOf_text_end hh (((h2.extBut hs₁.extBut D.i2z).extBut hs₂.extBut D.i12.symm).extBut hs₃.extBut D.TOi2.symm) hy fun h₄ e hs₄ he => ?_)
    obtain ⟨oe, hoe, hce⟩ := he
    have hz₄ : IsZip h₄ z TI TO .ellipsis := hs₄ _ _ D.i2z.symm (hs₃.extBut _ _ D.TOz.symm (hs₂.extBut _ _ D.i1z.symm hz₁))
    have hez : e ≠ z := fun x => by subst x; rw [hz₄] at hoe; cases hoe; simp at hce
    refine wpAny_setField_rec hz₄ (by simp) fun h₅ _ hs₅ => hE h₅ e _ (fun c o c1 c2 c3 c4 x => hs₅.extBut _ _ c1 (hs₄ _ _ c4 (hs₃.extBut _ _ c2 (hs₂.extBut _ _ c3 (hs₁.extBut _ _ c1 x))))) ⟨oe, hs₅.extBut _ _ hez hoe, hce⟩
theorem pyNext_zipS_item {z TI TO i1 i2 : Addr} {x1 x2 : Str} {t1 t2 : Tok} {k1 k2 c1 c2 : Nat} {a b : Value} {Q : Option Value → Shared → Prop} (D : ZAp z TI TO i1 i2)
    (hz : IsZip s.heap z TI TO .none) (hTI : IsPair s.heap TI (.ref i1) (.ref i2)) (hTO : IsPair s.heap TO a b)
    (h1 : AIt s.heap i1 x1 t1 k1) (h2 : AIt s.heap i2 x2 t2 k2) (hx : x1.cps[k1]? = some c1) (hy : x2.cps[k2]? = some c2)
    (hQ : ∀ h' u1 u2 tk, IsZip h' z TI TO (rawInt s.heap.objs.size) → IsPair h' TO (.str ⟨#[c1]⟩ u1) (.str ⟨#[c2]⟩ u2) → AIt h' i1 x1 t1 (k1 + 1) → AIt h' i2 x2 t2 (k2 + 1) → IsPair h' s.heap.objs.size (.str ⟨#[c1]⟩ u1) (.str ⟨#[c2]⟩ u2) → h'.objs.size = s.heap.objs.size + 1 →
      (∀ c o, c ≠ z → c ≠ TO → c ≠ i1 → c ≠ i2 → s.heap.get? c = some o → h'.get? c = some o) → Q (some (.ref s.heap.objs.size)) { s with heap := h', toks := tk }) :
    wpAny (model prog w) A (pyNext (.ref z)) Q E s := by
  have hT : s.TypeIs (.ref z) "zip" := ⟨_, hz, rfl⟩
  unfold pyNext
  exact wpAny_bind (wpAny_attempt (wpAny_callSpecial?_slot (name := Str.ofString "__next__") hT F.slot_zip_next
    (wpAny_call_entry F.slot_zip_next hT F.entry_zip_next
      (zipS_next_item D hz hTI hTO h1 h2 hx hy fun h' u1 u2 tk a1 a2 a3 a4 a5 a6 a7 => wpAny_pure (hQ h' u1 u2 tk a1 a2 a3 a4 a5 a6 a7)) (F.args_zip_next_1 _))))
theorem pyNext_zipS_end {z TI TO i1 i2 : Addr} {x1 x2 : Str} {t1 t2 : Tok} {k1 k2 : Nat} {a b : Value} {Q : Option Value → Shared → Prop} (hh : A.handled = none) (D : ZAp z TI TO i1 i2)
    (hz : IsZip s.heap z TI TO .none) (hTI : IsPair s.heap TI (.ref i1) (.ref i2)) (hTO : IsPair s.heap TO a b)
    (h1 : AIt s.heap i1 x1 t1 k1) (h2 : AIt s.heap i2 x2 t2 k2) (hend : x1.cps[k1]? = none ∨ x2.cps[k2]? = none)
    (hQ : ∀ h' tk, (∀ c o, c ≠ z → c ≠ TO → c ≠ i1 → c ≠ i2 → s.heap.get? c = some o → h'.get? c = some o) → Q none { s with heap := h', toks := tk }) : wpAny (model prog w) A (pyNext (.ref z)) Q E s := by
  have hT : s.TypeIs (.ref z) "zip" := ⟨_, hz, rfl⟩
  unfold pyNext
  refine wpAny_bind (wpAny_attempt (wpAny_callSpecial?_slot (name := Str.ofString "__next__") hT F.slot_zip_next
    (wpAny_call_entry F.slot_zip_next hT F.entry_zip_next (zipS_next_end hh D hz hTI hTO h1 h2 hend fun h' e tk hk he => ?_) (F.args_zip_next_1 _))))
  obtain ⟨o, ho, hc⟩ := he
  refine wpAny_bind (wpAny_isInstance (T := "StopIteration") (b := true) ⟨o, ho, hc⟩ isSubtype_stop ?_)
  exact wpAny_pure (hQ _ _ hk)
end
abbrev zsH1 (h : Heap) (x : Str) (t : Tok) : Heap := h.push { cls := .type "str_ascii_iterator", data := .fields #[.str x t, .int 0 0] }
abbrev zsH2 (h : Heap) (x y : Str) (t u : Tok) : Heap := (zsH1 h x t).push { cls := .type "str_ascii_iterator", data := .fields #[.str y u, .int 0 0] }
abbrev zsH3 (h : Heap) (x y : Str) (t u : Tok) : Heap := (zsH2 h x y t u).push { cls := .type "tuple", data := .seq #[.ref h.objs.size, .ref (zsH1 h x t).objs.size] }
abbrev zsH4 (h : Heap) (x y : Str) (t u : Tok) : Heap := (zsH3 h x y t u).push { cls := .type "tuple", data := .seq #[.none, .none] }
abbrev zsH5 (h : Heap) (x y : Str) (t u : Tok) : Heap := (zsH4 h x y t u).push { cls := .type "zip", data := .fields #[.none, .bool false, .bool false, .ref (zsH2 h x y t u).objs.size, .ref (zsH3 h x y t u).objs.size] }
theorem meets_zipS_new (x y : Str) (t u : Tok) (hx : x.cps.all (· < 128) = true) (hy : y.cps.all (· < 128) = true) :
    Meets (Builtin.«zip.__new__» ⟨[.type "zip", .str x t, .str y u], []⟩) (fun _ R s =>
      R (.ok (.ret (.ref (zsH4 s.heap x y t u).objs.size))) { s with heap := zsH5 s.heap x y t u }) :=
  .of_wp fun prog w A R s h => by
    obtain ⟨hp, g, d, tk, os⟩ := s
    have hsub := sub_zip
    wp_walk using wpAny_pyIter_ascii hx, wpAny_pyIter_ascii hy
    exact ⟨_, rfl, h⟩
end DL
end L2

set_option Elab.async false
set_option linter.all false
set_option maxRecDepth 100000
set_option maxHeartbeats 1600000
/-! zip of two texts: what is walked -/
namespace L2
namespace DL
open PySem PySem.Spec PyProof.Rows
section
variable {prog : Program} {w : World} {A : Around} {E : Value → Shared → Prop} {s : Shared}
theorem call_zipS {x y : Str} {t u : Tok} {Q : Value → Shared → Prop} (hx : x.cps.all (· < 128) = true) (hy : y.cps.all (· < 128) = true)
    (h : ∀ h', IsZip h' (s.heap.objs.size + 4) (s.heap.objs.size + 2) (s.heap.objs.size + 3) .none → IsPair h' (s.heap.objs.size + 2) (.ref s.heap.objs.size) (.ref (s.heap.objs.size + 1)) →
      IsPair h' (s.heap.objs.size + 3) .none .none → AIt h' s.heap.objs.size x t 0 → AIt h' (s.heap.objs.size + 1) y u 0 → h'.objs.size = s.heap.objs.size + 5 →
      (∀ c o, s.heap.get? c = some o → h'.get? c = some o) → Q (.ref (s.heap.objs.size + 4)) { s with heap := h' }) :
    wpAny (model prog w) A (call (.type "zip") [.str x t, .str y u]) Q E s := by
  refine callType_new F.called_zip (by decide) (F.typeCall_zip_2 _ _) (F.newCall_zip_2 _ _) (fun obj => F.args_object_init_3 obj _ _) F.entry_zip_new
    (meets_zipS_new x y t u hx hy) ?_
  have z1 : (zsH1 s.heap x t).objs.size = s.heap.objs.size + 1 := Heap.size_push ..
  have z2 : (zsH2 s.heap x y t u).objs.size = s.heap.objs.size + 2 := by rw [Heap.size_push, z1]
  have z3 : (zsH3 s.heap x y t u).objs.size = s.heap.objs.size + 3 := by rw [Heap.size_push, z2]
  have z4 : (zsH4 s.heap x y t u).objs.size = s.heap.objs.size + 4 := by rw [Heap.size_push, z3]
  have z5 : (zsH5 s.heap x y t u).objs.size = s.heap.objs.size + 5 := by rw [Heap.size_push, z4]
  have g5 : (zsH5 s.heap x y t u).get? (zsH4 s.heap x y t u).objs.size = some _ := Heap.get?_push_size _ rfl
  have g4 : (zsH5 s.heap x y t u).get? (zsH3 s.heap x y t u).objs.size = some _ := Heap.get?_push_of_some _ (Heap.get?_push_size _ rfl)
  have g3 : (zsH5 s.heap x y t u).get? (zsH2 s.heap x y t u).objs.size = some _ := Heap.get?_push_of_some _ (Heap.get?_push_of_some _ (Heap.get?_push_size _ rfl))
  have g2 : (zsH5 s.heap x y t u).get? (zsH1 s.heap x t).objs.size = some _ := Heap.get?_push_of_some _ (Heap.get?_push_of_some _ (Heap.get?_push_of_some _ (Heap.get?_push_size _ rfl)))
  have g1 : (zsH5 s.heap x y t u).get? s.heap.objs.size = some _ := Heap.get?_push_of_some _ (Heap.get?_push_of_some _ (Heap.get?_push_of_some _ (Heap.get?_push_of_some _ (Heap.get?_push_size _ rfl))))
  show _ ∧ _
  rw [z2, z3, z4] at g5
  rw [z1, z2] at g3
  rw [z3] at g4
  rw [z1] at g2
  rw [z4]
  exact ⟨⟨_, g5, rfl⟩, h _ g5 g3 g4 ⟨_, g1, rfl, rfl⟩ ⟨_, g2, rfl, rfl⟩ z5 fun c o q =>
    Heap.get?_push_of_some _ (Heap.get?_push_of_some _ (Heap.get?_push_of_some _ (Heap.get?_push_of_some _ (Heap.get?_push_of_some _ q))))⟩
end
/-- the signs of two texts, in new pairs -/
def ItzS (x y : Str) : It :=
  ⟨fun i H => i < x.cps.size ∧ i < y.cps.size,
    fun i H v H' => ∃ T c d, v = .ref T ∧ H T = none ∧ H' = upd H T (.tup [sgV c, sgV d]) ∧ x.cps[i]? = some c ∧ y.cps[i]? = some d,
    fun i H => x.cps.size ≤ i ∨ y.cps.size ≤ i⟩
theorem turn_zipS {P : Program} {w : World} {K : PySem.W.Frag} {elts : List Expr} {kk : Nat} {tpos : Pos} {x y : Str} {t1 t2 : Tok} {z TI TO i1 i2 : Addr} (D : ZAp z TI TO i1 i2) :
    Turn P w K (.Tuple elts kk tpos) (ItzS x y) [z, TI, TO, i1, i2] z (fun i h => IsZip h z TI TO .none ∧ IsPair h TI (.ref i1) (.ref i2) ∧ (∃ a b, IsPair h TO a b) ∧ AIt h i1 x t1 i ∧ AIt h i2 y t2 i) where
  mem := by simp
  obj := fun i h st c hc => by
    obtain ⟨hz, hTI, ⟨x, y, hTO⟩, ⟨o1, e1, _, d1⟩, ⟨o2, e2, _, d2⟩⟩ := st
    have e' : c = z ∨ c = TI ∨ c = TO ∨ c = i1 ∨ c = i2 := by simpa using hc
    rcases e' with q | q | q | q | q
    · rw [q]; exact ⟨_, hz, fun v q => nomatch q⟩
    · rw [q]; exact ⟨_, hTI, fun v q => nomatch q⟩
    · rw [q]; exact ⟨_, hTO, fun v q => nomatch q⟩
    · rw [q]; exact ⟨o1, e1, fun v q => by rw [d1] at q; cases q⟩
    · rw [q]; exact ⟨o2, e2, fun v q => by rw [d2] at q; cases q⟩
  keep := fun i h h' st k => by
    obtain ⟨hz, hTI, ⟨x, y, hTO⟩, h1, h2⟩ := st
    exact ⟨k z (by simp) _ hz, k TI (by simp) _ hTI, ⟨x, y, k TO (by simp) _ hTO⟩, h1.at fun o q => k i1 (by simp) o q, h2.at fun o q => k i2 (by simp) o q⟩
  item := by
    intro X hP hw hK hc i pins s σ H E I hf st hg
    subst hP hw hK
    obtain ⟨hz, hTI, ⟨x0, y0, hTO⟩, h1, h2⟩ := st
    obtain ⟨hx, hy⟩ := hg
    have hzl : z < s.heap.objs.size := Heap.lt_size hz
    refine pyNext_zipS_item D hz hTI hTO h1 h2 (c1 := x.cps[i]) (c2 := y.cps[i]) (by simp [hx]) (by simp [hy]) fun h' u1 u2 tk z' TO' h1' h2' hT hsz hk => ?_
    refine ⟨_, rfl, wpAny_letOwnedTupleGo_zip (s := { s with heap := h', toks := tk }) z' fun h'' z'' sb => ?_⟩
    have hT2 : h''.get? s.heap.objs.size = some { cls := .type "tuple", data := .seq #[.str ⟨#[x.cps[i]]⟩ u1, .str ⟨#[y.cps[i]]⟩ u2] } := (sb.2 _ (Nat.ne_of_gt hzl)).trans hT
    have new : ObjOk X.prog X.w (upd H s.heap.objs.size (.tup [sgV x.cps[i], sgV y.cps[i]])) h'' s.heap.objs.size (.tup [sgV x.cps[i], sgV y.cps[i]]) :=
      ⟨by show 2 ≤ sizeLine; decide, [.str ⟨#[x.cps[i]]⟩ u1, .str ⟨#[y.cps[i]]⟩ u2], .cons ⟨_, rfl⟩ (.cons ⟨_, rfl⟩ .nil), ⟨_, hT2, rfl, _, rfl⟩⟩
    have I1 : Inv X pins σ (upd H s.heap.objs.size (.tup [sgV x.cps[i], sgV y.cps[i]])) { s with heap := h'', toks := tk } :=
      I.turnedNew (t' := tk) (ch := [z, TI, TO, i1, i2]) (fun c o hb q => (sb.2 c (fun q' => hb (by simp [q']))).trans (hk c o (fun q' => hb (by simp [q'])) (fun q' => hb (by simp [q'])) (fun q' => hb (by simp [q'])) (fun q' => hb (by simp [q'])) q)) hf (Nat.le_refl _) new
    refine ⟨.ref s.heap.objs.size, _, I1, rfl, ⟨_, x.cps[i], y.cps[i], rfl, I.hok.fresh (Nat.le_refl _), rfl, by simp [hx], by simp [hy]⟩, ⟨z'', ?_, ⟨.str ⟨#[x.cps[i]]⟩ u1, .str ⟨#[y.cps[i]]⟩ u2, ?_⟩, ?_, ?_⟩, fun c hcm => ?_⟩
    · exact (sb.2 _ D.TIz).trans (hk _ _ D.TIz D.TITO D.TIi1 D.TIi2 hTI)
    · exact (sb.2 _ D.TOz).trans TO'
    · exact h1'.at fun o q => (sb.2 _ D.i1z).trans q
    · exact h2'.at fun o q => (sb.2 _ D.i2z).trans q
    · have hlt : c < s.heap.objs.size := by
        have e' : c = z ∨ c = TI ∨ c = TO ∨ c = i1 ∨ c = i2 := by simpa using hcm
        rcases e' with q | q | q | q | q
        · rw [q]; exact hzl
        · rw [q]; exact Heap.lt_size hTI
        · rw [q]; exact Heap.lt_size hTO
        · rw [q]; obtain ⟨_, e1, _⟩ := h1; exact Heap.lt_size e1
        · rw [q]; obtain ⟨_, e2, _⟩ := h2; exact Heap.lt_size e2
      rw [upd_ne (Nat.ne_of_lt hlt)]
      exact (hf c hcm).1
  done := by
    intro X hP hw hK hc i pins s σ H E I hf st hg
    subst hP hw hK
    obtain ⟨hz, hTI, ⟨x0, y0, hTO⟩, h1, h2⟩ := st
    have he : x.cps[i]? = none ∨ y.cps[i]? = none := by
      rcases hg with q | q
      · exact .inl (by simp; omega)
      · exact .inr (by simp; omega)
    exact pyNext_zipS_end (I.ok.hd hc) D hz hTI hTO h1 h2 he fun h' tk hk => ⟨rfl, I.turnedL (t' := tk) (ch := [z, TI, TO, i1, i2]) (fun c o hb q =>
      hk c o (fun q' => hb (by simp [q'])) (fun q' => hb (by simp [q'])) (fun q' => hb (by simp [q'])) (fun q' => hb (by simp [q'])) q) hf⟩
  self := fun A i s Q E st h => wpAny_pyIter_zip st.1 h
end DL
end L2

set_option Elab.async false
set_option linter.all false
set_option maxRecDepth 100000
/-! three names as a target; what is never done; range with a step -/
namespace L2
namespace DL
open PySem PySem.Spec PyProof.Rows
section
variable {X : Cx} {W : WX} {e a b c : Expr} {es : List Expr} {fa fb fc : Env' → M D} {fs : Env' → M (List D)} {pos p : Pos} {k : Nat}
/-- a statement that is never reached -/
theorem sj_never {st : Stmt} (hm : PS X st (fun _ _ _ => False) := by exact ⟨fun _ _ _ _ _ _ h => h.elim⟩) : SJ X W st (fun _ => M.no) := ps_imp hm fun D σ H h => by
  obtain ⟨μ0, S0, H0, μ, S, τ, hs, h⟩ := h
  exact h
def gN3 (i j l : Nat) : D → Env' → Option Env' := fun d ρ => match d with
  | .tuple [x, y, z] => some (((ρ.set i (some x)).set j (some y)).set l (some z))
  | _ => none
theorem tj_three {i j l : Nat} {x y z : Str} {px py pz : Pos} {k : Nat} (hc : X.calm = true) (hN : X.N.Nodup) (hi : X.N[i]? = some x := by rfl) (hj : X.N[j]? = some y := by rfl) (hl : X.N[l]? = some z := by rfl) (hx : Loc X.env.scope x := by first | exact .inl rfl | exact .inr rfl) (hy : Loc X.env.scope y := by first | exact .inl rfl | exact .inr rfl) (hz : Loc X.env.scope z := by first | exact .inl rfl | exact .inr rfl)
    (hfx : X.fn x = true ∨ X.env.scope.names.lookup x = some .local := by first | exact .inl rfl | exact .inr rfl) (hfy : X.fn y = true ∨ X.env.scope.names.lookup y = some .local := by first | exact .inl rfl | exact .inr rfl) (hfz : X.fn z = true ∨ X.env.scope.names.lookup z = some .local := by first | exact .inl rfl | exact .inr rfl)
    (h1 : (assignEach (.Name x px :: [.Name y py, .Name z pz]) X.env).map (·.2) = assign (.Name x px) X.env :: (assignEach [.Name y py, .Name z pz] X.env).map (·.2) := by rfl) (h2 : (assignEach (.Name y py :: [.Name z pz]) X.env).map (·.2) = assign (.Name y py) X.env :: (assignEach [.Name z pz] X.env).map (·.2) := by rfl)
    (h3 : (assignEach (.Name z pz :: []) X.env).map (·.2) = assign (.Name z pz) X.env :: (assignEach [] X.env).map (·.2) := by rfl)
    (hn : (assignEach [.Name x px, .Name y py, .Name z pz] X.env).length = 3 := by rfl) (hst : (assignEach [.Name x px, .Name y py, .Name z pz] X.env).findIdx? (·.1) = none := by rfl) :
    TJ X (.Tuple [.Name x px, .Name y py, .Name z pz] k pos) (gN3 i j l) [i, j, l] := by
  refine pg_imp (pg_tup (n := 3) hc (pgs_cons (pg_name hN hi hx hfx) (pgs_cons (pg_name hN hj hy hfy) (pgs_cons (pg_name hN hl hz hfz) pgs_nil h3) h2) h1) hn hst) fun v σ H Q h => ?_
  obtain ⟨μ, S, ρ, d, ρ', he, ha, hg, h⟩ := h
  unfold gN3 at hg
  split at hg
  · cases hg
    obtain ⟨p, xs, rfl, h1, h2⟩ := at_tup ha
    cases h2 with
    | cons b1 t =>
      cases t with
      | cons b2 t =>
        cases t with
        | cons b3 t =>
          cases t
          refine ⟨p, _, rfl, seqT_mono nh_same h1, rfl, _, _, rfl, _, _, rfl, _, _, rfl, rfl, ?_⟩
          refine h _ (((he.set (.inr b1) i).set (.inr b2) j).set (.inr b3) l) (by rw [List.length_set, List.length_set, List.length_set]) fun q hq => ?_
          rw [List.getElem?_set_ne fun z => hq (by simp [z]), List.getElem?_set_ne fun z => hq (by simp [z]), List.getElem?_set_ne fun z => hq (by simp [z])]
  · cases hg
theorem set_stb {ρ : Env'} {i l : Nat} {x d : D} (q : (ρ.set i (some x))[l]? = some (some d)) : (l = i ∧ d = x) ∨ (l ≠ i ∧ ρ[l]? = some (some d)) := by
  rw [List.getElem?_set] at q
  split at q
  · rename_i e
    split at q
    · cases q; exact .inl ⟨e.symm, rfl⟩
    · cases q
  · rename_i e
    exact .inr ⟨fun z => e z.symm, q⟩
theorem tgOk_three (i j l : Nat) : TgOk (gN3 i j l) [i, j, l] := by
  refine ⟨fun d ρ ρ' h => ?_, fun d ρ ρ' h q hq => ?_, fun d ρ ρ' h f q hq e hk => ?_⟩
  · unfold gN3 at h
    split at h
    · cases h; rw [List.length_set, List.length_set, List.length_set]
    · cases h
  · unfold gN3 at h
    split at h
    · cases h
      rw [List.getElem?_set_ne fun z => hq (by simp [z]), List.getElem?_set_ne fun z => hq (by simp [z]), List.getElem?_set_ne fun z => hq (by simp [z])]
    · cases h
  · unfold gN3 at h
    split at h
    · rename_i x y z
      cases h
      have fx : flat x = true ∧ flat y = true ∧ flat z = true := by
        unfold stb at f
        simpa [flat, flatAll, hOf] using f
      have sx : ∀ u : D, flat u = true → stb u = true := fun u hu => by unfold stb; rw [hu]; rfl
      rcases set_stb hk with ⟨_, rfl⟩ | ⟨n1, hk⟩
      · exact sx _ fx.2.2
      · rcases set_stb hk with ⟨_, rfl⟩ | ⟨n2, hk⟩
        · exact sx _ fx.2.1
        · rcases set_stb hk with ⟨_, rfl⟩ | ⟨n3, hk⟩
          · exact sx _ fx.1
          · exfalso
            have : q = i ∨ q = j ∨ q = l := by simpa using hq
            rcases this with z | z | z
            · exact n3 z
            · exact n2 z
            · exact n1 z
    · cases h
end
end DL
end L2
namespace L2
namespace DL
open PySem PySem.Spec PyProof.Rows
section
variable {X : Cx} {W : WX} {pos : Pos}
/-- a call without arguments -/
theorem fj_call0 {x : Str} {n j k : Nat} {F : List D → M (D × Bool)} {p : Pos} (c : Cal X.prog X.w X.K X.mg X.base x n j F) (hr : Room k X.A) (tk : Takes X W) (hk : j ≤ k := by decide) (hg : Gl X x := by rfl) (hdb : (x == ("__debug__" : Str)) = false := by decide) :
    FJ X W (.Call (.Name x p) [] [] pos) (fFn F n aNil) := by
  obtain ⟨f, fd, ps, hn, Fk, hm, hkp, hb⟩ := c
  have run0 : ∀ (pins : List (Addr × Obj)) (s : Shared) (σ : St) (H : Hp) (Q : VK) (I : Inv X pins σ H s), _ := fun pins s σ H Q I => run_fnS (us := []) (vs := []) (Q := Q) Fk (hr.mono hk) hb (passAt tk σ) I .nil
  refine ⟨fun pins s σ H Q I h => ?_⟩
  refine wpAny_Call_Name_kw (ld_glob I hg hm ?_ hdb)
  refine PySem.W.callWith_K0 I.kIn hkp (run0 pins s σ H Q I ?_)
  obtain ⟨μ, S, ρ, hE, hw, h⟩ := h
  have h' : Post X.K X.mg (fun c d H' => W c d σ H') μ S H (M.bind (M.ret []) (fun ds => if decide (ds.length = n) = true then F ds else M.no) S) _ := h
  have h1 := h'.bind.here hw
  split at h1
  · rename_i q
    exact ⟨μ, S, [], of_decide_eq_true q, hw, .nil, h1.mono fun r μ2 S2 H2 s2 w2 h2 v a2 => h2 v (a2.back fun p hp => hp)⟩
  · exact h1.elim
end
end DL
end L2

set_option Elab.async false
set_option linter.all false
set_option maxRecDepth 100000
set_option maxHeartbeats 1600000
/-! zip of two texts: the rule -/
namespace L2
namespace DL
open PySem PySem.Spec PyProof.Rows
def iZipS (ta : TA) : TI := fun σ H R => ta σ H fun vs H1 => ∃ x y, vs = [V.str x, V.str y] ∧ x.cps.all (· < 128) = true ∧ y.cps.all (· < 128) = true ∧ R (ItzS x y) H1
theorem pi_zipS {X : Cx} {e1 e2 : Expr} {ta : TA} {p q r : Pos} {els : List Expr} {kk : Nat} (hg : Gl X "zip") (hm : X.mg "zip" = none) (ha : PA X [e1, e2] ta)
    (h1 : starEach [e1, e2] X.env = (false, eval e1 X.env) :: starEach [e2] X.env) (h2 : (backTo q (starEach [e2] X.env)).any (·.1) = false) :
    PI X (.Tuple els kk r) (.Call (.Name "zip" p) [e1, e2] [] q) (iZipS ta) := by
  refine ⟨fun pins s0 σ H R I0 hyp => ?_⟩
  refine Call_ (ld_blt I0 hg hm PyProof.Rows.boot_zip (PyProof.Rows.callWith_type1 (thn (ha.run q pins s0 σ H _ I0 hyp) fun us st ⟨vs, Hn, In, rel, post⟩ => ?_) h1 h2))
  obtain ⟨x, y, evs, hx, hy, post⟩ := post
  subst evs
  cases rel with
  | cons ra rs =>
    cases rs with
    | cons rb rs =>
      cases rs
      obtain ⟨t, rfl⟩ := ra
      obtain ⟨u, rfl⟩ := rb
      refine call_zipS hx hy fun hh z1 z2 z3 z4 z5 zn zk => ?_
      refine wpAny_pyIter_zip z1 ?_
      have I2 : Inv X pins σ Hn { st with heap := hh } := In.kept (t' := st.toks) zk
      have D : ZAp (st.heap.objs.size + 4) (st.heap.objs.size + 2) (st.heap.objs.size + 3) st.heap.objs.size (st.heap.objs.size + 1) := by constructor <;> (show (_ : Nat) ≠ _) <;> omega
      refine ⟨st.heap.objs.size + 4, _, _, _, Hn, rfl, I2, turn_zipS D, ⟨z1, z2, ⟨_, _, z3⟩, z4, z5⟩, fun c hc => ?_, post⟩
      have hle : st.heap.objs.size ≤ c := by
        simp only [List.mem_cons, List.not_mem_nil, or_false] at hc
        rcases hc with rfl | rfl | rfl | rfl | rfl
        · exact Nat.le_add_right _ _
        · exact Nat.le_add_right _ _
        · exact Nat.le_add_right _ _
        · exact Nat.le_refl _
        · exact Nat.le_add_right _ _
      exact In.fpOk hle (In.hok.fresh hle)
def ascii (x : Str) : Bool := x.cps.all (· < 128)
def oZipS : List D → Option (List D)
  | [.str x, .str y] => if (ascii x && ascii y && szOk x.length) = true then some ((x.cps.toList.zip y.cps.toList).map fun p => .tuple [sgn p.1, sgn p.2]) else none
  | _ => none
theorem iter_zipS {K : PySem.W.Frag} {Hb : Hp} {x y : Str} (z : x.length ≤ sizeLine) : IterOk K Hb (ItzS x y) ((x.cps.toList.zip y.cps.toList).map fun p => .tuple [sgn p.1, sgn p.2]) := by
  have hl : ((x.cps.toList.zip y.cps.toList).map fun p => PyData.tuple [sgn p.1, sgn p.2]).length = min x.cps.size y.cps.size := by
    rw [List.length_map, List.length_zip, Array.length_toList, Array.length_toList]
  refine ⟨by rw [hl]; exact Nat.le_trans (Nat.min_le_left _ _) z, fun i H hi e => ?_, fun H e => ?_, fun i H v H' hi e w => ?_⟩
  · rw [hl] at hi
    exact ⟨by omega, by omega⟩
  · rw [hl]
    show x.cps.size ≤ min x.cps.size y.cps.size ∨ y.cps.size ≤ min x.cps.size y.cps.size
    omega
  · obtain ⟨T, c, d, rfl, hT, rfl, f1, f2⟩ := w
    refine ⟨.tuple [sgn c, sgn d], ?_, .inr ⟨T, _, _, sgn c, sgn d, rfl, hT, rfl, rfl, .str _, .str _⟩⟩
    rw [List.getElem?_map]
    have g1 : x.cps.toList[i]? = some c := by rw [Array.getElem?_toList]; exact f1
    have g2 : y.cps.toList[i]? = some d := by rw [Array.getElem?_toList]; exact f2
    have : (x.cps.toList.zip y.cps.toList)[i]? = some (c, d) := List.getElem?_zip_eq_some.mpr ⟨g1, g2⟩
    rw [this]
    rfl
section
variable {X : Cx} {W : WX} {a b : Expr} {pos : Pos}
theorem ij_zipS {p tpos : Pos} {elts : List Expr} {kk : Nat} {f : Env' → M (List D)} (ha : AJ X W [a, b] f) (hm : X.mg "zip" = none) (hg : Gl X "zip" := by rfl) (hs : starEach [a, b] X.env = (false, eval a X.env) :: starEach [b] X.env := by rfl) (hpl : (backTo pos (starEach [b] X.env)).any (·.1) = false := by rfl) :
    IJ X W (.Tuple elts kk tpos) (.Call (.Name "zip" p) [a, b] [] pos) (iA oZipS f) := by
  refine pi_imp (pi_zipS hg hm ha hs hpl) fun σ H R h => ?_
  obtain ⟨μ, S, ρ, he, hw, h⟩ := h
  refine ⟨μ, S, ρ, he, hw, h.bind.mono fun ds μ1 S1 H1 s1 w1 h1 vs a1 => ?_⟩
  obtain ⟨es, e, h1⟩ := h1.ofO
  unfold oZipS at e
  split at e
  · rename_i x y
    split at e
    · rename_i q
      cases e
      simp only [Bool.and_eq_true] at q
      obtain ⟨v, u, rfl, b, c⟩ := pr2 a1
      rw [at_str b, at_str c]
      exact ⟨x, y, rfl, q.1.1, q.1.2, h1.here w1 _ (iter_zipS (szOk_le q.2))⟩
    · cases e
  · cases e
end
end DL
end L2

set_option Elab.async false
set_option linter.all false
set_option maxRecDepth 100000
/-! a, b = x, new: what is new stays owned, also where the names are seen from inside -/
namespace L2
namespace DL
open PySem PySem.Spec PyProof.Rows
def sAsg2F (i j : Nat) (fa : Env' → M D) (fb : Env' → M (D × Bool)) : Ste → M (Fl × Ste) := fun τ => lft (M.bind (fa τ.1) fun x => M.bind (fb τ.1) fun r => M.ret (x, r)) τ fun p =>
  if decide (i < τ.1.length ∧ j < τ.1.length) = true then M.ret (.nx, asg i (p.1, false) (asg j p.2 τ)) else M.no
theorem FrAt.new {K : PySem.W.Frag} {B : Hp} {μ : Mu} {S : Wd} {H : Hp} {v : V} {d : D} (h : FrAt K B μ S.length H v d) {p : Addr} (hp : H p = none) (o : HO) : FrAt K B μ S.length (upd H p o) v d := by
  obtain ⟨q, es, vs, rfl, e2, e3, e4, e5, e6, e7⟩ := h
  have ne : ∀ {b : Addr} {u : HO}, H b = some u → b ≠ p := fun e z => by rw [z, hp] at e; cases e
  refine ⟨q, es, vs, rfl, e2, by rw [upd_ne (ne e3)]; exact e3, e4, e5, e6, dpAll_mono (fun b u hb => ?_) _ _ e7⟩
  obtain ⟨t1, t2⟩ := nh_some.mp hb
  exact nh_some.mpr ⟨by rw [upd_ne (ne t1)]; exact t1, t2⟩
section
variable {X : Cx} {W : WX} {pos : Pos}
theorem sj_asg2F {i j : Nat} {x y : Str} {px py pt p2 : Pos} {k k2} {a b : Expr} {fa : Env' → M D} {fb : Env' → M (D × Bool)} (hc : X.calm = true) (hN : X.N.Nodup) (ha : EJ X W a fa) (hb : FJ X W b fb) (hi : X.N[i]? = some x := by rfl) (hj : X.N[j]? = some y := by rfl) (hij : i ≠ j := by decide) (hx : Loc X.env.scope x := by first | exact .inl rfl | exact .inr rfl) (hy : Loc X.env.scope y := by first | exact .inl rfl | exact .inr rfl)
    (hfx : X.fn x = true ∨ X.env.scope.names.lookup x = some .local := by first | exact .inl rfl | exact .inr rfl) (hfy : X.fn y = true ∨ X.env.scope.names.lookup y = some .local := by first | exact .inl rfl | exact .inr rfl)
    (h1 : (assignEach (.Name x px :: [.Name y py]) X.env).map (·.2) = assign (.Name x px) X.env :: (assignEach [.Name y py] X.env).map (·.2) := by rfl) (h2 : (assignEach (.Name y py :: []) X.env).map (·.2) = assign (.Name y py) X.env :: (assignEach [] X.env).map (·.2) := by rfl)
    (hn : (assignEach [.Name x px, .Name y py] X.env).length = 2 := by rfl) (hst : (assignEach [.Name x px, .Name y py] X.env).findIdx? (·.1) = none := by rfl)
    (he : starEach (a :: [b]) X.env = (false, eval a X.env) :: starEach [b] X.env := by rfl) (he2 : starEach (b :: []) X.env = (false, eval b X.env) :: starEach [] X.env := by rfl)
    (hs : swapsWithSole [.Tuple [.Name x px, .Name y py] k pt] (.Tuple [a, b] k2 p2) pos.line X.env = pure false := by rfl) (hw : swappedStores [.Tuple [.Name x px, .Name y py] k pt] (.Tuple [a, b] k2 p2) X.env = pure none := by rfl)
    (h3 : (assignEach [.Tuple [.Name x px, .Name y py] k pt] X.env).map (·.2) = [assign (.Tuple [.Name x px, .Name y py] k pt) X.env] := by rfl) :
    SJ X W (.Assign [.Tuple [.Name x px, .Name y py] k pt] (.Tuple [a, b] k2 p2) pos) (sAsg2F i j fa fb) := by
  refine ps_imp (ps_asg (pe_tup (pa_cons ha (pa_cons hb pa_nil he2) he)) (pg_tup (n := 2) hc (pgs_cons (pg_name hN hi hx hfx) (pgs_cons (pg_name hN hj hy hfy) pgs_nil h2) h1) hn hst) hs hw h3) fun D σ H h => ?_
  obtain ⟨μ0, S0, H0, μ, S, τ, hs', h⟩ := h
  have h' := h.lft hs'
  refine ⟨μ, S, τ.1, hs'.env, hs'.w, h'.bind.mono fun d1 μ1 S1 H1 s1 w1 q1 v1 a1 => ?_⟩
  refine ⟨μ1, S1, τ.1, hs'.env.step s1, w1, q1.bind.mono fun r μ2 S2 H2 s2 w2 q2 v2 a2 => ?_⟩
  refine ⟨by show 2 ≤ sizeLine; decide, fun p hp => ?_⟩
  have h4 := Post.new q2 w2 hp (.tup [v1, v2])
  simp only at h4
  split at h4
  · rename_i hl
    obtain ⟨hl1, hl2⟩ := of_decide_eq_true hl
    obtain ⟨st3, w3⟩ := step_new w2 hp (.tup [v1, v2])
    refine ⟨p, [v1, v2], rfl, .inl (.inl upd_same), rfl, _, _, rfl, _, _, rfl, rfl, ?_⟩
    rw [List.set_comm _ _ hij]
    have b2 : RetOk X.K H μ2 S2.length (upd H2 p (.tup [v1, v2])) v2 r := by
      have a3 := a2.back fun q hq => still s1 hs'.w w1 hq
      exact ⟨a3.1.step st3, fun z => (a3.2 z).new hp _⟩
    have k1 := hs'.set ((s1.trans s2).trans st3) w3 b2 hl2
    have k2 := k1.set (Step.refl ..) w3 (r := (d1, false)) (v := v1) ⟨(a1.step s2).step st3, fun z => by cases z⟩ (i := i) (by rw [asg_len]; exact hl1)
    exact h4 μ2 _ _ k2
  · exact h4.elim
end
end DL
end L2

set_option Elab.async false
set_option linter.all false
set_option maxRecDepth 100000
/-! a, b = new, new: what is new stays owned -/
namespace L2
namespace DL
open PySem PySem.Spec PyProof.Rows
def sPar2F (i j : Nat) (fa fb : Env' → M (D × Bool)) : Ste → M (Fl × Ste) := fun τ => lft (M.bind (fa τ.1) fun x => M.bind (fb τ.1) fun r => M.ret (x, r)) τ fun p =>
  if decide (i < τ.1.length ∧ j < τ.1.length) = true then M.ret (.nx, asg j p.2 (asg i p.1 τ)) else M.no
theorem FrAt.step {K : PySem.W.Frag} {B : Hp} {μ μ' : Mu} {n n' : Nat} {H H' : Hp} {v : V} {d : D} (h : FrAt K B μ n H v d) (s : Step μ n H μ' n' H') : FrAt K B μ' n' H' v d := by
  obtain ⟨p, es, vs, rfl, e2, e3, e4, e5, e6, e7⟩ := h
  obtain ⟨k1, k2, k3⟩ := nh_some.mp (s.keep p _ (nh_some.mpr ⟨e3, e5, e6⟩))
  refine ⟨p, es, vs, rfl, e2, k1, e4, k2, k3, dpAll_mono (fun b u hb => ?_) _ _ e7⟩
  obtain ⟨t1, t2, t3⟩ := nh_some.mp hb
  have t4 : b ≠ p ∧ b ∉ μ.hid := by
    refine ⟨fun z => t3 ?_, fun z => t3 ?_⟩
    · show b ∈ p :: μ.hid
      rw [z]; exact List.mem_cons_self
    · exact List.mem_cons_of_mem _ z
  obtain ⟨m1, m2, m3⟩ := nh_some.mp (s.keep b u (nh_some.mpr ⟨t1, t2, t4.2⟩))
  refine nh_some.mpr ⟨m1, m2, fun z => ?_⟩
  rcases List.mem_cons.mp z with z | z
  · exact t4.1 z
  · exact m3 z
theorem RetOk.step {K : PySem.W.Frag} {B : Hp} {μ μ' : Mu} {n n' : Nat} {H H' : Hp} {v : V} {r : D × Bool} (h : RetOk K B μ n H v r) (s : Step μ n H μ' n' H') : RetOk K B μ' n' H' v r := ⟨h.1.step s, fun q => (h.2 q).step s⟩
section
variable {X : Cx} {W : WX} {pos : Pos}
theorem sj_par2F {i j : Nat} {x y : Str} {a b : Expr} {fa fb : Env' → M (D × Bool)} {px py pt : Pos} {kt k2 pt2} (hc : X.calm = true) (hN : X.N.Nodup) (ha : FJ X W a fa) (hb : FJ X W b fb) (hi : X.N[i]? = some x := by rfl) (hj : X.N[j]? = some y := by rfl) (hij : i ≠ j := by decide)
    (hx : X.env.scope.names.lookup x = some .local := by rfl) (hy : X.env.scope.names.lookup y = some .local := by rfl)
    (he : starEach (a :: [b]) X.env = (false, eval a X.env) :: starEach [b] X.env := by rfl) (he2 : starEach (b :: []) X.env = (false, eval b X.env) :: starEach [] X.env := by rfl)
    (hw : swappedStores [.Tuple [.Name x px, .Name y py] kt pt] (.Tuple [a, b] k2 pt2) X.env = pure (some [x, y]) := by rfl)
    (hs : swapsWithSole [.Tuple [.Name x px, .Name y py] kt pt] (.Tuple [a, b] k2 pt2) pos.line X.env = pure false := by rfl) :
    SJ X W (.Assign [.Tuple [.Name x px, .Name y py] kt pt] (.Tuple [a, b] k2 pt2) pos) (sPar2F i j fa fb) := by
  refine ps_imp (ps_par hc hN hi hj hij hx hy (pa_cons ha (pa_cons hb pa_nil he2) he) hw hs) fun Dn σ H h => ?_
  obtain ⟨μ0, S0, H0, μ, S, τ, hs', h⟩ := h
  have h' := h.lft hs'
  refine ⟨μ, S, τ.1, hs'.env, hs'.w, h'.bind.mono fun r1 μ1 S1 H1 s1 w1 q1 v1 a1 => ?_⟩
  refine ⟨μ1, S1, τ.1, hs'.env.step s1, w1, q1.bind.mono fun r μ2 S2 H2 s2 w2 q2 v2 a2 => ?_⟩
  have q2 := Post.here (K := X.K) q2 w2
  simp only at q2
  split at q2
  · rename_i q
    obtain ⟨l1, l2⟩ := of_decide_eq_true q
    refine ⟨v1, v2, rfl, q2 μ2 _ H2 ?_⟩
    have k1 := hs'.set s1 w1 (r := r1) (v := v1) a1 l1
    exact k1.set s2 w2 (r := r) (v := v2) a2 (by rw [asg_len]; exact l2)
  · exact q2.elim
end
end DL
end L2

set_option Elab.async false
set_option linter.all false
set_option maxRecDepth 100000
/-! list(x) is a new list -/
namespace L2
namespace DL
open PySem PySem.Spec PyProof.Rows
def fListS (f : Env' → M (List D)) : Env' → M (D × Bool) := fun ρ => M.bind (f ρ) fun ds => M.bind (gO oListS ds) fun d => M.ret (d, true)
section
variable {X : Cx} {W : WX} {a : Expr} {fs : Env' → M (List D)} {pos p : Pos}
theorem fj_listS (hc : X.calm = true) (hm : X.mg "list" = none) (ha : AJ X W [a] fs) (hg : Gl X "list" := by rfl) (he : starEach (a :: []) X.env = (false, eval a X.env) :: starEach [] X.env := by rfl) (hpl : (backTo pos (starEach [] X.env)).any (·.1) = false := by rfl) : FJ X W (.Call (.Name "list" p) [a] [] pos) (fListS fs) :=
  pe_imp (pe_callTy (call_list_of.or (cr_listS hc)) hg hm (by decide +kernel) ha (by decide) (by decide) he hpl) fun σ H Q h => by
    obtain ⟨μ, S, ρ, hen, hw, h⟩ := h
    refine ⟨μ, S, ρ, hen, hw, h.bind.mono fun ds μ1 S1 H1 s1 w1 h1 vs a1 => ?_⟩
    have h2 := h1.bind
    unfold gO at h2
    obtain ⟨d, e, h2⟩ := h2.ofO
    have h3 := h2.here w1
    unfold oListS at e
    split at e
    · rename_i z
      obtain ⟨v, rfl, b⟩ := pr1 a1
      split at e
      · rename_i q
        cases e
        rw [at_str b]
        exact .inr ⟨z, rfl, szOk_le q, fun l hl => Post.new h3 w1 hl _ _ (fr_new w1 hl (still s1 hw w1 hl) (dp_signs _))⟩
      · cases e
    · unfold oList at e
      split at e
      · cases e
        obtain ⟨v, rfl, b⟩ := pr1 a1
        obtain ⟨p, xs, rfl, h1, h2⟩ := at_list b
        exact .inl ⟨p, xs, rfl, .inl (nh_same.seq h1), fun l hl => Post.new h3 w1 hl _ _ (fr_new w1 hl (still s1 hw w1 hl) h2)⟩
      · cases e
        obtain ⟨v, rfl, b⟩ := pr1 a1
        obtain ⟨p, xs, rfl, h1, h2⟩ := at_tup b
        exact .inl ⟨p, xs, rfl, .inr (seqT_mono nh_same h1), fun l hl => Post.new h3 w1 hl _ _ (fr_new w1 hl (still s1 hw w1 hl) h2)⟩
      · cases e
end
end DL
end L2

set_option Elab.async false
set_option linter.all false
set_option maxRecDepth 100000
/-! a comprehension gives a new list -/
namespace L2
namespace DL
open PySem PySem.Spec PyProof.Rows
def fLc (fi : Env' → M (List D)) (gt : D → Env' → Option Env') (vs : List Nat) (ft : Env' → M Bool) (fe : Env' → M D) : Env' → M (D × Bool) := fun ρ => M.bind (xLc fi gt vs ft fe ρ) fun d => M.ret (d, true)
section
variable {X : Cx} {W : WX}
theorem lc_readF {fi : Env' → M (List D)} {gt : D → Env' → Option Env'} {is vs : List Nat} {ft : Env' → M Bool} {fe : Env' → M D} {K : PySem.W.Frag} {mg : Str → Option Value} (hi : ∀ j, j ∈ is → j ∈ vs) {σ : St} {H : Hp} {Q : VK}
    (h : tF K mg W (fLc fi gt vs ft fe) σ H Q) : tLc (tI K mg W fi) (tG K gt is) (tB K mg W0 ft) (tE K mg W0 fe) vs σ H Q := by
  obtain ⟨μ, S, ρ, he, hw, h⟩ := h
  have h' : Post K mg (fun c d H' => W c d σ H') μ S H (xLc fi gt vs ft fe ρ S) (fun d μ' S' H' => ∀ v, RetOk K H μ' S'.length H' v (d, true) → Q v H') := h.bind.mono fun d μ1 S1 H1 s1 w1 h1 v a => Post.here h1 w1 v a
  clear h
  refine ⟨μ, S, ρ, he, hw, h'.bind.mono fun ds μ1 S1 H1 s1 w1 h1 J hJ => ?_⟩
  intro Dd hD
  have he1 := he.step s1
  generalize hit : lcItem gt ft fe (wipeE ρ vs) = item at h1
  refine ⟨fun i m G => m = ds.length - i ∧ i ≤ ds.length ∧ ∃ μ' S' acc es0, LcInv K mg (fun c d H' => W c d σ H') μ1 S1 H1 Dd item ds (fun d μ' S' H' => ∀ v, RetOk K H μ' S'.length H' v (d, true) → Q v H') i G μ' S' acc es0, ⟨ds.length, by omega, Nat.zero_le _, μ1.with (Dd :: μ1.hid), S1, [], [], ?_⟩, ?_⟩
  · obtain ⟨k1, k2⟩ := hide_new w1 hD (.lst [])
    exact ⟨rfl, upd_same, k2, (step_new w1 hD _).1, .nil, Nat.zero_le _, h1⟩
  · rintro i m H2 ⟨rfl, hle, μ', S', acc, es0, J0⟩
    have sm : Same (Nh μ1 S1.length H1) H2 := J0.st.keep.trans nh_same
    have sm2 : Same (Nh μ1 S1.length H1) (Nh μ' S'.length H2) := fun a u e => by
      obtain ⟨e1, e2, e3⟩ := nh_some.mp (J0.st.keep a u e)
      obtain ⟨f1, _, _⟩ := nh_some.mp e
      exact nh_some.mpr ⟨e1, e2, fun z => by
        rw [J0.hid] at z
        rcases List.mem_cons.mp z with z | z
        · exact ne_of_none f1 hD z
        · exact e3 z⟩
    by_cases hlt : i < ds.length
    · refine .inr ⟨hJ.goes i H2 hlt sm, fun H' => i + 1 ≤ ds.length ∧ ∃ μ' S' acc es0, LcInv K mg (fun c d H' => W c d σ H') μ1 S1 H1 Dd item ds (fun d μ' S' H' => ∀ v, RetOk K H μ' S'.length H' v (d, true) → Q v H') (i + 1) H' μ' S' acc es0, fun H' q => ⟨ds.length - (i + 1), by omega, rfl, q.1, q.2⟩, fun x H3 hy => ?_⟩
      obtain ⟨d, hd, y⟩ := hJ.yields i H2 x H3 hlt sm hy
      obtain ⟨s3, w3, a3⟩ := y.to J0.w sm2
      have hdrop : ds.drop i = d :: ds.drop (i + 1) := by
        rw [List.drop_eq_getElem_cons hlt]
        congr 1
        exact Option.some.inj ((List.getElem?_eq_getElem hlt).symm.trans hd)
      have hP := J0.post
      rw [hdrop] at hP
      have hP2 : Post K mg (fun c d H' => W c d σ H') μ1 S1 H1 (M.bind (M.quiet (item d)) (fun o => M.bind (lcM item (ds.drop (i + 1))) fun es => M.ret (.list (es0 ++ (match o with
          | some e => e :: es
          | none => es)))) S') (fun d μ' S' H' => ∀ v, RetOk K H μ' S'.length H' v (d, true) → Q v H') := by
        have q : M.bind (lcM item (d :: ds.drop (i + 1))) (fun es => M.ret (PyData.list (es0 ++ es))) = M.bind (M.quiet (item d)) (fun o => M.bind (lcM item (ds.drop (i + 1))) fun es => M.ret (.list (es0 ++ (match o with
          | some e => e :: es
          | none => es)))) := by
          show M.bind (M.bind (M.quiet (item d)) fun o => M.bind (lcM item (ds.drop (i + 1))) fun es => M.ret (match o with
            | some e => e :: es
            | none => es)) (fun es => M.ret (PyData.list (es0 ++ es))) = _
          rw [M.bind_assoc]
          congr 1
          funext o
          rw [M.bind_assoc]
          rfl
        rw [q] at hP
        exact hP
      clear hP
      -- the target
      have hin : item d = match gt d (wipeE ρ vs) with
        | none => M.no
        | some ρ' => M.bind (ft ρ') fun b => if b = true then M.bind (fe ρ') fun e => if nd e = true then M.ret (some e) else M.no else M.ret none := by rw [← hit]; rfl
      cases hg : gt d (wipeE ρ vs) with
      | none =>
        rw [hg] at hin
        rw [hin] at hP2
        exact hP2.elim
      | some ρ' =>
        rw [hg] at hin
        simp only at hin
        have hew : EnvOk K μ' S'.length (Nh μ' S'.length H3) (wipeE ρ vs) (L2.wipe σ vs) := (he1.mono (μ' := μ') J0.st.le J0.st.ag (sm2.trans s3.keep)).wipe vs
        refine ⟨μ', S'.length, wipeE ρ vs, d, ρ', hew, a3, hg, fun σ2 he2 hl2 hsame => ⟨?_, ?_⟩⟩
        · apply List.ext_getElem?
          intro j
          rw [wipe_get, wipe_get]
          have hl3 : σ2.length = σ.length := by rw [hl2, wipe_length]
          by_cases hj : j ∈ vs
          · rw [if_pos hj, if_pos hj, hl3]
          · rw [if_neg hj, if_neg hj, hsame j fun z => hj (hi j z), wipe_get, if_neg hj]
        rw [hin] at hP2
        have hb := (Post.quietB (Ec' := Ec0) (μ := μ') (S := S') (H := H3) hP2).bind
        -- the way of the result of a turn
        have next : ∀ {μ4 : Mu} {S4 : Wd} {H4 : Hp}, Step μ' S'.length H2 μ4 S4.length H4 → WOk K μ4 S4 H4 → ∀ (o : Option D) (acc' : List V) (es' : List D), es'.length ≤ i + 1 → DpAll K (Nh μ4 S4.length H4) acc' es' → (∀ es, es0 ++ (match o with
          | some e => e :: es
          | none => es) = es' ++ es) → Post K mg (fun c d H' => W c d σ H') μ1 S1 H1 (M.bind (lcM item (ds.drop (i + 1))) (fun es => M.ret (.list (es0 ++ (match o with
          | some e => e :: es
          | none => es)))) S4) (fun d μ' S' H' => ∀ v, RetOk K H μ' S'.length H' v (d, true) → Q v H') → i + 1 ≤ ds.length ∧ ∃ μ' S' acc es0, LcInv K mg (fun c d H' => W c d σ H') μ1 S1 H1 Dd item ds (fun d μ' S' H' => ∀ v, RetOk K H μ' S'.length H' v (d, true) → Q v H') (i + 1) (upd H4 Dd (.lst acc')) μ' S' acc es0 := fun {μ4 S4 H4} s4 w4 o acc' es' hle' hdp heq hpost => by
          have hid4 : μ4.hid = Dd :: μ1.hid := s4.hd.trans J0.hid
          have hDm : Dd ∈ μ4.hid := by rw [hid4]; exact List.mem_cons_self
          have neD : ∀ a, a ∈ μ1.hid → a ≠ Dd := fun a ha z => by
            obtain ⟨o, q⟩ := w1.ht a ha
            rw [z, hD] at q; cases q
          refine ⟨hlt, μ4, S4, acc', es', ⟨hid4, upd_same, ⟨w4.inj, fun k ob q => ?_, fun a ha => ?_, w4.hn⟩, ⟨Nat.le_trans J0.st.le s4.le, fun k hk => (s4.ag k (Nat.lt_of_lt_of_le hk J0.st.le)).trans (J0.st.ag k hk), rfl, fun a ha => ?_, fun a u e => ?_⟩, by rw [nh_hid hDm]; exact hdp, hle', ?_⟩⟩
          · have hk : k < S4.length := (List.getElem?_eq_some_iff.mp q).1
            exact (w4.ob k ob q).mono (by rw [nh_hid hDm]; exact Same.refl _) (upd_ne fun z => w4.hn k hk (by rw [z]; exact hDm))
          · by_cases z : a = Dd
            · exact ⟨_, by rw [z]; exact upd_same⟩
            · rw [upd_ne z]; exact w4.ht a ha
          · rw [upd_ne (neD a ha)]
            exact (s4.hk a (by rw [J0.hid]; exact List.mem_cons_of_mem _ ha)).trans (J0.st.hk a ha)
          · obtain ⟨f1, _, _⟩ := nh_some.mp e
            have g := s4.keep a u (sm2 a u e)
            obtain ⟨g1, g2, g3⟩ := nh_some.mp g
            refine nh_some.mpr ⟨by rw [upd_ne (ne_of_none f1 hD)]; exact g1, g2, fun z => g3 ?_⟩
            rw [hid4]
            exact List.mem_cons_of_mem _ z
          · have q : (fun es => M.ret (PyData.list (es0 ++ (match o with
              | some e => e :: es
              | none => es)))) = fun es => M.ret (PyData.list (es' ++ es)) := funext fun es => by rw [heq es]
            rw [← q]
            exact hpost
        refine ⟨μ', S', ρ', he2, w3, hb.mono fun b μ4 S4 H4 s4 w4 h4 => ?_⟩
        cases b with
        | false =>
          have h5 := Post.here h4 w4
          have hH : H4 = upd H4 Dd (.lst acc) := by
            funext a
            by_cases z : a = Dd
            · rw [z, upd_same, (s3.trans s4).hk Dd (by rw [J0.hid]; exact List.mem_cons_self)]
              exact J0.at_
            · rw [upd_ne z]
          have := next (s3.trans s4) w4 none acc es0 (Nat.le_succ_of_le J0.le) (dpAll_mono (s3.trans s4).keep _ _ J0.dp) (fun _ => rfl) h5
          rw [← hH] at this
          exact this
        | true =>
          refine ⟨μ4, S4, ρ', he2.step s4, w4, h4.bind.mono fun e μ5 S5 H5 s5 w5 h5 y a5 => ?_⟩
          split at h5
          · rename_i hnd
            have h6 := Post.here h5 w5
            have s35 := s3.trans (s4.trans s5)
            refine ⟨acc, ?_, ?_, ?_⟩
            · rw [s35.hk Dd (by rw [J0.hid]; exact List.mem_cons_self)]
              exact J0.at_
            · have hl := dpAll_length J0.dp
              have hz := hJ.len
              have hl' := J0.le
              omega
            · refine next s35 w5 (some e) (acc ++ [y]) (es0 ++ [e]) (by rw [List.length_append]; exact Nat.succ_le_succ J0.le) (dpAll_append (dpAll_mono s35.keep _ _ J0.dp) (.cons (at_dp a5 fun kvs z => by rw [z] at hnd; cases hnd) .nil)) (fun es => by simp) h6
          · exact h5.elim
    · have e : i = ds.length := by omega
      subst e
      refine .inl ⟨hJ.stops H2 sm, ?_⟩
      have hP := J0.post
      rw [List.drop_length] at hP
      have hP : Post K mg (fun c d H' => W c d σ H') μ1 S1 H1 (.ok (.list (es0 ++ [])) S') (fun d μ' S' H' => ∀ v, RetOk K H μ' S'.length H' v (d, true) → Q v H') := hP
      rw [List.append_nil] at hP
      have nz : Dd ∉ μ1.hid := fun z => by
        obtain ⟨o, q⟩ := w1.ht Dd z
        rw [hD] at q; cases q
      have nk : ∀ k, k < S'.length → μ'.at_ k ≠ Dd := fun k hk z => J0.w.hn k hk (by
        rw [J0.hid]
        have z' : μ'.at_ k = Dd := z
        rw [z']
        exact List.mem_cons_self)
      refine hP (μ'.with μ1.hid) H2 J0.st (J0.w.show fun a ha => by rw [J0.hid]; exact List.mem_cons_of_mem _ ha) _ ⟨.inr (.lst (.inl (.inl (nh_some.mpr ⟨J0.at_, nk, nz⟩))) (dpAll_mono (nh_more (μ := μ') (h' := μ'.hid) fun a ha => by rw [J0.hid]; exact List.mem_cons_of_mem _ ha) _ _ J0.dp)), fun _ => ⟨Dd, es0, acc, rfl, rfl, J0.at_, still s1 hw w1 hD, nk, nz, ?_⟩⟩
      refine dpAll_mono (fun a u e => ?_) _ _ J0.dp
      obtain ⟨e1, e2, e3⟩ := nh_some.mp e
      exact nh_some.mpr ⟨e1, e2, fun z => e3 (by rw [J0.hid]; exact z)⟩
theorem fj_lc {elt tg iter : Expr} {ifs : List Expr} {scope : Scope} {own : List (Str × Nat)} {pos : Pos} {fi : Env' → M (List D)} {gt : D → Env' → Option Env'} {is : List Nat} {ft : Env' → M Bool} {fe : Env' → M D} (hc : X.calm = true) (hN : X.N.Nodup) (hi : IJ X W tg iter fi) (ok : BlkOk X.N X.env.scope scope own)
    (hg : ∀ (s : Shared) (H : Hp) (C : Addr) (cl : List (Str × Addr)) (fp : List Addr), TJ (X.blk s H scope (compEnvC scope cl C X.env) fp) tg gt is) (ht : ∀ (s : Shared) (H : Hp) (C : Addr) (cl : List (Str × Addr)) (fp : List Addr), TsJ (X.blk s H scope (compEnvC scope cl C X.env) fp) W0 ifs ft)
    (he : ∀ (s : Shared) (H : Hp) (C : Addr) (cl : List (Str × Addr)) (fp : List Addr), EJ (X.blk s H scope (compEnvC scope cl C X.env) fp) W0 elt fe) (hv : ∀ j, j ∈ is → j ∈ own.map (·.2) := by decide) (hs : ∀ x, foldedSetIterable iter X.env x = pure x := by intro _; rfl) :
    FJ X W (.ListComp elt [⟨tg, iter, ifs, 0⟩] scope pos) (fLc fi gt (own.map (·.2)) ft fe) :=
  pe_imp (pe_lc (g := tG X.K gt is) (tt := tB X.K X.mg W0 ft) (te := tE X.K X.mg W0 fe) hc hN hi ok hg ht he hs) fun σ H Q h => lc_readF hv h
theorem sj_setLcF {i : Nat} {y : Str} {py : Pos} {elt tg iter : Expr} {ifs : List Expr} {scope : Scope} {own : List (Str × Nat)} {spos pos : Pos} {fi : Env' → M (List D)} {gt : D → Env' → Option Env'} {is : List Nat} {ft : Env' → M Bool} {fe : Env' → M D} (hc : X.calm = true) (hN : X.N.Nodup) (hi : IJ X W tg iter fi) (ok : BlkOk X.N X.env.scope scope own)
    (hg : ∀ (s : Shared) (H : Hp) (C : Addr) (cl : List (Str × Addr)) (fp : List Addr), TJ (X.blk s H scope (compEnvC scope cl C X.env) fp) tg gt is) (ht : ∀ (s : Shared) (H : Hp) (C : Addr) (cl : List (Str × Addr)) (fp : List Addr), TsJ (X.blk s H scope (compEnvC scope cl C X.env) fp) W0 ifs ft)
    (he : ∀ (s : Shared) (H : Hp) (C : Addr) (cl : List (Str × Addr)) (fp : List Addr), EJ (X.blk s H scope (compEnvC scope cl C X.env) fp) W0 elt fe) (hy : X.N[i]? = some y := by rfl) (hyl : X.env.scope.names.lookup y = some .local := by rfl) (hsw : swapsWith (.ListComp elt [⟨tg, iter, ifs, 0⟩] scope pos) (some (.Name y py)) spos.line X.env = pure true := by exact sw_true rfl rfl rfl (by decide +kernel)) (hv : ∀ j, j ∈ is → j ∈ own.map (·.2) := by decide) (hs : ∀ x, foldedSetIterable iter X.env x = pure x := by intro _; rfl) :
    SJ X W (.Assign [.Name y py] (.ListComp elt [⟨tg, iter, ifs, 0⟩] scope pos) spos) (sSet i (fLc fi gt (own.map (·.2)) ft fe)) := by
  refine ps_imp (ps_setLc (g := tG X.K gt is) (tt := tB X.K X.mg W0 ft) (te := tE X.K X.mg W0 fe) hc hN hy hyl hsw hi ok hg ht he hs) fun D σ H h => ?_
  obtain ⟨μ0, S0, H0, μ, S, τ, hs, h⟩ := h
  refine lc_readF hv ⟨μ, S, τ.1, hs.env, hs.w, ?_⟩
  refine (h.lft hs).mono fun r μ1 S1 H1 s1 w1 h1 v a => ?_
  split at h1
  · rename_i q
    exact h1 μ1 _ H1 (hs.set s1 w1 a (of_decide_eq_true q))
  · exact h1.elim
end
end DL
end L2

set_option Elab.async false
set_option linter.all false
set_option maxRecDepth 100000
/-! sorted(set(x)), x a list or a tuple of ints, is a new list -/
namespace L2
namespace DL
open PySem PySem.Spec PyProof.Rows
def oInts : D → Option (List Int)
  | .tuple ds => intsD ds
  | .list ds => intsD ds
  | _ => none
def fSortedSetI (fa : Env' → M D) : Env' → M (D × Bool) := fun ρ => M.bind (fa ρ) fun d => M.bind (ofO (oInts d)) fun ns => if decide (ns.length ≤ 1000) = true then M.ret (.list ((srtU ltI ns).map .int), true) else M.no
theorem strictI (ns : List Int) : (srtU ltI ns).Nodup := (srtU_sorted tot_int ns).imp fun {a b} h e => by
  subst e
  have : decide (a < a) = true := h
  simp at this
section
variable {X : Cx} {W : WX} {a : Expr} {fa : Env' → M D} {pos p : Pos} {k : Nat}
theorem fj_sortedSetI {q : Pos} (hc : X.calm = true) (hm : X.mg "sorted" = none) (hm2 : X.mg "set" = none) {p2 : Pos} (ha : EJ X W a fa) (hg : Gl X "sorted" := by rfl) (hg2 : Gl X "set" := by rfl)
    (he2 : starEach (a :: []) X.env = (false, eval a X.env) :: starEach [] X.env := by rfl) (hpl2 : (backTo q (starEach [] X.env)).any (·.1) = false := by rfl)
    (he : starEach (.Call (.Name "set" p2) [a] [] q :: []) X.env = (false, eval (.Call (.Name "set" p2) [a] [] q) X.env) :: starEach [] X.env := by rfl) (hpl : (backTo pos (starEach [] X.env)).any (·.1) = false := by rfl) :
    FJ X W (.Call (.Name "sorted" p) [.Call (.Name "set" p2) [a] [] q] [] pos) (fSortedSetI fa) := by
  refine pe_imp (pe_callB (cr_sortedSetI hc) hg hm (by decide +kernel) (pa_cons (pe_callTy ((cr_setI hc).or (cr_setTI hc)) hg2 hm2 (by decide +kernel) (pa_cons ha pa_nil he2) (by decide) (by decide) he2 hpl2) pa_nil he) (by decide) (by decide) he hpl) fun σ H Q h => ?_
  obtain ⟨μ, S, ρ, hen, hw, h⟩ := h
  refine ⟨μ, S, ρ, hen, hw, h.bind.mono fun d μ1 S1 H1 s1 w1 h1 v a1 => ?_⟩
  obtain ⟨ns, e, h1⟩ := h1.bind.ofO
  have h1 := h1.here w1
  split at h1
  · rename_i hlen
    have hl : ns.length ≤ 1000 := of_decide_eq_true hlen
    have fin : ∀ (T : Addr) (c : Nat), H1 T = none → ∀ (ns' : List Int) (p : Addr), ns'.Pairwise (· ≤ ·) → ns'.Nodup → (∀ k : Int, k ∈ ns' ↔ decide (k ∈ ns) = true) → (upd H1 T (SetO X.w T (fun j => decide (j ∈ ns)) c)) p = none → Q (.ref p) (upd (upd H1 T (SetO X.w T (fun j => decide (j ∈ ns)) c)) p (.lst (ns'.map V.int))) := fun T c hT ns' p' hs hd hmm hp' => by
      obtain ⟨st1, w2⟩ := step_new w1 hT (SetO X.w T (fun j => decide (j ∈ ns)) c)
      obtain ⟨st2, w3⟩ := step_new w2 hp' (.lst (ns'.map V.int))
      have e2 : ns' = srtU ltI ns := srtU_uniq tot_int hd (fun z => (hmm z).trans decide_eq_true_iff) (hs.imp fun {x y} h => decide_eq_false (by omega))
      subst e2
      exact h1 _ _ (st1.trans st2) w3 _ (fr_new w2 hp' (still s1 hw w1 (still st1 w1 w2 hp')) (dpAll_of_int _))
    have few : (srtU ltI ns).length + 1 < scanBound := by
      have := nodup_len (srtU ltI ns) ns (strictI ns) fun x hx => (srtU_mem tot_int ns x).mp hx
      unfold scanBound
      omega
    cases d with
    | list ds =>
      have e' : intsD ds = some ns := e
      obtain ⟨q, rfl, hq⟩ := at_ints a1 e'
      exact .inl ⟨q, ns, _, rfl, hq, few_srtU ns, few, fun T c hT => ⟨T, _, c, rfl, upd_same, fin T c hT⟩⟩
    | tuple ds =>
      have e' : intsD ds = some ns := e
      obtain ⟨q, xs, rfl, k1, k2⟩ := at_tup a1
      rw [of_ints e'] at k2
      rw [dpAll_int k2] at k1
      exact .inr ⟨q, ns, rfl, seqT_mono nh_same k1, hl, fun T c hT => ⟨T, _, c, rfl, upd_same, fin T c hT⟩⟩
    | none => cases e
    | bool _ => cases e
    | int _ => cases e
    | str _ => cases e
    | dict _ => cases e
  · exact h1.elim
end
end DL
end L2

set_option Elab.async false
set_option linter.all false
set_option maxRecDepth 100000
set_option maxHeartbeats 4000000
/-! list * int, tuple * int -/
namespace L2
namespace DL
open PySem PySem.Spec PyProof.Rows
def rRepT1 (K : PySem.W.Frag) : R2 := fun x y H Q => ∃ l xs, x = .ref l ∧ y = .int 1 ∧ SqT K H l xs ∧ Q (.ref l) H
section
variable {X : Cx}
theorem tuple_mul1 (l : Addr) (items : Array Value) (n : Nat) (dd : Option Addr) (sl : Array (Option Value)) (u : Tok) :
    Meets (Builtin.«tuple.__mul__» ⟨[.ref l, .int 1 u], []⟩) (fun _ R s => s.heap.get? l = some { cls := .type "tuple", dict := dd, data := .seq items n, slots := sl } ∧ R (.ok (.ret (Value.ref l))) s) :=
  .of_wp fun prog w A R s h => by
    obtain ⟨hp, g, d, tk, os⟩ := s
    obtain ⟨hl, h⟩ := h
    have f1 := AutoSeq1.idx_int
    wp_walk using wpAny_loadPart' hl
    repeat (first
      | (refine wpAny_ite_false (by decide) ?_; wp_walk using wpAny_loadPart' hl)
      | (refine wpAny_ite_true (by simp) ?_; wp_walk using wpAny_loadPart' hl))
    exact ⟨_, rfl, h⟩
theorem op_repT1 : OpR X (binaryOp .Mult) (rRepT1 X.K) := by
  intro pins s σ H x y v u Q I rx ry h
  obtain ⟨l, xs, rfl, rfl, hT, q⟩ := h
  cases rx
  obtain ⟨t, rfl⟩ := ry
  obtain ⟨its, r, ⟨⟨cls, dd, data, sl⟩, ho, hc, n, hd⟩, hs⟩ := I.tuple hT
  simp only at hc hd
  subst hc hd
  refine wpAny_binaryOp_repeat_ref (T := "tuple") (U := "int") (by decide) ⟨_, ho, rfl⟩ (fun s' => typeIs_int s' 1 t) noFill_tuple_mul F.fills_int_mul F.slot_int_rmul repeat_tuple F.slot_int_index.lookup
    (call_meets F.slot_int_rmul (typeIs_int s 1 t) F.entry_int_rmul (F.args_int_rmul_2 _ _) (int_rmul_tuple 1 t l its.toArray n dd sl)
      ⟨ho, rfl, ⟨_, ho, rfl⟩, call_meets F.slot_tuple_mul ⟨_, ho, rfl⟩ F.entry_tuple_mul (F.args_tuple_mul_2 _ _) (tuple_mul1 l its.toArray n dd sl t) ⟨ho, ?_⟩⟩)
  exact ⟨.ref l, H, I, rfl, q⟩
end
def gRepF : D × Bool → D → M D
  | (.list es, true), .int k => if decide (0 ≤ k ∧ k ≤ 1000 ∧ es.length ≤ 1000) = true then M.ret (.list (List.replicate k.toNat es).flatten) else M.no
  | _, _ => M.no
def gMulT : D → D → M D
  | .tuple es, .int k => if decide (es ≠ [] ∧ 1 ≤ k ∧ k ≤ 1000 ∧ es.length ≤ 1000) = true then M.ret (.tuple (List.replicate k.toNat es).flatten) else M.no
  | _, _ => M.no
def x2F (g : D × Bool → D → M D) (fa : Env' → M (D × Bool)) (fb : Env' → M D) : Env' → M D := fun ρ => M.bind (fa ρ) fun x => M.bind (fb ρ) fun y => g x y
section
variable {K : PySem.W.Frag} {mg : Str → Option Value}
theorem dpAll_flatten {H : Hp} {vs : List V} {ds : List D} (h : DpAll K H vs ds) : ∀ n : Nat, DpAll K H (List.replicate n vs).flatten (List.replicate n ds).flatten
  | 0 => .nil
  | n + 1 => by
    rw [List.replicate_succ, List.replicate_succ, List.flatten_cons, List.flatten_cons]
    exact dpAll_append h (dpAll_flatten h n)
theorem ops_mulT : OpS K mg (fun x y H Q => rRepT K x y H Q ∨ rRepT1 K x y H Q) gMulT := by
  intro Ec μ S H x y d e Q sz w ax ay h
  by_cases k : ∃ es i, d = .tuple es ∧ e = .int i
  · obtain ⟨es, i, rfl, rfl⟩ := k
    simp only [gMulT] at h
    split at h
    · rename_i q
      obtain ⟨q0, q1, q2, q3⟩ := of_decide_eq_true q
      obtain ⟨p, xs, rfl, k1, k2⟩ := at_tup ax
      rw [at_int ay]
      have hl := dpAll_length k2
      by_cases c : i = 1
      · subst c
        refine .inr ⟨p, xs, rfl, rfl, seqT_mono nh_same k1, h.here w _ ?_⟩
        have : (List.replicate (1 : Int).toNat es).flatten = es := by simp
        rw [this]
        exact ax
      · refine .inl ⟨p, i, xs, rfl, rfl, seqT_mono nh_same k1, fun z => q0 (List.eq_nil_of_length_eq_zero (by rw [← hl, z]; rfl)), by omega, q2, by omega, fun p hp => ?_⟩
        exact Post.new h w hp _ _ (at_new_tup w hp (dpAll_flatten k2 _))
    · exact h.elim
  · have e0 : gMulT d e = M.no := by
      unfold gMulT
      split
      · exact absurd ⟨_, _, rfl, rfl⟩ k
      · rfl
    rw [e0] at h
    exact h.elim
end
section
variable {X : Cx} {W : WX} {a b : Expr} {fb : Env' → M D} {pos : Pos}
theorem ej_mulT {fa : Env' → M D} (ha : EJ X W a fa) (hb : EJ X W b fb) : EJ X W (.BinOp a .Mult b pos) (x2 gMulT fa fb) := ej_bin (op_repT.or op_repT1) ops_mulT ha hb
theorem ej_repF {fa : Env' → M (D × Bool)} (ha : FJ X W a fa) (hb : EJ X W b fb) : EJ X W (.BinOp a .Mult b pos) (x2F gRepF fa fb) := by
  refine pe_imp (pe_op op_rep ha hb) fun σ H Q h => ?_
  obtain ⟨μ, S, ρ, he, hw, h⟩ := h
  refine ⟨μ, S, ρ, he, hw, h.bind.mono fun r μ1 S1 H1 s1 w1 h1 v a1 => ?_⟩
  refine ⟨μ1, S1, ρ, he.step s1, w1, h1.bind.mono fun e μ2 S2 H2 s2 w2 h2 u a2 => ?_⟩
  have a3 := a1.step s2
  obtain ⟨d, fr⟩ := r
  by_cases k : ∃ es i, d = .list es ∧ fr = true ∧ e = .int i
  · obtain ⟨es, i, rfl, rfl, rfl⟩ := k
    simp only [gRepF] at h2
    split at h2
    · rename_i q
      obtain ⟨q1, q2, q3⟩ := of_decide_eq_true q
      obtain ⟨p, es', vs, rfl, e1, e2, e3, e4, e5, e6⟩ := a3.2 rfl
      cases e1
      rw [at_int a2]
      have hl := dpAll_length e6
      have hz : vs.length * i.toNat ≤ sizeLine := by
        have : vs.length * i.toNat ≤ 1000 * 1000 := Nat.mul_le_mul (by omega) (by omega)
        rw [sizeLine_eq]
        omega
      refine ⟨p, i, vs, rfl, rfl, e2, by omega, by omega, hz, fun p' hp => ?_⟩
      refine Post.new h2 w2 hp _ _ (at_new_list w2 hp (dpAll_flatten (dpAll_mono (fun b u q => ?_) _ _ e6) _))
      obtain ⟨t1, t2, t3⟩ := nh_some.mp q
      exact nh_some.mpr ⟨t1, t2, fun z => t3 (List.mem_cons_of_mem _ z)⟩
    · exact h2.elim
  · have e0 : gRepF (d, fr) e = M.no := by
      unfold gRepF
      split
      · rename_i es i heq
        obtain ⟨rfl, rfl⟩ := Prod.mk.inj heq
        exact absurd ⟨es, i, rfl, rfl, rfl⟩ k
      · rfl
    rw [e0] at h2
    exact h2.elim
end
end DL
end L2

set_option Elab.async false
set_option linter.all false
set_option maxRecDepth 100000
/-! a == b == c -/
namespace L2
namespace DL
open PySem PySem.Spec PyProof.Rows
section
variable {X : Cx} {W : WX} {a b c : Expr} {fa fb fc : Env' → M D} {pos : Pos} {k : Nat}
theorem ej_eqeq (hr : Room k X.A) (ha : EJ X W a fa) (hb : EJ X W b fb) (hc : EJ X W c fc) (hm : lastMarks [.Eq, .Eq] [b, c] = false := by with_unfolding_all rfl) : EJ X W (.Compare a [.Eq, .Eq] [b, c] pos) (x3 gEq gEq fa fb fc) := ej_chain (op_eqD hr.units) (op_eqD hr.units) ops_eq ops_eq ha hb hc hm
theorem bj_eqeq (hr : Room k X.A) (ha : EJ X W a fa) (hb : EJ X W b fb) (hc : EJ X W c fc) (hm : lastMarks [.Eq, .Eq] [b, c] = false := by with_unfolding_all rfl) : BJ X W (.Compare a [.Eq, .Eq] [b, c] pos) (bV (x3 gEq gEq fa fb fc)) := bj_chain (op_eqD hr.units) (op_eqD hr.units) ops_eq ops_eq ha hb hc hm
end
end DL
end L2

set_option Elab.async false
set_option linter.all false
/-! how meanings are computed -/
namespace L2
namespace DL
open PySem PySem.Spec PyProof.Rows
/-- it comes to an end, with this -/
def Gd {α : Type} (m : M α) (S : Wd) (Q : α → Wd → Prop) : Prop := ∃ a S', m S = .ok a S' ∧ Q a S'
section
variable {α β : Type} {S : Wd}
theorem gd_ret {a : α} {Q : α → Wd → Prop} (h : Q a S) : Gd (M.ret a) S Q := ⟨a, S, rfl, h⟩
theorem gd_eq {m : M α} {a : α} {Q : α → Wd → Prop} (e : m = M.ret a) (h : Q a S) : Gd m S Q := by subst e; exact gd_ret h
theorem gd_bind {m : M α} {f : α → M β} {Q : β → Wd → Prop} (h : Gd m S fun a S' => Gd (f a) S' Q) : Gd (M.bind m f) S Q := by
  obtain ⟨a, S', e, b, S'', e2, q⟩ := h
  refine ⟨b, S'', ?_, q⟩
  unfold M.bind
  rw [e]
  exact e2
theorem gd_mono {m : M α} {Q Q' : α → Wd → Prop} (h : Gd m S Q) (k : ∀ a S', Q a S' → Q' a S') : Gd m S Q' := by
  obtain ⟨a, S', e, q⟩ := h
  exact ⟨a, S', e, k a S' q⟩
theorem gd_lft {m : M α} {τ : Ste} {k : α → M (Fl × Ste)} {Q : Fl × Ste → Wd → Prop} (h : Gd m S fun a S' => Gd (k a) S' Q) : Gd (lft m τ k) S Q := by
  obtain ⟨a, S', e, b, S'', e2, q⟩ := h
  refine ⟨b, S'', ?_, q⟩
  unfold lft
  rw [e]
  exact e2
theorem gd_quiet {m : M α} {Q : α → Wd → Prop} (h : Gd m S Q) : Gd (M.quiet m) S Q := by
  obtain ⟨a, S', e, q⟩ := h
  refine ⟨a, S', ?_, q⟩
  unfold M.quiet
  rw [e]
/-- nothing but a value comes of it -/
theorem eq_of_gd {m : M α} {a : α} (h : ∀ S, Gd m S fun b S' => b = a ∧ S' = S) : m = M.ret a := by
  funext S
  obtain ⟨b, S', e, rfl, rfl⟩ := h S
  exact e
theorem lft_ret {a : α} {τ : Ste} {k : α → M (Fl × Ste)} : lft (M.ret a) τ k = k a := rfl
theorem quiet_ret {a : α} : M.quiet (M.ret a) = M.ret a := rfl
theorem ofO_some {a : α} : ofO (some a) = M.ret a := rfl
end
/-! names -/
theorem xVar_get {ρ : Env'} {i : Nat} {d : D} (h : ρ[i]? = some (some d)) : xVar i ρ = M.ret d := by
  unfold xVar
  rw [h]
/-! defs -/
def FnQ (Q : D × Bool → Wd → Prop) : Fl × Ste → Wd → Prop := fun p S' => match p.1 with
  | .nx => Q (.none, false) S'
  | .ret d fr => Q (d, fr) S'
  | _ => False
theorem gd_fn {n : Nat} {fb : Ste → M (Fl × Ste)} {ds : List D} {S : Wd} {Q : D × Bool → Wd → Prop} (h : Gd (fb (ds.map some ++ List.replicate (n - ds.length) none, [])) S (FnQ Q)) : Gd (fnM n fb ds) S Q := by
  obtain ⟨⟨fl, τ⟩, S', e, q⟩ := h
  unfold FnQ at q
  cases fl with
  | nx => exact ⟨_, S', by unfold fnM; rw [e], q⟩
  | ret d fr => exact ⟨_, S', by unfold fnM; rw [e], q⟩
  | brk => exact q.elim
  | cnt => exact q.elim
  | exc _ => exact q.elim
theorem fn_ret {n : Nat} {fb : Ste → M (Fl × Ste)} {ds : List D} {d : D} {fr : Bool} {τ : Ste} (h : fb (ds.map some ++ List.replicate (n - ds.length) none, []) = M.ret (.ret d fr, τ)) : fnM n fb ds = M.ret (d, fr) :=
  eq_of_gd fun S => gd_fn (gd_eq h ⟨rfl, rfl⟩)
theorem gd_call {F : List D → M (D × Bool)} {n : Nat} {fa : Env' → M (List D)} {ρ : Env'} {S : Wd} {Q : D × Bool → Wd → Prop} (h : Gd (fa ρ) S fun ds S' => ds.length = n ∧ Gd (F ds) S' Q) : Gd (fFn F n fa ρ) S Q :=
  gd_bind (gd_mono h fun ds S' ⟨e, q⟩ => by rw [if_pos (decide_eq_true e)]; exact q)
/-! statements -/
def SqQ (g : Ste → M (Fl × Ste)) (Q : Fl × Ste → Wd → Prop) : Fl × Ste → Wd → Prop := fun p S' => match p.1 with
  | .nx => Gd (g p.2) S' Q
  | fl => Q (fl, p.2) S'
theorem gd_seq {f g : Ste → M (Fl × Ste)} {τ : Ste} {S : Wd} {Q : Fl × Ste → Wd → Prop} (h : Gd (f τ) S (SqQ g Q)) : Gd (sSeq f g τ) S Q := by
  refine gd_bind (gd_mono h fun p S' q => ?_)
  obtain ⟨fl, τ'⟩ := p
  unfold SqQ at q
  cases fl with
  | nx => exact q
  | ret d fr => exact gd_ret q
  | brk => exact gd_ret q
  | cnt => exact gd_ret q
  | exc _ => exact gd_ret q
theorem gd_pass {τ : Ste} {S : Wd} {Q : Fl × Ste → Wd → Prop} (h : Q (.nx, τ) S) : Gd (sPass τ) S Q := gd_ret h
theorem gd_sret {f : Env' → M (D × Bool)} {τ : Ste} {S : Wd} {Q : Fl × Ste → Wd → Prop} (h : Gd (f τ.1) S fun r S' => Q (.ret r.1 r.2, τ) S') : Gd (sRet f τ) S Q := gd_lft (gd_mono h fun r S' q => gd_ret q)
theorem gd_set {i : Nat} {f : Env' → M (D × Bool)} {τ : Ste} {S : Wd} {Q : Fl × Ste → Wd → Prop} (hi : i < τ.1.length) (h : Gd (f τ.1) S fun r S' => Q (.nx, asg i r τ) S') : Gd (sSet i f τ) S Q :=
  gd_lft (gd_mono h fun r S' q => by rw [if_pos (decide_eq_true hi)]; exact gd_ret q)
theorem gd_if {c : Env' → M Bool} {f g : Ste → M (Fl × Ste)} {τ : Ste} {S : Wd} {Q : Fl × Ste → Wd → Prop} (h : Gd (c τ.1) S fun b S' => (b = true → Gd (f τ) S' Q) ∧ (b = false → Gd (g τ) S' Q)) : Gd (sIf c f g τ) S Q :=
  gd_lft (gd_mono h fun b S' q => by
    cases b with
    | true => exact q.1 rfl
    | false => exact q.2 rfl)
theorem gd_retV {i : Nat} {τ : Ste} {S : Wd} {Q : Fl × Ste → Wd → Prop} {d : D} (e : τ.1[i]? = some (some d)) (h : ∀ fr, Q (.ret d fr, τ) S) : Gd (sRetV i τ) S Q := by
  unfold sRetV
  rw [e]
  exact gd_ret (h _)
def LpQ (I : Ste → Wd → Prop) (Q : Fl × Ste → Wd → Prop) : Fl × Ste → Wd → Prop := fun p S' => match p.1 with
  | .nx => I p.2 S'
  | .cnt => I p.2 S'
  | .brk => Q (.nx, p.2) S'
  | .ret d fr => Q (.ret d fr, p.2) S'
  | .exc e => Q (.exc e, p.2) S'
theorem gd_loop {α : Type} {k : α → D} {gt : D → Env' → Option Env'} {is : List Nat} {body : Ste → M (Fl × Ste)} {Q : Fl × Ste → Wd → Prop} (as : List α) {τ : Ste} {S : Wd} (I : List α → Ste → Wd → Prop)
    (h0 : I [] τ S) (step : ∀ (pre : List α) (a : α) (post : List α) (τ : Ste) (S : Wd), as = pre ++ a :: post → I pre τ S → ∃ τ1, asgT gt is (k a) τ = some τ1 ∧ Gd (body τ1) S (LpQ (fun τ2 S2 => I (pre ++ [a]) τ2 S2) Q))
    (fin : ∀ τ S, I as τ S → Q (.nx, τ) S) : Gd (sLoop gt is body (as.map k) τ) S Q := by
  have go : ∀ (post pre : List α) (τ : Ste) (S : Wd), as = pre ++ post → I pre τ S → Gd (sLoop gt is body (post.map k) τ) S Q := by
    intro post
    induction post with
    | nil =>
      intro pre τ S e h
      rw [List.append_nil] at e
      subst e
      exact gd_ret (fin τ S h)
    | cons a post ih =>
      intro pre τ S e h
      obtain ⟨τ1, e1, g⟩ := step pre a post τ S e h
      show Gd (match asgT gt is (k a) τ with
        | none => M.no
        | some τ1 => M.bind (body τ1) fun p => match p.1 with
          | .nx => sLoop gt is body (post.map k) p.2
          | .cnt => sLoop gt is body (post.map k) p.2
          | .brk => M.ret (.nx, p.2)
          | .ret d fr => M.ret (.ret d fr, p.2)
          | .exc e => M.ret (.exc e, p.2)) S Q
      rw [e1]
      refine gd_bind (gd_mono g fun p S' q => ?_)
      obtain ⟨fl, τ'⟩ := p
      unfold LpQ at q
      have e' : as = (pre ++ [a]) ++ post := by rw [e]; simp
      cases fl with
      | nx => exact ih _ _ _ e' q
      | cnt => exact ih _ _ _ e' q
      | brk => exact gd_ret q
      | ret d fr => exact gd_ret q
      | exc _ => exact gd_ret q
  exact go as [] τ S rfl h0
theorem gd_forR {f : Env' → M (List D)} {gt : D → Env' → Option Env'} {is : List Nat} {body : Ste → M (Fl × Ste)} {τ : Ste} {S : Wd} {Q : Fl × Ste → Wd → Prop} (h : Gd (f τ.1) S fun ds S' => Gd (sLoop gt is body ds τ) S' Q) : Gd (sForR f gt is body τ) S Q := gd_lft h
theorem gd_for {f : Env' → M (D × Bool)} {gt : D → Env' → Option Env'} {is : List Nat} {body : Ste → M (Fl × Ste)} {τ : Ste} {S : Wd} {Q : Fl × Ste → Wd → Prop}
    (h : Gd (f τ.1) S fun r S' => ∃ ds, itD r.1 = some ds ∧ Gd (sLoop gt is body ds (τ.1, if ((r.2 && flatL r.1) || stb r.1) = true then τ.2 else [])) S' Q) : Gd (sFor f gt is body τ) S Q :=
  gd_lft (gd_mono h fun r S' ⟨ds, e, q⟩ => by simp only [e]; exact q)
theorem gd_app {i : Nat} {f : Env' → M D} {τ : Ste} {S : Wd} {Q : Fl × Ste → Wd → Prop} {es : List D} (hi : i ∈ τ.2) (e : τ.1[i]? = some (some (.list es))) (hz : szOk (es.length + 1) = true)
    (h : Gd (f τ.1) S fun d S' => flat d = true ∧ Q (.nx, (τ.1.set i (some (.list (es ++ [d]))), τ.2)) S') : Gd (sApp i f τ) S Q := by
  unfold sApp
  rw [if_pos (List.contains_iff_mem.mpr hi), e]
  exact gd_lft (gd_mono h fun d S' q => by rw [q.1, hz]; exact gd_ret q.2)
/-! comprehensions -/
theorem lcM_pure {α : Type} {k : α → D} {p : α → Bool} {g : α → D} {item : D → M (Option D)} : ∀ {as : List α}, (∀ a, a ∈ as → item (k a) = M.ret (if p a = true then some (g a) else none)) → lcM item (as.map k) = M.ret ((as.filter p).map g)
  | [], _ => rfl
  | a :: as, h => by
    show M.bind (M.quiet (item (k a))) (fun o => M.bind (lcM item (as.map k)) fun es => M.ret (match o with
      | some e => e :: es
      | none => es)) = _
    rw [h a List.mem_cons_self, quiet_ret, M.ret_bind, lcM_pure fun b hb => h b (List.mem_cons_of_mem _ hb), M.ret_bind, List.filter_cons]
    cases p a <;> rfl
theorem xLc_pure {α : Type} (k : α → D) (p : α → Bool) (g : α → D) {as : List α} {fi : Env' → M (List D)} {gt : D → Env' → Option Env'} {vs : List Nat} {ft : Env' → M Bool} {fe : Env' → M D} {ρ : Env'} (hi : fi ρ = M.ret (as.map k))
    (h : ∀ a, a ∈ as → lcItem gt ft fe (wipeE ρ vs) (k a) = M.ret (if p a = true then some (g a) else none)) : xLc fi gt vs ft fe ρ = M.ret (.list ((as.filter p).map g)) := by
  unfold xLc
  rw [hi, M.ret_bind, lcM_pure h, M.ret_bind]
theorem xLc_map {α : Type} (k : α → D) (g : α → D) {as : List α} {fi : Env' → M (List D)} {gt : D → Env' → Option Env'} {vs : List Nat} {ft : Env' → M Bool} {fe : Env' → M D} {ρ : Env'} (hi : fi ρ = M.ret (as.map k))
    (h : ∀ a, a ∈ as → lcItem gt ft fe (wipeE ρ vs) (k a) = M.ret (some (g a))) : xLc fi gt vs ft fe ρ = M.ret (.list (as.map g)) := by
  have := xLc_pure k (fun _ => true) g hi (fun a ha => by rw [h a ha]; rfl)
  rw [this, List.filter_eq_self.mpr fun _ _ => rfl]
/-- items by draws -/
theorem gd_lc {α : Type} (k : α → D) (R : α → Option D → Prop) (J : Wd → Prop) {item : D → M (Option D)} : ∀ (as : List α) {S : Wd}, J S → (∀ a S, a ∈ as → J S → Gd (item (k a)) S fun o S' => R a o ∧ J S') →
    Gd (lcM item (as.map k)) S fun es S' => J S' ∧ ∃ os : List (Option D), Paired R as os ∧ es = os.filterMap id
  | [], S, j, h => gd_ret ⟨j, [], .nil, rfl⟩
  | a :: as, S, j, h => by
    refine gd_bind (gd_quiet (gd_mono (h a S List.mem_cons_self j) fun o S1 ⟨r, j1⟩ => gd_bind (gd_mono (gd_lc k R J as j1 fun b S hb j => h b S (List.mem_cons_of_mem _ hb) j) fun es S2 ⟨j2, os, pr, e⟩ => gd_ret ⟨j2, o :: os, .cons r pr, ?_⟩)))
    subst e
    cases o <;> rfl
theorem gd_xLc {α : Type} (k : α → D) (R : α → Option D → Prop) (J : Wd → Prop) {as : List α} {fi : Env' → M (List D)} {gt : D → Env' → Option Env'} {vs : List Nat} {ft : Env' → M Bool} {fe : Env' → M D} {ρ : Env'} {S : Wd} {Q : D → Wd → Prop}
    (hi : Gd (fi ρ) S fun ds S' => ds = as.map k ∧ J S') (h : ∀ a S, a ∈ as → J S → Gd (lcItem gt ft fe (wipeE ρ vs) (k a)) S fun o S' => R a o ∧ J S')
    (q : ∀ (os : List (Option D)) S', J S' → Paired R as os → Q (.list (os.filterMap id)) S') : Gd (xLc fi gt vs ft fe ρ) S Q := by
  unfold xLc
  refine gd_bind (gd_mono hi fun ds S1 ⟨e, j⟩ => ?_)
  subst e
  exact gd_bind (gd_mono (gd_lc k R J as j h) fun es S2 ⟨j2, os, pr, e⟩ => by subst e; exact gd_ret (q os S2 j2 pr))
end DL
end L2

set_option Elab.async false
set_option linter.all false
/-! the masks that hold no other one -/
namespace L2
namespace DL
/-- no other one of xs lies in x -/
def lone {α : Type} [DecidableEq α] (sb : α → α → Bool) (xs : List α) (x : α) : Bool := xs.all fun y => !sb y x || decide (y = x)
theorem lone_iff {α : Type} [DecidableEq α] {sb : α → α → Bool} {xs : List α} {x : α} : lone sb xs x = true ↔ ∀ y, y ∈ xs → sb y x = true → y = x := by
  unfold lone
  rw [List.all_eq_true]
  constructor
  · intro h y hy hs
    have := h y hy
    rw [hs] at this
    simpa using this
  · intro h y hy
    cases hs : sb y x with
    | false => rfl
    | true => simp [h y hy hs]
theorem lone_not {α : Type} [DecidableEq α] {sb : α → α → Bool} {xs : List α} {x : α} (h : lone sb xs x = false) : ∃ y, y ∈ xs ∧ sb y x = true ∧ y ≠ x := by
  rcases Classical.em (∃ y, y ∈ xs ∧ sb y x = true ∧ y ≠ x) with c | c
  · exact c
  · have : lone sb xs x = true := lone_iff.mpr fun y hy hs => by
      rcases Classical.em (y = x) with e | e
      · exact e
      · exact absurd ⟨y, hy, hs, e⟩ c
    rw [h] at this; cases this
structure Wt {α : Type} (sb : α → α → Bool) (wt : α → Nat) (xs : List α) : Prop where
  lt : ∀ a b, a ∈ xs → b ∈ xs → sb a b = true → a ≠ b → wt a < wt b
  tr : ∀ a b c, sb a b = true → sb b c = true → sb a c = true
/-- one step of picking the lone ones by their weight -/
theorem pick_step {α : Type} [DecidableEq α] {sb : α → α → Bool} {wt : α → Nat} {xs pre post : List α} {a : α} (W : Wt sb wt xs) (nd : xs.Nodup) (so : xs.Pairwise fun a b => wt a ≤ wt b) (e : xs = pre ++ a :: post) :
    ((pre.filter (lone sb xs)).any fun o => sb o a) = !lone sb xs a := by
  have ha : a ∈ xs := by rw [e]; simp
  have hpre : ∀ z, z ∈ pre → z ∈ xs := fun z hz => by rw [e]; simp [hz]
  have nd' := nd
  rw [e] at nd'
  have npre : ∀ z, z ∈ pre → z ≠ a := fun z hz q => by
    subst q
    have := (List.nodup_append.mp nd').2.2 z hz z List.mem_cons_self
    exact this rfl
  cases hl : lone sb xs a with
  | true =>
    rw [Bool.not_true, List.any_eq_false]
    intro o ho hs
    exact npre o (List.mem_filter.mp ho).1 (lone_iff.mp hl o (hpre o (List.mem_filter.mp ho).1) hs)
  | false =>
    rw [Bool.not_false, List.any_eq_true]
    obtain ⟨y0, hy0, hs0, hne0⟩ := lone_not hl
    have go : ∀ (n : Nat) (y : α), wt y ≤ n → y ∈ xs → sb y a = true → y ≠ a → ∃ z, z ∈ xs ∧ sb z a = true ∧ z ≠ a ∧ lone sb xs z = true := by
      intro n
      induction n with
      | zero =>
        intro y hw hy hs hne
        cases hq : lone sb xs y with
        | true => exact ⟨y, hy, hs, hne, hq⟩
        | false =>
          obtain ⟨y', hy', hs', hne'⟩ := lone_not hq
          have := W.lt y' y hy' hy hs' hne'
          omega
      | succ n ih =>
        intro y hw hy hs hne
        cases hq : lone sb xs y with
        | true => exact ⟨y, hy, hs, hne, hq⟩
        | false =>
          obtain ⟨y', hy', hs', hne'⟩ := lone_not hq
          have l1 := W.lt y' y hy' hy hs' hne'
          refine ih y' (by omega) hy' (W.tr _ _ _ hs' hs) fun q => ?_
          subst q
          have l2 := W.lt y y' hy hy' hs hne
          omega
    obtain ⟨z, hz, hsz, hnz, hlz⟩ := go (wt y0) y0 (Nat.le_refl _) hy0 hs0 hne0
    have lw := W.lt z a hz ha hsz hnz
    refine ⟨z, List.mem_filter.mpr ⟨?_, hlz⟩, hsz⟩
    rw [e] at hz
    rcases List.mem_append.mp hz with q | q
    · exact q
    · exfalso
      rcases List.mem_cons.mp q with q | q
      · exact hnz q
      · rw [e] at so
        have := (List.pairwise_append.mp so).2.1
        have := (List.pairwise_cons.mp this).1 z q
        omega
/-! ### masks -/
/-- all of a are in b -/
def sub (a b : List Int) : Bool := a.all fun x => b.contains x
theorem sub_iff {a b : List Int} : sub a b = true ↔ ∀ x, x ∈ a → x ∈ b := by
  unfold sub
  rw [List.all_eq_true]
  exact ⟨fun h x hx => by simpa using h x hx, fun h x hx => by simpa using h x hx⟩
theorem sub_refl (a : List Int) : sub a a = true := sub_iff.mpr fun _ h => h
theorem sub_tr (a b c : List Int) (h1 : sub a b = true) (h2 : sub b c = true) : sub a c = true := sub_iff.mpr fun x hx => sub_iff.mp h2 x (sub_iff.mp h1 x hx)
/-- ascending, with something in it -/
def Asc (m : List Int) : Prop := m.Pairwise (· < ·)
theorem Asc.nodup {m : List Int} (h : Asc m) : m.Nodup := h.imp fun {a b} q e => by omega
theorem asc_ext {a b : List Int} (ha : Asc a) (hb : Asc b) (h : ∀ x, x ∈ a ↔ x ∈ b) : a = b :=
  List.Perm.eq_of_pairwise (le := fun x y => x < y) (fun x y _ _ h1 h2 => by omega) ha hb ((List.perm_ext_iff_of_nodup ha.nodup hb.nodup).mpr h)
theorem sub_lt {a b : List Int} (ha : Asc a) (hb : Asc b) (h : sub a b = true) (ne : a ≠ b) : a.length < b.length := by
  have hs := sub_iff.mp h
  have le := nodup_len a b ha.nodup hs
  rcases Nat.lt_or_ge a.length b.length with q | q
  · exact q
  · exfalso
    refine ne (asc_ext ha hb fun x => ⟨hs x, fun hx => ?_⟩)
    rcases Classical.em (x ∈ a) with c | c
    · exact c
    · have := nodup_len (x :: a) b (List.nodup_cons.mpr ⟨c, ha.nodup⟩) fun y hy => by
        rcases List.mem_cons.mp hy with rfl | hy
        · exact hx
        · exact hs y hy
      rw [List.length_cons] at this
      omega
/-- the masks of ms that hold no other one, in order -/
def mins (ms : List (List Int)) : List (List Int) := srtU HT.lexLt (ms.filter (lone sub ms))
theorem mins_mem {ms : List (List Int)} {m : List Int} : m ∈ mins ms ↔ m ∈ ms ∧ ∀ y, y ∈ ms → sub y m = true → y = m := by
  unfold mins
  rw [srtU_mem tot_lex, List.mem_filter, lone_iff]
theorem lone_congr {α : Type} [DecidableEq α] {sb : α → α → Bool} {xs ys : List α} (h : ∀ z, z ∈ xs ↔ z ∈ ys) (x : α) : lone sb xs x = lone sb ys x := by
  rw [Bool.eq_iff_iff, lone_iff, lone_iff]
  exact ⟨fun q y hy => q y ((h y).mpr hy), fun q y hy => q y ((h y).mp hy)⟩
/-- the lone ones of a list of the same masks, put in order -/
theorem srt_lone {xs ms : List (List Int)} (nd : xs.Nodup) (h : ∀ z, z ∈ xs ↔ z ∈ ms) : srtG HT.lexLt (xs.filter (lone sub xs)) = mins ms := by
  unfold mins
  refine srtU_uniq tot_lex ((srtG_perm _).nodup_iff.mpr (nd.filter _)) (fun z => ?_) (srtG_sorted tot_lex _)
  rw [(srtG_perm _).mem_iff, List.mem_filter, List.mem_filter, h z, lone_congr h z]
theorem mins_idem (ms : List (List Int)) : mins (mins ms) = mins ms := by
  have e : (mins ms).filter (lone sub (mins ms)) = mins ms := List.filter_eq_self.mpr fun x hx => lone_iff.mpr fun y hy hs => (mins_mem.mp hx).2 y (mins_mem.mp hy).1 hs
  show srtU HT.lexLt ((mins ms).filter (lone sub (mins ms))) = mins ms
  rw [e]
  exact (srtU_uniq tot_lex (strict_nodup tot_lex (srtU_sorted tot_lex _)) (fun z => Iff.rfl) ((srtU_sorted tot_lex _).imp fun {a b} q => tot_lex.asym q)).symm
/-- by length, then by order -/
theorem bylen_sorted {ks : List (List Int)} : (srtG HT.lexLt (ks.map fun m => ((m.length : Int) :: m))).Pairwise fun a b => (a.headD 0) ≤ (b.headD 0) := by
  refine (srtG_sorted tot_lex _).imp_of_mem fun {a b} ha hb h => ?_
  obtain ⟨m, _, rfl⟩ := List.mem_map.mp ((srtG_perm _).mem_iff.mp ha)
  obtain ⟨m', _, rfl⟩ := List.mem_map.mp ((srtG_perm _).mem_iff.mp hb)
  rw [HT.lexLt_cons] at h
  show (m.length : Int) ≤ (m'.length : Int)
  split at h
  · rename_i e; omega
  · have := of_decide_eq_false h
    omega
end DL
end L2

set_option Elab.async false
set_option linter.all false
/-! masks as numbers -/
namespace L2
namespace DL
open PySem
def encN (ks : List Nat) : Nat := (ks.map (2 ^ ·)).sum
theorem enc_desc : ∀ (ks : List Nat) (b : Nat), ks.Pairwise (· > ·) → (∀ k, k ∈ ks → k < b) → encN ks < 2 ^ b ∧ ∀ j, (encN ks).testBit j = decide (j ∈ ks)
  | [], b, _, _ => ⟨Nat.two_pow_pos b, fun j => by simp [encN]⟩
  | k :: ks, b, h, hb => by
    obtain ⟨h1, h2⟩ := List.pairwise_cons.mp h
    obtain ⟨i1, i2⟩ := enc_desc ks k h2 fun x hx => h1 x hx
    have e : encN (k :: ks) = 2 ^ k + encN ks := by simp [encN]
    have hk : k < b := hb k List.mem_cons_self
    have p1 : 2 ^ (k + 1) ≤ 2 ^ b := Nat.pow_le_pow_right (by decide) hk
    have p2 : 2 ^ (k + 1) = 2 ^ k + 2 ^ k := by rw [Nat.pow_succ]; omega
    refine ⟨by rw [e]; omega, fun j => ?_⟩
    rw [e]
    rcases Nat.lt_trichotomy j k with q | q | q
    · rw [Nat.testBit_two_pow_add_gt q, i2 j]
      simp [List.mem_cons, Nat.ne_of_lt q]
    · subst q
      rw [Nat.testBit_two_pow_add_eq, i2 j]
      have : j ∉ ks := fun m => Nat.lt_irrefl _ (h1 j m)
      simp [this]
    · have lt : 2 ^ k + encN ks < 2 ^ j := by
        have p3 : 2 ^ (k + 1) ≤ 2 ^ j := Nat.pow_le_pow_right (by decide) q
        omega
      rw [Nat.testBit_lt_two_pow lt]
      have : j ∉ k :: ks := fun m => by
        rcases List.mem_cons.mp m with z | z
        · omega
        · have := h1 j z; omega
      simp [this]
/-- a mask near low -/
structure In10 (low : Int) (m : List Int) : Prop where
  asc : Asc m
  lo : ∀ o, o ∈ m → low ≤ o
  hi : ∀ o, o ∈ m → o ≤ low + 9
def enc (low : Int) (m : List Int) : Nat := (m.map fun o => 2 ^ (o - low).toNat).sum
theorem enc_eq (low : Int) (m : List Int) : enc low m = encN ((m.map fun o => (o - low).toNat).reverse) := by
  unfold enc encN
  rw [List.map_reverse, List.sum_reverse, List.map_map]
  rfl
theorem enc_bits {low : Int} {m : List Int} (h : In10 low m) : enc low m < 2 ^ 10 ∧ ∀ j : Nat, (enc low m).testBit j = decide ((low + j) ∈ m) := by
  have hd : (m.map fun o => (o - low).toNat).reverse.Pairwise (· > ·) := by
    rw [List.pairwise_reverse, List.pairwise_map]
    exact h.asc.imp_of_mem fun {a b} ha hb q => by
      have := h.lo a ha
      have := h.lo b hb
      show (b - low).toNat > (a - low).toNat
      omega
  obtain ⟨a1, a2⟩ := enc_desc _ 10 hd fun k hk => by
    obtain ⟨o, ho, rfl⟩ := List.mem_map.mp (List.mem_reverse.mp hk)
    have := h.lo o ho
    have := h.hi o ho
    omega
  rw [enc_eq]
  refine ⟨a1, fun j => ?_⟩
  rw [a2 j]
  congr 1
  rw [List.mem_reverse, List.mem_map, eq_iff_iff]
  constructor
  · rintro ⟨o, ho, e⟩
    have := h.lo o ho
    have e' : low + (j : Int) = o := by omega
    rw [e']; exact ho
  · intro hm
    exact ⟨_, hm, by omega⟩
/-- a number's mask -/
def dec (low : Int) (n : Nat) : List Int := ((List.range 10).filter fun i => decide (n / 2 ^ i % 2 = 1)).map fun i : Nat => low + (i : Int)
theorem dec_asc (low : Int) (n : Nat) : Asc (dec low n) := by
  unfold dec Asc
  rw [List.pairwise_map]
  refine (List.Pairwise.filter _ List.pairwise_lt_range).imp fun {a b} h => by omega
theorem dec_enc {low : Int} {m : List Int} (h : In10 low m) : dec low (enc low m) = m := by
  refine asc_ext (dec_asc _ _) h.asc fun x => ?_
  unfold dec
  rw [List.mem_map]
  constructor
  · rintro ⟨i, hi, rfl⟩
    obtain ⟨_, h2⟩ := List.mem_filter.mp hi
    rw [← Nat.testBit_eq_decide_div_mod_eq, (enc_bits h).2 i] at h2
    exact of_decide_eq_true h2
  · intro hx
    have l1 := h.lo x hx
    have l2 := h.hi x hx
    refine ⟨(x - low).toNat, List.mem_filter.mpr ⟨List.mem_range.mpr (by omega), ?_⟩, by omega⟩
    rw [← Nat.testBit_eq_decide_div_mod_eq, (enc_bits h).2]
    have e : low + ((x - low).toNat : Int) = x := by omega
    rw [e]
    exact decide_eq_true hx
theorem enc_inj {low : Int} {a b : List Int} (ha : In10 low a) (hb : In10 low b) (e : enc low a = enc low b) : a = b := by
  rw [← dec_enc ha, ← dec_enc hb, e]
theorem enc_sub {low : Int} {a b : List Int} (ha : In10 low a) (hb : In10 low b) : decide (enc low a &&& enc low b = enc low a) = sub a b := by
  rw [Bool.eq_iff_iff, decide_eq_true_iff, sub_iff]
  constructor
  · intro e x hx
    have l1 := ha.lo x hx
    have q := congrArg (fun n => Nat.testBit n (x - low).toNat) e
    simp only [Nat.testBit_and, (enc_bits ha).2, (enc_bits hb).2] at q
    have e' : low + ((x - low).toNat : Int) = x := by omega
    rw [e'] at q
    simp [hx] at q
    exact q
  · intro hs
    apply Nat.eq_of_testBit_eq
    intro i
    rw [Nat.testBit_and, (enc_bits ha).2, (enc_bits hb).2]
    by_cases c : low + (i : Int) ∈ a
    · simp [c, hs _ c]
    · simp [c]
theorem bitAnd_nat (a b : Nat) : PySem.Builtin.bitAnd (a : Int) (b : Int) = ((a &&& b : Nat) : Int) := by
  unfold PySem.Builtin.bitAnd
  rw [decide_eq_true (Int.natCast_nonneg a), decide_eq_true (Int.natCast_nonneg b)]
  rfl
/-- how many bits are set -/
def cnt (n : Nat) : Nat := ((List.range 10).filter fun i => decide (n / 2 ^ i % 2 = 1)).length
theorem cnt_enc {low : Int} {m : List Int} (h : In10 low m) : cnt (enc low m) = m.length := by
  have := congrArg List.length (dec_enc h)
  unfold dec at this
  rw [List.length_map] at this
  exact this
def sbN (a b : Nat) : Bool := decide (a &&& b = a)
/-- the numbers of masks near low: picked, and turned back -/
theorem num_lone {low : Int} {ms : List (List Int)} {xs : List Nat} (hm : ∀ m, m ∈ ms → In10 low m) (nd : xs.Nodup) (h : ∀ n, n ∈ xs ↔ n ∈ ms.map (enc low)) :
    Wt sbN cnt xs ∧ srtG HT.lexLt ((xs.filter (lone sbN xs)).map (dec low)) = mins ms := by
  have back : ∀ n, n ∈ xs → ∃ m, m ∈ ms ∧ n = enc low m ∧ In10 low m ∧ dec low n = m := fun n hn => by
    obtain ⟨m, hm', e⟩ := List.mem_map.mp ((h n).mp hn)
    exact ⟨m, hm', e.symm, hm m hm', by rw [← e]; exact dec_enc (hm m hm')⟩
  have hs : ∀ a b, a ∈ xs → b ∈ xs → sbN a b = sub (dec low a) (dec low b) := fun a b ha hb => by
    obtain ⟨m, _, e1, i1, d1⟩ := back a ha
    obtain ⟨m', _, e2, i2, d2⟩ := back b hb
    rw [d1, d2, e1, e2]
    exact enc_sub i1 i2
  have inj : ∀ a b, a ∈ xs → b ∈ xs → dec low a = dec low b → a = b := fun a b ha hb e => by
    obtain ⟨m, _, e1, i1, d1⟩ := back a ha
    obtain ⟨m', _, e2, i2, d2⟩ := back b hb
    rw [e1, e2, ← d1, ← d2, e]
  refine ⟨⟨fun a b ha hb q ne => ?_, fun a b c h1 h2 => ?_⟩, ?_⟩
  · obtain ⟨m, _, e1, i1, d1⟩ := back a ha
    obtain ⟨m', _, e2, i2, d2⟩ := back b hb
    rw [hs a b ha hb, d1, d2] at q
    have := sub_lt i1.asc i2.asc q fun z => ne (inj a b ha hb (by rw [d1, d2, z]))
    rw [e1, e2, cnt_enc i1, cnt_enc i2]
    exact this
  · have e1 : a &&& b = a := of_decide_eq_true h1
    have e2 : b &&& c = b := of_decide_eq_true h2
    refine decide_eq_true ?_
    rw [← e1, Nat.and_assoc, e2]
  · have nd' : (xs.map (dec low)).Nodup := List.pairwise_map.mpr (nd.imp_of_mem fun {a b} ha hb ne e => ne (inj a b ha hb e))
    have em : ∀ z, z ∈ xs.map (dec low) ↔ z ∈ ms := fun z => by
      rw [List.mem_map]
      constructor
      · rintro ⟨n, hn, rfl⟩
        obtain ⟨m, hm', _, _, d⟩ := back n hn
        rw [d]; exact hm'
      · intro hz
        exact ⟨enc low z, (h _).mpr (List.mem_map.mpr ⟨z, hz, rfl⟩), dec_enc (hm z hz)⟩
    have ef : (xs.filter (lone sbN xs)).map (dec low) = (xs.map (dec low)).filter (lone sub (xs.map (dec low))) := by
      rw [List.filter_map]
      congr 1
      apply List.filter_congr
      intro n hn
      show lone sbN xs n = lone sub (xs.map (dec low)) (dec low n)
      rw [Bool.eq_iff_iff, lone_iff, lone_iff]
      constructor
      · intro q y hy hsy
        obtain ⟨k, hk, rfl⟩ := List.mem_map.mp hy
        rw [← hs k n hk hn] at hsy
        rw [q k hk hsy]
      · intro q y hy hsy
        rw [hs y n hy hn] at hsy
        exact inj y n hy hn (q _ (List.mem_map.mpr ⟨y, hy, rfl⟩) hsy)
    rw [ef]
    exact srt_lone nd' em
end DL
end L2

set_option Elab.async false
set_option linter.all false
set_option maxRecDepth 100000
/-! the shapes of the data -/
namespace L2
namespace DL
open PySem
def mkF (ms : List (List Int)) : D := .tuple (ms.map mkI)
/-- a text that is no longer than 1000, of plain signs -/
theorem shaped_of {d : D} (h : d.canLay0 = true) (k : d.depth ≤ 64) : SeqAt.shaped d = true := by
  unfold SeqAt.shaped
  rw [h, decide_eq_true k]
  rfl
theorem can_mkI (ns : List Int) : (mkI ns).canLay0 = true := by
  show PyData.canLay0 (.tuple (ns.map .int)) = true
  simp only [PyData.canLay0]
  exact canAll_ints ns
theorem depth_mkI (ns : List Int) : (mkI ns).depth ≤ 2 := by
  show PyData.depth (.tuple (ns.map .int)) ≤ 2
  simp only [PyData.depth]
  have := depthAll_ints ns
  omega
theorem canAll_mkI : ∀ ms : List (List Int), PyData.canLayAll0 (ms.map mkI) = true
  | [] => rfl
  | m :: ms => by
    simp only [List.map_cons, PyData.canLayAll0, canAll_mkI ms, can_mkI]
    rfl
theorem depthAll_mkI : ∀ ms : List (List Int), PyData.depthAll (ms.map mkI) ≤ 2
  | [] => by simp [PyData.depthAll]
  | m :: ms => by
    have h1 := depthAll_mkI ms
    have h2 := depth_mkI m
    simp only [List.map_cons, PyData.depthAll]
    omega
theorem sh_mkI (ns : List Int) : SeqAt.shaped (mkI ns) = true := shaped_of (can_mkI ns) (by have := depth_mkI ns; omega)
theorem sh_mkF (ms : List (List Int)) : SeqAt.shaped (mkF ms) = true := by
  refine shaped_of ?_ ?_
  · show PyData.canLay0 (.tuple (ms.map mkI)) = true
    simp only [PyData.canLay0]
    exact canAll_mkI ms
  · show PyData.depth (.tuple (ms.map mkI)) ≤ 64
    simp only [PyData.depth]
    have := depthAll_mkI ms
    omega
theorem sh_lF (ms : List (List Int)) : SeqAt.shaped (.list (ms.map mkI)) = true := by
  refine shaped_of ?_ ?_
  · simp only [PyData.canLay0]
    exact canAll_mkI ms
  · simp only [PyData.depth]
    have := depthAll_mkI ms
    omega
theorem sh_lI (ns : List Int) : SeqAt.shaped (.list (ns.map PyData.int)) = true := by
  refine shaped_of ?_ ?_
  · simp only [PyData.canLay0]
    exact canAll_ints ns
  · simp only [PyData.depth]
    have := depthAll_ints ns
    omega
theorem eqvAll_mkI : ∀ a b : List (List Int), PyData.eqvAll (a.map mkI) (b.map mkI) = decide (a = b)
  | [], [] => by simp [PyData.eqvAll]
  | [], _ :: _ => by simp [PyData.eqvAll]
  | _ :: _, [] => by simp [PyData.eqvAll]
  | m :: a, n :: b => by
    have h : PyData.eqv (mkI m) (mkI n) = decide (m = n) := eqv_ints m n
    simp only [List.map_cons, PyData.eqvAll, eqvAll_mkI a b, h]
    by_cases e : m = n <;> by_cases e2 : a = b <;> simp [e, e2]
theorem eqv_mkF (a b : List (List Int)) : PyData.eqv (mkF a) (mkF b) = decide (a = b) := by
  show PyData.eqv (.tuple (a.map mkI)) (.tuple (b.map mkI)) = _
  simp only [PyData.eqv]
  exact eqvAll_mkI a b
theorem eq_mkF (a b : List (List Int)) : gEq (mkF a) (mkF b) = M.ret (.bool (decide (a = b))) := by
  unfold gEq
  rw [sh_mkF, sh_mkF, eqv_mkF]
  rfl
theorem ne_mkF (a b : List (List Int)) : gNe (mkF a) (mkF b) = M.ret (.bool (!decide (a = b))) := by
  unfold gNe
  rw [sh_mkF, sh_mkF, eqv_mkF]
  rfl
theorem flatAll_ints : ∀ ns : List Int, flatAll (ns.map PyData.int) = true
  | [] => rfl
  | n :: ns => by simp only [List.map_cons, flatAll, flat, flatAll_ints ns]; rfl
theorem flat_mkI (ns : List Int) : flat (mkI ns) = true := by
  show flat (.tuple (ns.map .int)) = true
  simp only [flat]
  exact flatAll_ints ns
theorem flatAll_mkI : ∀ ms : List (List Int), flatAll (ms.map mkI) = true
  | [] => rfl
  | m :: ms => by simp only [List.map_cons, flatAll, flat_mkI, flatAll_mkI ms]; rfl
theorem flat_mkF (ms : List (List Int)) : flat (mkF ms) = true := by
  show flat (.tuple (ms.map mkI)) = true
  simp only [flat]
  exact flatAll_mkI ms
theorem allOf_cons {α : Type} {f : D → Option α} {d : D} {ds : List D} {a : α} {l : List α} (h1 : f d = some a) (h2 : allOf f ds = some l) : allOf f (d :: ds) = some (a :: l) := by
  unfold allOf
  rw [h1, h2]
theorem allOf_kI : ∀ {ms : List (List Int)}, (∀ m, m ∈ ms → m ≠ []) → allOf kI (ms.map mkI) = some ms
  | [], _ => rfl
  | m :: ms, h => allOf_cons (kI_back (h m List.mem_cons_self)) (allOf_kI fun x hx => h x (List.mem_cons_of_mem _ hx))
theorem intsD_mkI {m : List Int} {ms : List (List Int)} : intsD ((m :: ms).map mkI) = none := rfl
theorem mul_ok {i j : Int} (h : 0 ≤ i ∧ i < 18446744073709551616) : gMul (PyData.int i) (PyData.int j) = M.ret (PyData.int (i * j)) := by
  show (if mulOk i j = true then M.ret (PyData.int (i * j)) else M.no) = _
  rw [if_pos]
  unfold mulOk
  rw [decide_eq_true (show -(18446744073709551616 : Int) < i by omega), decide_eq_true h.2]
  rfl
theorem sorted_mkI {ms : List (List Int)} (h : ∀ m, m ∈ ms → m ≠ []) : oSorted [.list (ms.map mkI)] = some (.list ((srtG HT.lexLt ms).map mkI)) := by
  cases ms with
  | nil => rfl
  | cons m ms =>
    unfold oSorted
    simp only [intsD_mkI, allOf_kI h]
theorem sset_mkI {ms : List (List Int)} (h : ∀ m, m ∈ ms → m ≠ []) (hz : ms.length < 64) : oSortedSet (.list (ms.map mkI)) = some (.list ((srtU HT.lexLt ms).map mkI)) := by
  cases ms with
  | nil => rfl
  | cons m ms =>
    unfold oSortedSet
    simp only [intsD_mkI, allOf_kI h]
    exact if_pos (decide_eq_true hz)
end DL
end L2

set_option Elab.async false
set_option linter.all false
set_option maxRecDepth 100000
/-! small steps -/
namespace L2
namespace DL
open PySem
theorem tInt_int (i : Int) : tInt (.int i) = some true := rfl
theorem tBool_int (i : Int) : tBool (.int i) = some false := rfl
theorem tTuple_mkI (m : List Int) : tTuple (mkI m) = some true := rfl
theorem tTuple_mkF (m : List (List Int)) : tTuple (mkF m) = some true := rfl
theorem gIsi_ev {t : D → Option Bool} {d : D} : gIsi t d = match t d with
  | some b => M.ret (.bool b)
  | none => M.no := rfl
theorem szOk_0 : szOk 0 = true := rfl
theorem szOk_1 : szOk 1 = true := rfl
theorem szOk_2 : szOk 2 = true := rfl
theorem toB_bool (b : Bool) : toB (.bool b) = M.ret b := rfl
theorem nd_int (i : Int) : nd (.int i) = true := rfl
theorem nd_bool (i : Bool) : nd (.bool i) = true := rfl
theorem nd_str (i : Str) : nd (.str i) = true := rfl
theorem nd_mkI (i : List Int) : nd (mkI i) = true := rfl
theorem nd_mkF (i : List (List Int)) : nd (mkF i) = true := rfl
theorem nd_tuple (ds : List D) : nd (.tuple ds) = true := rfl
theorem nd_list (ds : List D) : nd (.list ds) = true := rfl
theorem itD_mkI (m : List Int) : itD (mkI m) = some (m.map .int) := rfl
theorem itD_mkF (m : List (List Int)) : itD (mkF m) = some (m.map mkI) := rfl
theorem itD_list (m : List D) : itD (.list m) = some m := rfl
theorem itD_tuple (m : List D) : itD (.tuple m) = some m := rfl
theorem add_int (i j : Int) : gAdd (.int i) (.int j) = M.ret (.int (i + j)) := rfl
theorem sub_int (i j : Int) : gSub (.int i) (.int j) = M.ret (.int (i - j)) := rfl
theorem lt_int (i j : Int) : gLt (.int i) (.int j) = M.ret (.bool (decide (i < j))) := rfl
theorem le_int (i j : Int) : gLe (.int i) (.int j) = M.ret (.bool (decide (i ≤ j))) := rfl
theorem gt_int (i j : Int) : gGt (.int i) (.int j) = M.ret (.bool (decide (j < i))) := rfl
theorem ge_int (i j : Int) : gGe (.int i) (.int j) = M.ret (.bool (decide (j ≤ i))) := rfl
theorem neg_int (i : Int) : gNeg (.int i) = M.ret (.int (-i)) := rfl
section
variable {α : Type}
theorem allOf_fn {β : Type} {f : D → Option β} {g : α → D} {h : α → β} (e : ∀ a, f (g a) = some (h a)) : ∀ l : List α, allOf f (l.map g) = some (l.map h)
  | [] => rfl
  | a :: l => allOf_cons (e a) (allOf_fn e l)
theorem all_map (f : α → Bool) (l : List α) : oAll [.list (l.map fun x => PyData.bool (f x))] = some (.bool (l.all f)) := by
  show (boolsD (l.map fun x => PyData.bool (f x))).map _ = _
  unfold boolsD
  rw [allOf_fn (h := f) (fun _ => rfl)]
  simp
theorem any_map (f : α → Bool) (l : List α) : oAny [.list (l.map fun x => PyData.bool (f x))] = some (.bool (l.any f)) := by
  show (boolsD (l.map fun x => PyData.bool (f x))).map _ = _
  unfold boolsD
  rw [allOf_fn (h := f) (fun _ => rfl)]
  simp
theorem sum_map (f : α → Int) (l : List α) : oSum [.list (l.map fun x => PyData.int (f x))] = some (.int (l.map f).sum) := by
  show (intsD (l.map fun x => PyData.int (f x))).map _ = _
  unfold intsD
  rw [allOf_fn (h := f) (fun _ => rfl)]
  rfl
theorem max_map (f : α → Int) {l : List α} (h : l ≠ []) : oMax [.list (l.map fun x => PyData.int (f x))] = some (.int (maxL (l.map f))) := by
  show (intsD (l.map fun x => PyData.int (f x))).bind _ = _
  unfold intsD
  rw [allOf_fn (h := f) (fun _ => rfl)]
  have : 0 < (l.map f).length := by
    rw [List.length_map]
    exact List.length_pos_iff.mpr h
  show (if decide (0 < (l.map f).length) = true then _ else _) = _
  rw [if_pos (decide_eq_true this)]
theorem min_map (f : α → Int) {l : List α} (h : l ≠ []) : oMin [.list (l.map fun x => PyData.int (f x))] = some (.int (minL (l.map f))) := by
  show (intsD (l.map fun x => PyData.int (f x))).bind _ = _
  unfold intsD
  rw [allOf_fn (h := f) (fun _ => rfl)]
  have : 0 < (l.map f).length := by
    rw [List.length_map]
    exact List.length_pos_iff.mpr h
  show (if decide (0 < (l.map f).length) = true then _ else _) = _
  rw [if_pos (decide_eq_true this)]
end
theorem cut_tail {α : Type} (xs : List α) : (xs.drop (HT.sIx xs.length 0 (some 1))).take (HT.sIx xs.length xs.length none - HT.sIx xs.length 0 (some 1)) = xs.drop 1 := by
  unfold HT.sIx
  cases xs with
  | nil => rfl
  | cons d ds =>
    have e1 : min (1 : Int).toNat (d :: ds).length = 1 := by
      show min 1 (ds.length + 1) = 1
      omega
    simp only [show ¬ ((1 : Int) < 0) by omega, if_false, e1]
    exact List.take_of_length_le (by simp)
theorem sl_mkI (m : List Int) : gSl (mkI m) (some 1) none = M.ret (mkI (m.drop 1)) := by
  show M.ret (PyData.tuple (cutD (m.map .int) (some 1) none)) = _
  unfold cutD
  rw [cut_tail, ← List.map_drop]
  rfl
theorem sl_mkF (m : List (List Int)) : gSl (mkF m) (some 1) none = M.ret (mkF (m.drop 1)) := by
  show M.ret (PyData.tuple (cutD (m.map mkI) (some 1) none)) = _
  unfold cutD
  rw [cut_tail, ← List.map_drop]
  rfl
theorem len_mkF (m : List (List Int)) : oLen [mkF m] = some (.int m.length) := by
  show some (PyData.int ((m.map mkI).length : Nat)) = _
  rw [List.length_map]
theorem len_mkI (m : List Int) : oLen [mkI m] = some (.int m.length) := by
  show some (PyData.int ((m.map PyData.int).length : Nat)) = _
  rw [List.length_map]
theorem len_list (m : List D) : oLen [.list m] = some (.int m.length) := rfl
theorem eq_nilI {m : List Int} (h : m ≠ []) : gEq (mkI m) (.tuple []) = M.ret (.bool false) := by
  have e : (PyData.tuple [] : D) = mkI [] := rfl
  unfold gEq
  rw [e, sh_mkI, sh_mkI]
  show M.ret (PyData.bool (PyData.eqv (mkI m) (mkI []))) = _
  rw [show PyData.eqv (mkI m) (mkI []) = decide (m = []) from eqv_ints m [], decide_eq_false h]
theorem eq_nilF {m : List (List Int)} (h : m ≠ []) : gEq (mkF m) (.tuple []) = M.ret (.bool false) := by
  have e : (PyData.tuple [] : D) = mkF [] := rfl
  rw [e, eq_mkF, decide_eq_false h]
/-- first and last -/
theorem ix_first {m : List Int} (h : m ≠ []) : gIx (mkI m) (.int 0) = M.ret (.int (m.headD 0)) := by
  cases m with
  | nil => exact absurd rfl h
  | cons a m =>
    show ofO (atI ((a :: m).map PyData.int) 0) = _
    unfold atI ixN
    rw [if_pos (Int.le_refl 0), if_pos (by simp)]
    rfl
theorem ix_last {m : List Int} (h : m ≠ []) : gIx (mkI m) (.int (-1)) = M.ret (.int (m.getLastD 0)) := by
  have hl : 0 < m.length := List.length_pos_iff.mpr h
  show ofO (atI (m.map PyData.int) (-1)) = _
  unfold atI ixN
  rw [List.length_map, if_neg (by omega), if_pos (by omega)]
  show ofO ((m.map PyData.int)[(-1 + (m.length : Int)).toNat]?) = _
  have e : (-1 + (m.length : Int)).toNat = m.length - 1 := by omega
  rw [e, List.getElem?_map, List.getElem?_eq_getElem (by omega)]
  show M.ret (PyData.int m[m.length - 1]) = _
  rw [List.getLastD_eq_getLast?, List.getLast?_eq_getElem?, List.getElem?_eq_getElem (by omega)]
  rfl
end DL
end L2

set_option Elab.async false
set_option linter.all false
set_option maxRecDepth 100000
/-! filters -/
namespace L2
namespace DL
open PySem
theorem asc_zip : ∀ {m : List Int}, Asc m → ∀ p, p ∈ m.zip (m.drop 1) → p.1 < p.2
  | [], _, p, h => by simp at h
  | [a], _, p, h => by simp at h
  | a :: b :: m, h, p, hp => by
    obtain ⟨h1, h2⟩ := List.pairwise_cons.mp h
    rcases List.mem_cons.mp hp with rfl | hp
    · exact h1 b List.mem_cons_self
    · exact asc_zip h2 p hp
theorem zip_ints (a b : List Int) : oZip [mkI a, mkI b] = some ((a.zip b).map fun p => .tuple [.int p.1, .int p.2]) := by
  show some (((a.map PyData.int).zip (b.map PyData.int)).map fun p => PyData.tuple [p.1, p.2]) = _
  rw [List.zip_map, List.map_map]
  rfl
/-- masks, at least one -/
structure Mks (ms : List (List Int)) : Prop where
  some : ms ≠ []
  asc : ∀ m, m ∈ ms → Asc m
  full : ∀ m, m ∈ ms → m ≠ []
def lowL (ms : List (List Int)) : Int := minL (ms.map fun m => m.headD 0)
def highL (ms : List (List Int)) : Int := maxL (ms.map fun m => m.getLastD 0)
def span (ms : List (List Int)) : Int := maxL (ms.map fun m => m.getLastD 0) - minL (ms.map fun m => m.headD 0)
theorem asc_head {m : List Int} (h : Asc m) {x : Int} (hx : x ∈ m) : m.headD 0 ≤ x := by
  cases m with
  | nil => cases hx
  | cons a m =>
    rcases List.mem_cons.mp hx with rfl | hx
    · exact Int.le_refl _
    · exact Int.le_of_lt ((List.pairwise_cons.mp h).1 x hx)
theorem asc_last : ∀ {m : List Int}, Asc m → ∀ {x : Int}, x ∈ m → x ≤ m.getLastD 0
  | [], _, _, hx => by cases hx
  | [a], _, x, hx => by
    rcases List.mem_cons.mp hx with rfl | hx
    · exact Int.le_refl _
    · cases hx
  | a :: b :: m, h, x, hx => by
    obtain ⟨h1, h2⟩ := List.pairwise_cons.mp h
    have e : (a :: b :: m).getLastD 0 = (b :: m).getLastD 0 := rfl
    rw [e]
    rcases List.mem_cons.mp hx with rfl | hx
    · exact Int.le_trans (Int.le_of_lt (h1 b List.mem_cons_self)) (asc_last h2 List.mem_cons_self)
    · exact asc_last h2 hx
theorem head_mem {m : List Int} (h : m ≠ []) : m.headD 0 ∈ m := by
  cases m with
  | nil => exact absurd rfl h
  | cons a m => exact List.mem_cons_self
theorem last_mem : ∀ {m : List Int}, m ≠ [] → m.getLastD 0 ∈ m
  | [], h => absurd rfl h
  | [a], _ => List.mem_cons_self
  | a :: b :: m, _ => List.mem_cons_of_mem _ (last_mem (m := b :: m) (by simp))
theorem Mks.low_le {ms : List (List Int)} (h : Mks ms) {m : List Int} (hm : m ∈ ms) {o : Int} (ho : o ∈ m) : lowL ms ≤ o := by
  have hl : 0 < (ms.map fun m => m.headD 0).length := by rw [List.length_map]; exact List.length_pos_iff.mpr h.some
  exact Int.le_trans ((minL_is hl).2 _ (List.mem_map.mpr ⟨m, hm, rfl⟩)) (asc_head (h.asc m hm) ho)
theorem Mks.le_high {ms : List (List Int)} (h : Mks ms) {m : List Int} (hm : m ∈ ms) {o : Int} (ho : o ∈ m) : o ≤ highL ms := by
  have hl : 0 < (ms.map fun m => m.getLastD 0).length := by rw [List.length_map]; exact List.length_pos_iff.mpr h.some
  exact Int.le_trans (asc_last (h.asc m hm) ho) ((maxL_is hl).2 _ (List.mem_map.mpr ⟨m, hm, rfl⟩))
theorem Mks.low_mem {ms : List (List Int)} (h : Mks ms) : ∃ m, m ∈ ms ∧ lowL ms ∈ m := by
  have hl : 0 < (ms.map fun m => m.headD 0).length := by rw [List.length_map]; exact List.length_pos_iff.mpr h.some
  obtain ⟨m, hm, e⟩ := List.mem_map.mp (minL_is hl).1
  exact ⟨m, hm, by unfold lowL; rw [← e]; exact head_mem (h.full m hm)⟩
theorem Mks.high_mem {ms : List (List Int)} (h : Mks ms) : ∃ m, m ∈ ms ∧ highL ms ∈ m := by
  have hl : 0 < (ms.map fun m => m.getLastD 0).length := by rw [List.length_map]; exact List.length_pos_iff.mpr h.some
  obtain ⟨m, hm, e⟩ := List.mem_map.mp (maxL_is hl).1
  exact ⟨m, hm, by unfold highL; rw [← e]; exact last_mem (h.full m hm)⟩
/-- the span, by bounds of all offsets -/
theorem Mks.span_le {ms : List (List Int)} (h : Mks ms) {a b : Int} (hl : ∀ m, m ∈ ms → ∀ o, o ∈ m → a ≤ o ∧ o ≤ b) : span ms ≤ b - a := by
  obtain ⟨m, hm, h1⟩ := h.low_mem
  obtain ⟨m', hm', h2⟩ := h.high_mem
  have e1 := hl m hm _ h1
  have e2 := hl m' hm' _ h2
  show highL ms - lowL ms ≤ _
  omega
theorem Mks.in10 {ms : List (List Int)} (h : Mks ms) (hs : span ms ≤ 8) : ∀ m, m ∈ ms → In10 (lowL ms) m := fun m hm =>
  ⟨h.asc m hm, fun o ho => h.low_le hm ho, fun o ho => by
    have e1 := h.le_high hm ho
    have e2 : highL ms - lowL ms ≤ 8 := hs
    omega⟩
theorem ix_bits {low o : Int} (h1 : low ≤ o) (h2 : o ≤ low + 9) : gIx (.tuple [.int 1, .int 2, .int 4, .int 8, .int 16, .int 32, .int 64, .int 128, .int 256, .int 512]) (.int (o - low)) = M.ret (.int ((2 ^ (o - low).toNat : Nat) : Int)) := by
  have key : ∀ k : Nat, k < 10 → gIx (.tuple [.int 1, .int 2, .int 4, .int 8, .int 16, .int 32, .int 64, .int 128, .int 256, .int 512]) (.int (k : Int)) = M.ret (.int ((2 ^ k : Nat) : Int)) := by
    intro k hk
    rcases k with _ | _ | _ | _ | _ | _ | _ | _ | _ | _ | k
    all_goals first | rfl | omega
  have e : o - low = ((o - low).toNat : Int) := by omega
  rw [e]
  rw [Int.toNat_natCast]
  exact key _ (by omega)
theorem enc_int (low : Int) (m : List Int) : (m.map fun o => ((2 ^ (o - low).toNat : Nat) : Int)).sum = (enc low m : Int) := by
  unfold enc
  induction m with
  | nil => rfl
  | cons a m ih =>
    simp only [List.map_cons, List.sum_cons, ih]
    push_cast
    rfl
theorem dec_int (low : Int) (n : Nat) : PyData.tuple (((List.range 10).filter fun i => decide (n / 2 ^ i % 2 = 1)).map fun i : Nat => PyData.int (low + (i : Int))) = mkI (dec low n) := by
  unfold mkI dec
  rw [List.map_map]
  rfl
theorem bit_div (n : Nat) {i : Nat} (h : i < 10) : gFdiv (.int (n : Int)) (.int ((2 ^ i : Nat) : Int)) = M.ret (.int ((n / 2 ^ i : Nat) : Int)) := by
  have p : 2 ^ i < 2 ^ 30 := Nat.pow_lt_pow_right (by decide) (by omega)
  have p0 : 0 < 2 ^ i := Nat.two_pow_pos i
  show (if decide (0 < ((2 ^ i : Nat) : Int) ∧ ((2 ^ i : Nat) : Int) < 1152921504606846976) = true then M.ret (PyData.int ((n : Int) / ((2 ^ i : Nat) : Int))) else M.no) = _
  rw [if_pos (decide_eq_true ⟨by omega, by omega⟩)]
  rfl
theorem bit_mod (n : Nat) : gMod (.int (n : Int)) (.int 2) = M.ret (.int ((n % 2 : Nat) : Int)) := rfl
theorem eq_int (i j : Int) : gEq (.int i) (.int j) = M.ret (.bool (decide (i = j))) := by
  show M.ret (PyData.bool (i == j)) = _
  congr 2
theorem filt_yes {α : Type} {p : α → Bool} {a : α} {l : List α} (h : p a = true) : (l ++ [a]).filter p = l.filter p ++ [a] := by
  rw [List.filter_append, List.filter_cons, if_pos h, List.filter_nil]
theorem filt_no {α : Type} {p : α → Bool} {a : α} {l : List α} (h : p a = false) : (l ++ [a]).filter p = l.filter p := by
  rw [List.filter_append, List.filter_cons, if_neg (by rw [h]; exact Bool.false_ne_true), List.filter_nil, List.append_nil]
theorem nat_eq (a b : Nat) : decide ((a : Int) = (b : Int)) = decide (a = b) := decide_eq_decide.mpr (by omega)
theorem nat_one (k : Nat) : decide ((k : Int) = 1) = decide (k = 1) := by
  apply decide_eq_decide.mpr
  omega
/-! the order in which they are picked -/
theorem map_of {α β : Type} {f : α → β} : ∀ {l : List β}, (∀ b, b ∈ l → ∃ a, b = f a) → ∃ ys : List α, l = ys.map f
  | [], _ => ⟨[], rfl⟩
  | b :: l, h => by
    obtain ⟨a, rfl⟩ := h b List.mem_cons_self
    obtain ⟨ys, rfl⟩ := map_of fun b hb => h b (List.mem_cons_of_mem _ hb)
    exact ⟨a :: ys, rfl⟩
theorem keyed_order {α : Type} {f : α → List Int} (inj : ∀ a b, f a = f b → a = b) {xs : List α} (nd : xs.Nodup) : ∃ ys : List α, srtG HT.lexLt (xs.map f) = ys.map f ∧ ys.Nodup ∧ (∀ a, a ∈ ys ↔ a ∈ xs) ∧ (ys.map f).Pairwise fun a b => HT.lexLt b a = false := by
  have p := srtG_perm (lt := HT.lexLt) (xs.map f)
  obtain ⟨ys, e⟩ := map_of (f := f) (l := srtG HT.lexLt (xs.map f)) fun b hb => by
    obtain ⟨a, _, rfl⟩ := List.mem_map.mp (p.mem_iff.mp hb)
    exact ⟨a, rfl⟩
  refine ⟨ys, e, ?_, fun a => ?_, by rw [← e]; exact srtG_sorted tot_lex _⟩
  · have n1 : (xs.map f).Nodup := List.pairwise_map.mpr (nd.imp fun {a b} h e => h (inj _ _ e))
    have n2 := p.nodup_iff.mpr n1
    rw [e] at n2
    exact (List.pairwise_map.mp n2).imp fun {a b} h z => h (by rw [z])
  · have q : f a ∈ ys.map f ↔ f a ∈ xs.map f := by rw [← e]; exact p.mem_iff
    constructor
    · intro h
      obtain ⟨b, hb, z⟩ := List.mem_map.mp (q.mp (List.mem_map.mpr ⟨a, h, rfl⟩))
      rw [← inj _ _ z]; exact hb
    · intro h
      obtain ⟨b, hb, z⟩ := List.mem_map.mp (q.mpr (List.mem_map.mpr ⟨a, h, rfl⟩))
      rw [← inj _ _ z]; exact hb
theorem head_le {a b : List Int} {x y : Int} (h : HT.lexLt (y :: b) (x :: a) = false) : x ≤ y := by
  rw [HT.lexLt_cons] at h
  split at h
  · rename_i e; omega
  · have := of_decide_eq_false h
    omega
theorem num_order (ks : List Nat) : ∃ xs ys : List Nat, srtU ltI (ks.map fun n : Nat => (n : Int)) = xs.map (fun n : Nat => (n : Int)) ∧ srtG HT.lexLt (xs.map fun n : Nat => [(cnt n : Int), (n : Int)]) = ys.map (fun n : Nat => [(cnt n : Int), (n : Int)]) ∧
    ys.Nodup ∧ (∀ n, n ∈ ys ↔ n ∈ ks) ∧ ys.Pairwise fun a b => cnt a ≤ cnt b := by
  have hm := srtU_mem tot_int (ks.map fun n : Nat => (n : Int))
  obtain ⟨xs, e⟩ := map_of (f := fun n : Nat => (n : Int)) (l := srtU ltI (ks.map fun n : Nat => (n : Int))) fun b hb => by
    obtain ⟨a, _, rfl⟩ := List.mem_map.mp ((hm b).mp hb)
    exact ⟨a, rfl⟩
  have nx : xs.Nodup := by
    have := strict_nodup tot_int (srtU_sorted tot_int (ks.map fun n : Nat => (n : Int)))
    rw [e] at this
    exact (List.pairwise_map.mp this).imp fun {a b} h z => h (by rw [z])
  have mx : ∀ n, n ∈ xs ↔ n ∈ ks := fun n => by
    have q := hm (n : Int)
    rw [e] at q
    constructor
    · intro h
      obtain ⟨k, hk, z⟩ := List.mem_map.mp (q.mp (List.mem_map.mpr ⟨n, h, rfl⟩))
      have : k = n := by omega
      rw [← this]; exact hk
    · intro h
      obtain ⟨k, hk, z⟩ := List.mem_map.mp (q.mpr (List.mem_map.mpr ⟨n, h, rfl⟩))
      have : k = n := by omega
      rw [← this]; exact hk
  obtain ⟨ys, e2, n2, m2, s2⟩ := keyed_order (f := fun n : Nat => [(cnt n : Int), (n : Int)]) (fun a b z => by simp at z; omega) nx
  refine ⟨xs, ys, e, e2, n2, fun n => (m2 n).trans (mx n), ?_⟩
  refine (List.pairwise_map.mp s2).imp fun {a b} h => ?_
  have := head_le h
  omega
theorem mask_order (ms : List (List Int)) : ∃ ys : List (List Int), srtG HT.lexLt ((srtU HT.lexLt ms).map fun m => (m.length : Int) :: m) = ys.map (fun m => (m.length : Int) :: m) ∧ ys.Nodup ∧ (∀ n, n ∈ ys ↔ n ∈ ms) ∧ ys.Pairwise fun a b => a.length ≤ b.length := by
  obtain ⟨ys, e2, n2, m2, s2⟩ := keyed_order (f := fun m : List Int => (m.length : Int) :: m) (fun a b z => by simp at z; exact z.2) (strict_nodup tot_lex (srtU_sorted tot_lex ms))
  refine ⟨ys, e2, n2, fun n => (m2 n).trans (srtU_mem tot_lex ms n), ?_⟩
  refine (List.pairwise_map.mp s2).imp fun {a b} h => ?_
  have := head_le h
  omega
theorem srtU_len {α : Type} {lt : α → α → Bool} : ∀ l : List α, (srtU lt l).length ≤ l.length
  | [] => Nat.le_refl _
  | x :: xs => by
    have ins : ∀ l : List α, (insU lt x l).length ≤ l.length + 1 := by
      intro l
      induction l with
      | nil => exact Nat.le_refl _
      | cons y ys ih =>
        show (if lt y x = true then y :: insU lt x ys else if lt x y = true then x :: y :: ys else y :: ys).length ≤ _
        split
        · simp only [List.length_cons]; omega
        · split <;> simp only [List.length_cons] <;> omega
    have := ins (srtU lt xs)
    have := srtU_len (lt := lt) xs
    show (insU lt x (srtU lt xs)).length ≤ _
    simp only [List.length_cons]
    omega
theorem sset_nats {ks : List Nat} {xs : List Nat} (e : srtU ltI (ks.map fun n : Nat => (n : Int)) = xs.map fun n : Nat => (n : Int)) (hz : ks.length < 4000) :
    oSortedSet (.list (ks.map fun n : Nat => PyData.int (n : Int))) = some (.list (xs.map fun n : Nat => PyData.int (n : Int))) := by
  have h1 : intsD (ks.map fun n : Nat => PyData.int (n : Int)) = some (ks.map fun n : Nat => (n : Int)) := allOf_fn (f := asInt) (g := fun n : Nat => PyData.int (n : Int)) (fun _ => rfl) ks
  have l1 := srtU_len (lt := ltI) (ks.map fun n : Nat => (n : Int))
  rw [List.length_map] at l1
  unfold oSortedSet
  simp only [h1]
  rw [if_pos (decide_eq_true (by omega)), e, List.map_map]
  rfl
theorem sorted_keys {α : Type} {f : α → List Int} {xs ys : List α} (e : srtG HT.lexLt (xs.map f) = ys.map f) (h : ∀ a, f a ≠ []) : oSorted [.list (xs.map fun a => mkI (f a))] = some (.list (ys.map fun a => mkI (f a))) := by
  have q := sorted_mkI (ms := xs.map f) fun m hm => by
    obtain ⟨a, _, rfl⟩ := List.mem_map.mp hm
    exact h a
  rw [e, List.map_map, List.map_map] at q
  exact q
theorem sorted_keysP {α : Type} {f : α → List Int} {xs ys : List α} (e : srtG HT.lexLt (xs.map f) = ys.map f) (h : ∀ a, ∃ i ns, f a = i :: ns) : oSorted [.list (xs.map fun a => mkP (f a))] = some (.list (ys.map fun a => mkP (f a))) := by
  cases xs with
  | nil =>
    cases ys with
    | nil => rfl
    | cons y ys => cases e
  | cons x xs =>
    have h0 : ∀ a, asInt (mkP (f a)) = none := fun a => by obtain ⟨i, ns, z⟩ := h a; rw [z]; rfl
    have h1 : ∀ a, kI (mkP (f a)) = none := fun a => by obtain ⟨i, ns, z⟩ := h a; rw [z]; rfl
    have h2 : allOf kP ((x :: xs).map fun a => mkP (f a)) = some ((x :: xs).map f) := allOf_fn (fun a => by obtain ⟨i, ns, z⟩ := h a; rw [z]; exact kP_back i ns) _
    have n0 : intsD ((x :: xs).map fun a => mkP (f a)) = none := by
      unfold intsD
      rw [List.map_cons]
      unfold allOf
      rw [h0]
    have n1 : allOf kI ((x :: xs).map fun a => mkP (f a)) = none := by
      rw [List.map_cons]
      unfold allOf
      rw [h1]
    unfold oSorted
    simp only [n0, n1, h2, Option.map_some, e, List.map_map]
    rfl
end DL
end L2

set_option Elab.async false
set_option linter.all false
set_option maxRecDepth 100000
/-! rings -/
namespace L2
namespace DL
open PySem
def sg (b : Bool) : Nat := if b = true then 35 else 46
def rs (bs : List Bool) : Str := ⟨(bs.map sg).toArray⟩
/-- a ring's sign at any number -/
def cyc (bs : List Bool) (i : Int) : Bool := bs.getD (i % (bs.length : Int)).toNat false
theorem cyc_nat {bs : List Bool} {i : Nat} (h : i < bs.length) : cyc bs (i : Int) = bs[i] := by
  unfold cyc
  have e : ((i : Int) % (bs.length : Int)).toNat = i := by
    rw [Int.emod_eq_of_lt (by omega) (by omega)]
    rfl
  rw [e, List.getD_eq_getElem?_getD, List.getElem?_eq_getElem h]
  rfl
theorem cyc_congr {bs : List Bool} {i j : Int} (h : i % (bs.length : Int) = j % (bs.length : Int)) : cyc bs i = cyc bs j := by
  unfold cyc
  rw [h]
theorem cyc_ext {a b : List Bool} (hl : a.length = b.length) (h : ∀ i : Int, cyc a i = cyc b i) : a = b := by
  apply List.ext_getElem hl
  intro i h1 h2
  rw [← cyc_nat h1, ← cyc_nat h2]
  exact h i
theorem cyc_map {n : Nat} (f : Int → Bool) (hf : ∀ i : Int, f (i % (n : Int)) = f i) (hn : 0 < n) (i : Int) : cyc ((List.range n).map fun p : Nat => f (p : Int)) i = f i := by
  unfold cyc
  rw [List.length_map, List.length_range]
  have h0 := Int.emod_nonneg i (show (n : Int) ≠ 0 by omega)
  have h1 := Int.emod_lt_of_pos i (show (0 : Int) < n by omega)
  have hlt : (i % (n : Int)).toNat < n := by omega
  rw [List.getD_eq_getElem?_getD, List.getElem?_map, List.getElem?_range hlt]
  show f (((i % (n : Int)).toNat : Nat) : Int) = f i
  rw [Int.toNat_of_nonneg h0, hf]
/-- whether a filter gives the place a dot -/
def hd (ms : List (List Int)) (bs : List Bool) (p : Int) : Bool := ms.any fun m => m.all fun o => cyc bs (p + o)
def app (ms : List (List Int)) (bs : List Bool) : List Bool := (List.range bs.length).map fun p : Nat => hd ms bs (p : Int)
theorem app_len (ms : List (List Int)) (bs : List Bool) : (app ms bs).length = bs.length := by unfold app; rw [List.length_map, List.length_range]
theorem hd_congr {ms : List (List Int)} {bs : List Bool} {p q : Int} (h : p % (bs.length : Int) = q % (bs.length : Int)) : hd ms bs p = hd ms bs q := by
  unfold hd
  congr 1
  funext m
  congr 1
  funext o
  refine cyc_congr ?_
  rw [Int.add_emod, h, ← Int.add_emod]
theorem cyc_app {ms : List (List Int)} {bs : List Bool} (hn : 0 < bs.length) (i : Int) : cyc (app ms bs) i = hd ms bs i :=
  cyc_map (hd ms bs) (fun i => hd_congr (Int.emod_emod_of_dvd i (Int.dvd_refl _))) hn i
/-! turned, doubled, mirrored rings -/
theorem cyc_rot {bs : List Bool} {a : Nat} (ha : a ≤ bs.length) (hn : 0 < bs.length) (i : Int) : cyc (bs.drop a ++ bs.take a) i = cyc bs (i + a) := by
  have hl : (bs.drop a ++ bs.take a).length = bs.length := by rw [List.length_append, List.length_drop, List.length_take]; omega
  have h0 := Int.emod_nonneg i (show (bs.length : Int) ≠ 0 by omega)
  have h1 := Int.emod_lt_of_pos i (show (0 : Int) < bs.length by omega)
  have e1 : cyc (bs.drop a ++ bs.take a) i = (bs.drop a ++ bs.take a).getD (i % (bs.length : Int)).toNat false := by unfold cyc; rw [hl]
  rw [e1]
  generalize hk : (i % (bs.length : Int)).toNat = k
  have hkl : k < bs.length := by omega
  have e2 : cyc bs (i + a) = cyc bs ((k : Int) + a) := cyc_congr (by
    have : (k : Int) = i % (bs.length : Int) := by omega
    rw [this, Int.emod_add_emod])
  rw [e2, List.getD_eq_getElem?_getD]
  by_cases c : k < bs.length - a
  · rw [List.getElem?_append_left (by rw [List.length_drop]; exact c), List.getElem?_drop]
    have e3 : cyc bs ((k : Int) + a) = bs[a + k]'(by omega) := by
      have : ((k : Int) + a) = ((a + k : Nat) : Int) := by omega
      rw [this, cyc_nat (by omega)]
    rw [e3, List.getElem?_eq_getElem (by omega)]
    rfl
  · rw [List.getElem?_append_right (by rw [List.length_drop]; omega), List.length_drop, List.getElem?_take_of_lt (by omega)]
    have e3 : cyc bs ((k : Int) + a) = bs[k - (bs.length - a)]'(by omega) := by
      have : cyc bs ((k : Int) + a) = cyc bs (((k - (bs.length - a) : Nat)) : Int) := cyc_congr (by
        have e : (k : Int) + a = ((k - (bs.length - a) : Nat) : Int) + (bs.length : Int) := by omega
        rw [e, Int.add_emod_right])
      rw [this, cyc_nat (by omega)]
    rw [e3, List.getElem?_eq_getElem (by omega)]
    rfl
theorem app_rot {ms : List (List Int)} {bs : List Bool} {a : Nat} (ha : a ≤ bs.length) (hn : 0 < bs.length) : app ms (bs.drop a ++ bs.take a) = (app ms bs).drop a ++ (app ms bs).take a := by
  have hl : (bs.drop a ++ bs.take a).length = bs.length := by rw [List.length_append, List.length_drop, List.length_take]; omega
  refine cyc_ext ?_ fun i => ?_
  · rw [app_len, hl, List.length_append, List.length_drop, List.length_take, app_len]; omega
  · rw [cyc_app (by omega), cyc_rot (by rw [app_len]; exact ha) (by rw [app_len]; exact hn), cyc_app hn]
    unfold hd
    congr 1
    funext m
    congr 1
    funext o
    rw [cyc_rot ha hn]
    congr 1
    omega
theorem cyc_twice {bs : List Bool} (hn : 0 < bs.length) (i : Int) : cyc (bs ++ bs) i = cyc bs i := by
  have h0 := Int.emod_nonneg i (show ((bs ++ bs).length : Int) ≠ 0 by rw [List.length_append]; omega)
  have h1 := Int.emod_lt_of_pos i (show (0 : Int) < ((bs ++ bs).length : Int) by rw [List.length_append]; omega)
  have e1 : i % ((bs ++ bs).length : Int) % (bs.length : Int) = i % (bs.length : Int) := by
    apply Int.emod_emod_of_dvd
    rw [List.length_append]
    exact ⟨2, by omega⟩
  unfold cyc
  generalize hk : (i % ((bs ++ bs).length : Int)).toNat = k
  have hkl : k < (bs ++ bs).length := by omega
  rw [List.length_append] at hkl
  have hk' : (k : Int) = i % ((bs ++ bs).length : Int) := by omega
  rw [← hk'] at e1
  rw [← e1, List.getD_eq_getElem?_getD, List.getD_eq_getElem?_getD]
  by_cases c : k < bs.length
  · rw [List.getElem?_append_left c, Int.emod_eq_of_lt (by omega) (by omega)]
    rfl
  · rw [List.getElem?_append_right (by omega)]
    have e2 : ((k : Int) % (bs.length : Int)).toNat = k - bs.length := by
      have : (k : Int) % (bs.length : Int) = (k : Int) - bs.length := by
        rw [← Int.sub_emod_right, Int.emod_eq_of_lt (by omega) (by omega)]
      rw [this]
      omega
    rw [e2]
theorem app_twice {ms : List (List Int)} {bs : List Bool} (hn : 0 < bs.length) : app ms (bs ++ bs) = app ms bs ++ app ms bs := by
  refine cyc_ext ?_ fun i => ?_
  · rw [app_len, List.length_append, List.length_append, app_len]
  · rw [cyc_app (by rw [List.length_append]; omega), cyc_twice (by rw [app_len]; exact hn), cyc_app hn]
    unfold hd
    congr 1
    funext m
    congr 1
    funext o
    exact cyc_twice hn _
theorem cyc_rev {bs : List Bool} (hn : 0 < bs.length) (i : Int) : cyc bs.reverse i = cyc bs (-1 - i) := by
  have h0 := Int.emod_nonneg i (show (bs.length : Int) ≠ 0 by omega)
  have h1 := Int.emod_lt_of_pos i (show (0 : Int) < bs.length by omega)
  have e : cyc bs (-1 - i) = cyc bs (((bs.length - 1 - (i % (bs.length : Int)).toNat : Nat)) : Int) := cyc_congr (by
    have q : ((bs.length - 1 - (i % (bs.length : Int)).toNat : Nat) : Int) = (bs.length : Int) + (-1 - i % (bs.length : Int)) := by omega
    rw [q, Int.add_emod_left]
    rw [Int.sub_emod, Int.sub_emod (-1) (i % (bs.length : Int)), Int.emod_emod_of_dvd i (Int.dvd_refl _)])
  rw [e, cyc_nat (by omega)]
  unfold cyc
  rw [List.length_reverse, List.getD_eq_getElem?_getD, List.getElem?_reverse (by omega), List.getElem?_eq_getElem (by omega)]
  rfl
/-- masks mirrored, in any order -/
theorem app_mirror {ms ns : List (List Int)} {bs : List Bool} (hn : 0 < bs.length) (h : ∀ m, m ∈ ns ↔ ∃ m', m' ∈ ms ∧ m = (m'.reverse).map fun o => -o) : app ns bs.reverse = (app ms bs).reverse := by
  refine cyc_ext ?_ fun i => ?_
  · rw [app_len, List.length_reverse, List.length_reverse, app_len]
  · rw [cyc_app (by rw [List.length_reverse]; exact hn), cyc_rev (by rw [app_len]; exact hn), cyc_app hn]
    unfold hd
    rw [Bool.eq_iff_iff, List.any_eq_true, List.any_eq_true]
    have key : ∀ m' : List Int, ((m'.reverse).map fun o => -o).all (fun o => cyc bs.reverse (i + o)) = m'.all fun o => cyc bs (-1 - i + o) := fun m' => by
      rw [Bool.eq_iff_iff, List.all_eq_true, List.all_eq_true]
      constructor
      · intro q o ho
        have := q (-o) (List.mem_map.mpr ⟨o, List.mem_reverse.mpr ho, rfl⟩)
        rw [cyc_rev hn] at this
        have e : -1 - (i + -o) = -1 - i + o := by omega
        rw [e] at this
        exact this
      · intro q o ho
        obtain ⟨o', ho', rfl⟩ := List.mem_map.mp ho
        have := q o' (List.mem_reverse.mp ho')
        rw [cyc_rev hn]
        have e : -1 - (i + -o') = -1 - i + o' := by omega
        rw [e]
        exact this
    constructor
    · rintro ⟨m, hm, q⟩
      obtain ⟨m', hm', rfl⟩ := (h m).mp hm
      rw [key] at q
      exact ⟨m', hm', q⟩
    · rintro ⟨m', hm', q⟩
      refine ⟨_, (h _).mpr ⟨m', hm', rfl⟩, ?_⟩
      rw [key]
      exact q
theorem cyc_const {b : Bool} {n : Nat} (hn : 0 < n) (i : Int) : cyc (List.replicate n b) i = b := by
  have h0 := Int.emod_nonneg i (show (n : Int) ≠ 0 by omega)
  have h1 := Int.emod_lt_of_pos i (show (0 : Int) < n by omega)
  unfold cyc
  rw [List.length_replicate, List.getD_eq_getElem?_getD, List.getElem?_replicate, if_pos (by omega)]
  rfl
theorem app_const {ms : List (List Int)} {b : Bool} {n : Nat} (hn : 0 < n) (h : ms ≠ []) (hf : ∀ m, m ∈ ms → m ≠ []) : app ms (List.replicate n b) = List.replicate n b := by
  refine cyc_ext (by rw [app_len]) fun i => ?_
  rw [cyc_app (by rw [List.length_replicate]; exact hn), cyc_const hn]
  unfold hd
  cases b with
  | true =>
    rw [List.any_eq_true]
    obtain ⟨m, l, rfl⟩ := List.exists_cons_of_ne_nil h
    exact ⟨m, List.mem_cons_self, List.all_eq_true.mpr fun o _ => cyc_const hn _⟩
  | false =>
    rw [List.any_eq_false]
    intro m hm q
    obtain ⟨o, l, rfl⟩ := List.exists_cons_of_ne_nil (hf m hm)
    have := List.all_eq_true.mp q o List.mem_cons_self
    rw [cyc_const hn] at this
    cases this
theorem app_same {bs : List Bool} (hn : 0 < bs.length) : app [[0]] bs = bs := by
  refine cyc_ext (app_len _ _) fun i => ?_
  rw [cyc_app hn]
  show ([[0]].any fun m => m.all fun o => cyc bs (i + o)) = _
  simp
end DL
end L2

set_option Elab.async false
set_option linter.all false
set_option maxRecDepth 100000
/-! rings as texts -/
namespace L2
namespace DL
open PySem
def rt (bs : List Bool) : D := .str (rs bs)
def sgD (b : Bool) : D := .str ⟨#[sg b]⟩
theorem dot_is : (("#" : Str)) = ⟨#[35]⟩ := by decide
theorem blank_is : (("." : Str)) = ⟨#[46]⟩ := by decide
theorem empty_is : (("" : Str)) = ⟨#[]⟩ := by decide
theorem rs_len (bs : List Bool) : (rs bs).length = bs.length := by
  show ((bs.map sg).toArray).size = _
  rw [List.size_toArray, List.length_map]
theorem sz_le {n : Nat} (h : n ≤ 16777216) : szOk n = true := decide_eq_true h
theorem nd_rt (bs : List Bool) : nd (rt bs) = true := rfl
theorem nd_sgD (b : Bool) : nd (sgD b) = true := rfl
theorem tStr_rt (bs : List Bool) : tStr (rt bs) = some true := rfl
theorem len_rt {bs : List Bool} (h : bs.length ≤ 1000) : oLen [rt bs] = some (.int bs.length) := by
  show (if szOk (rs bs).length = true then some (PyData.int ((rs bs).length : Nat)) else none) = _
  rw [rs_len, if_pos (sz_le (by omega))]
theorem it_rt {bs : List Bool} (h : bs.length ≤ 1000) : itD (rt bs) = some (bs.map sgD) := by
  show (if szOk (rs bs).length = true then some ((rs bs).cps.toList.map sgn) else none) = _
  rw [rs_len, if_pos (sz_le (by omega))]
  show some (((bs.map sg).toArray.toList).map sgn) = _
  rw [List.map_map]
  rfl
theorem dot_sg : (PyData.str "#" : D) = sgD true := congrArg PyData.str dot_is
theorem blank_sg : (PyData.str "." : D) = sgD false := congrArg PyData.str blank_is
theorem pick_sg (b : Bool) : (if b = true then PyData.str "#" else PyData.str ".") = sgD b := by
  rw [dot_sg, blank_sg]
  cases b <;> rfl
theorem ix_rt {bs : List Bool} (h : bs.length ≤ 1000) (hn : 0 < bs.length) (x : Int) : gIx (rt bs) (.int (x % (bs.length : Int))) = M.ret (sgD (cyc bs x)) := by
  have h0 := Int.emod_nonneg x (show (bs.length : Int) ≠ 0 by omega)
  have h1 := Int.emod_lt_of_pos x (show (0 : Int) < bs.length by omega)
  show (if szOk (rs bs).length = true then ofO ((atI (rs bs).cps.toList (x % (bs.length : Int))).map fun c => PyData.str ⟨#[c]⟩) else M.no) = _
  rw [rs_len, if_pos (sz_le (by omega))]
  show ofO ((atI (bs.map sg) (x % (bs.length : Int))).map fun c => PyData.str ⟨#[c]⟩) = _
  unfold atI ixN
  rw [List.length_map, if_pos h0, if_pos h1]
  show ofO (((bs.map sg)[(x % (bs.length : Int)).toNat]?).map fun c => PyData.str ⟨#[c]⟩) = _
  have e : cyc bs x = bs[(x % (bs.length : Int)).toNat]'(by omega) := by
    unfold cyc
    rw [List.getD_eq_getElem?_getD, List.getElem?_eq_getElem (by omega)]
    rfl
  rw [List.getElem?_map, List.getElem?_eq_getElem (by omega), e]
  rfl
theorem strs_sgD (bs : List Bool) : strsD (bs.map sgD) = some (bs.map fun b => (⟨#[sg b]⟩ : Str)) := allOf_fn (f := asStr) (g := sgD) (fun _ => rfl) bs
theorem join_fold : ∀ (bs : List Bool) (acc : Array Nat), (bs.map fun b => (⟨#[sg b]⟩ : Str)).foldl (fun acc p => acc ++ (⟨#[]⟩ : Str).cps ++ p.cps) acc = acc ++ (bs.map sg).toArray
  | [], acc => by simp
  | b :: bs, acc => by
    rw [List.map_cons, List.foldl_cons, join_fold bs, List.map_cons]
    simp
theorem join_rt {bs : List Bool} (h : bs.length ≤ 1000) : gJoin "" (.list (bs.map sgD)) = M.ret (rt bs) := by
  have s1 : ((bs.map fun b => (⟨#[sg b]⟩ : Str)).map (·.length)).sum = bs.length := by
    rw [List.map_map]
    clear h
    induction bs with
    | nil => rfl
    | cons b bs ih =>
      rw [List.map_cons, List.sum_cons, ih, List.length_cons]
      show 1 + bs.length = _
      omega
  show ofO ((strsD (bs.map sgD)).bind fun ys => if decide ((ys.map (·.length)).sum + ys.length * ("" : Str).length ≤ 16777216) = true then some (PyData.str (Txt.join "" ys)) else none) = _
  rw [strs_sgD]
  show ofO (if decide (((bs.map fun b => (⟨#[sg b]⟩ : Str)).map (·.length)).sum + (bs.map fun b => (⟨#[sg b]⟩ : Str)).length * ("" : Str).length ≤ 16777216) = true then some (PyData.str (Txt.join "" (bs.map fun b => (⟨#[sg b]⟩ : Str)))) else none) = _
  have e0 : ("" : Str).length = 0 := by decide
  rw [s1, e0, Nat.mul_zero, Nat.add_zero, if_pos (decide_eq_true (by omega))]
  have e1 : Txt.join "" (bs.map fun b => (⟨#[sg b]⟩ : Str)) = rs bs := by
    rw [empty_is]
    unfold Txt.join Builtin.Str.glued
    cases bs with
    | nil => rfl
    | cons b bs =>
      show (⟨(bs.map fun b => (⟨#[sg b]⟩ : Str)).foldl (fun acc p => acc ++ (⟨#[]⟩ : Str).cps ++ p.cps) #[sg b]⟩ : Str) = _
      rw [join_fold]
      show (⟨#[sg b] ++ (bs.map sg).toArray⟩ : Str) = ⟨((b :: bs).map sg).toArray⟩
      simp
  rw [e1]
  rfl
theorem rs_app (a b : List Bool) : rs a ++ rs b = rs (a ++ b) := by
  show (⟨(a.map sg).toArray ++ (b.map sg).toArray⟩ : Str) = ⟨((a ++ b).map sg).toArray⟩
  simp
theorem add_rt {a b : List Bool} (h : a.length + b.length ≤ 1000) : gAdd (rt a) (rt b) = M.ret (rt (a ++ b)) := by
  show (if szOk ((rs a).length + (rs b).length) = true then M.ret (PyData.str (rs a ++ rs b)) else M.no) = _
  rw [rs_len, rs_len, if_pos (sz_le (by omega)), rs_app]
  rfl
theorem drop_rt {bs : List Bool} {k : Nat} (h : bs.length ≤ 1000) (hk : k ≤ bs.length) : gSl (rt bs) (some (k : Int)) none = M.ret (rt (bs.drop k)) := by
  show (if szOk (rs bs).length = true then M.ret (PyData.str (cutS (rs bs) (some (k : Int)) none)) else M.no) = _
  rw [rs_len, if_pos (sz_le (by omega))]
  have e : cutS (rs bs) (some (k : Int)) none = rs (bs.drop k) := by
    unfold cutS
    rw [rs_len]
    have e1 : HT.sIx bs.length 0 (some (k : Int)) = k := by
      rw [HT.sIx_nat]; omega
    rw [e1]
    show (⟨(((bs.map sg).toArray.toList.drop k).take (bs.length - k)).toArray⟩ : Str) = ⟨((bs.drop k).map sg).toArray⟩
    rw [List.take_of_length_le (by rw [List.length_drop]; simp), List.map_drop]
  rw [e]
  rfl
theorem take_rt {bs : List Bool} {k : Nat} (h : bs.length ≤ 1000) (hk : k ≤ bs.length) : gSl (rt bs) none (some (k : Int)) = M.ret (rt (bs.take k)) := by
  show (if szOk (rs bs).length = true then M.ret (PyData.str (cutS (rs bs) none (some (k : Int)))) else M.no) = _
  rw [rs_len, if_pos (sz_le (by omega))]
  have e : cutS (rs bs) none (some (k : Int)) = rs (bs.take k) := by
    unfold cutS
    rw [rs_len]
    have e1 : HT.sIx bs.length bs.length (some (k : Int)) = k := by
      rw [HT.sIx_nat]; omega
    rw [e1]
    show (⟨(((bs.map sg).toArray.toList.drop 0).take (k - 0)).toArray⟩ : Str) = ⟨((bs.take k).map sg).toArray⟩
    rw [List.drop_zero, Nat.sub_zero, List.map_take]
  rw [e]
  rfl
theorem mul_rt {bs : List Bool} {k : Nat} (h : bs.length * k ≤ 1000) (hk : k ≤ 1000) : gMulA (rt bs) (.int (k : Int)) = M.ret (rt (List.replicate k bs).flatten) := by
  show (if decide (-4611686018427387904 ≤ (k : Int) ∧ (k : Int) < 4611686018427387904 ∧ (rs bs).length * (k : Int).toNat ≤ 16777216) = true then M.ret (PyData.str (repS (rs bs) (k : Int).toNat)) else M.no) = _
  rw [rs_len, Int.toNat_natCast, if_pos (decide_eq_true ⟨by omega, by omega, by omega⟩)]
  have e : repS (rs bs) k = rs (List.replicate k bs).flatten := by
    unfold repS rs
    congr 2
    rw [List.map_flatten, List.map_replicate]
  rw [e]
  rfl
theorem rev_rt {bs : List Bool} (h : bs.length ≤ 1000) : gRev (rt bs) = M.ret (rt bs.reverse) := by
  show (if szOk (rs bs).length = true then M.ret (PyData.str (revS (rs bs))) else M.no) = _
  rw [rs_len, if_pos (sz_le (by omega))]
  have e : revS (rs bs) = rs bs.reverse := by
    unfold revS rs
    rw [List.map_reverse]
  rw [e]
  rfl
theorem sg_inj {a b : Bool} (h : sg a = sg b) : a = b := by
  revert h; cases a <;> cases b <;> decide
theorem rs_inj {a b : List Bool} (h : rs a = rs b) : a = b := by
  have e : (a.map sg).toArray = (b.map sg).toArray := congrArg Str.cps h
  have e2 : a.map sg = b.map sg := by simpa using e
  exact (List.map_inj_right fun x y => sg_inj).mp e2
theorem strOk_rs (bs : List Bool) : PyData.strOk (rs bs) = true := by
  show ((bs.map sg).toArray).all (· < 0x110000) = true
  rw [List.all_toArray, List.all_map, List.all_eq_true]
  intro b _
  cases b <;> decide
theorem sh_rt (bs : List Bool) : SeqAt.shaped (rt bs) = true := shaped_of (by show PyData.canLay0 (.str (rs bs)) = true; simp only [PyData.canLay0]; exact strOk_rs bs) (by show PyData.depth (.str (rs bs)) ≤ 64; simp only [PyData.depth]; omega)
theorem eqv_rt (a b : List Bool) : PyData.eqv (rt a) (rt b) = decide (a = b) := by
  show (rs a == rs b) = _
  rw [Bool.eq_iff_iff, beq_iff_eq, decide_eq_true_iff]
  exact ⟨rs_inj, fun h => by rw [h]⟩
theorem eq_rt (a b : List Bool) : gEq (rt a) (rt b) = M.ret (.bool (decide (a = b))) := by
  unfold gEq
  rw [sh_rt, sh_rt, eqv_rt]
  rfl
theorem ne_rt (a b : List Bool) : gNe (rt a) (rt b) = M.ret (.bool (!decide (a = b))) := by
  unfold gNe
  rw [sh_rt, sh_rt, eqv_rt]
  rfl
theorem sg_rt (b : Bool) : sgD b = rt [b] := rfl
theorem eq_sg (b : Bool) : gEq (sgD b) (.str "#") = M.ret (.bool b) := by
  rw [dot_sg, sg_rt, sg_rt, eq_rt]
  cases b <;> rfl
theorem ne_sg (b : Bool) : gNe (sgD b) (.str "#") = M.ret (.bool (!b)) := by
  rw [dot_sg, sg_rt, sg_rt, ne_rt]
  cases b <;> rfl
theorem sh_sgs : SeqAt.shaped (.tuple [sgD true, sgD false]) = true := by
  refine shaped_of ?_ ?_
  · simp only [PyData.canLay0, PyData.canLayAll0, sgD]
    have h1 := strOk_rs [true]
    have h2 := strOk_rs [false]
    have e1 : rs [true] = ⟨#[sg true]⟩ := rfl
    have e2 : rs [false] = ⟨#[sg false]⟩ := rfl
    rw [e1] at h1
    rw [e2] at h2
    rw [h1, h2]
    rfl
  · simp only [PyData.depth, PyData.depthAll, sgD]
    omega
theorem in_sg (b : Bool) : gIn (sgD b) (.tuple [.str "#", .str "."]) = M.ret (.bool true) := by
  rw [dot_sg, blank_sg]
  show (if (SeqAt.shaped (sgD b) && SeqAt.shaped (.tuple [sgD true, sgD false])) = true then M.ret (PyData.bool ([sgD true, sgD false].any fun z => PyData.eqv z (sgD b))) else M.no) = _
  rw [sh_sgs, sg_rt b, sh_rt]
  have e : ([sgD true, sgD false].any fun z => PyData.eqv z (rt [b])) = true := by
    show (PyData.eqv (rt [true]) (rt [b]) || (PyData.eqv (rt [false]) (rt [b]) || false)) = true
    rw [eqv_rt, eqv_rt]
    cases b <;> rfl
  rw [e]
  rfl
theorem range_map {n : Nat} (h : n ≤ 1000) : oRg1 [.int (n : Int)] = some ((List.range n).map fun i : Nat => .int (i : Int)) := by
  show (if rgOk 0 (n : Int) = true then some (rgD 0 (n : Int).toNat) else none) = _
  rw [if_pos (show rgOk 0 (n : Int) = true from decide_eq_true (by omega))]
  unfold rgD
  simp
end DL
end L2

set_option Elab.async false
set_option linter.all false
set_option maxRecDepth 100000
/-! draws -/
namespace L2
namespace DL
open PySem
/-- object n is a source of draws -/
def Src (S : Wd) (n : Nat) : Prop := ∃ a b : Int, S[n]? = some (.lst [.int a, .int b]) ∧ 0 ≤ b ∧ b < 2147483647
theorem bind_ap {α β : Type} (m : M α) (f : α → M β) (S : Wd) : M.bind m f S = (m S).thn f := rfl
theorem thn_ok {α β : Type} (a : α) (S : Wd) (f : α → M β) : (R.ok a S).thn f = f a S := rfl
theorem ret_ap {α : Type} (a : α) (S : Wd) : M.ret a S = .ok a S := rfl
theorem lft_ap {α : Type} {m : M α} {τ : Ste} {k : α → M (Fl × Ste)} {S S' : Wd} {a : α} (h : m S = .ok a S') : lft m τ k S = k a S' := by
  unfold lft
  rw [h]
theorem ixh {S : Wd} {n : Nat} {ds : List D} {i : Int} {d : D} (h : S[n]? = some (.lst ds)) (e : atI ds i = some d) : gIx (hnd n) (.int i) S = .ok d S := by
  show (match hOf (hnd n) with
    | some k => match S[k]? with
      | some (.lst ds) => ofO (atI ds i) S
      | none => .no
    | none => .no) = _
  rw [hOf_hnd]
  simp only [h, e]
  rfl
theorem gd_x2 {g : D → D → M D} {fa fb : Env' → M D} {ρ : Env'} {S : Wd} {Q : D → Wd → Prop} (h : Gd (fa ρ) S fun a S1 => Gd (fb ρ) S1 fun b S2 => Gd (g a b) S2 Q) : Gd (x2 g fa fb ρ) S Q :=
  gd_bind (gd_mono h fun a S1 h => gd_bind h)
theorem gd_x1 {g : D → M D} {fa : Env' → M D} {ρ : Env'} {S : Wd} {Q : D → Wd → Prop} (h : Gd (fa ρ) S fun a S1 => Gd (g a) S1 Q) : Gd (x1 g fa ρ) S Q := gd_bind h
theorem gd_bV {f : Env' → M D} {ρ : Env'} {S : Wd} {Q : Bool → Wd → Prop} (h : Gd (f ρ) S fun d S1 => ∃ b, d = .bool b ∧ Q b S1) : Gd (bV f ρ) S Q :=
  gd_bind (gd_mono h fun d S1 ⟨b, e, q⟩ => by subst e; exact gd_ret q)
theorem gd_eF {f : Env' → M (D × Bool)} {ρ : Env'} {S : Wd} {Q : D → Wd → Prop} (h : Gd (f ρ) S fun r S1 => Q r.1 S1) : Gd (eF f ρ) S Q := gd_bind (gd_mono h fun r S1 q => gd_ret q)
theorem gd_fE {f : Env' → M D} {ρ : Env'} {S : Wd} {Q : D × Bool → Wd → Prop} (h : Gd (f ρ) S fun d S1 => Q (d, false) S1) : Gd (fE f ρ) S Q := gd_bind (gd_mono h fun r S1 q => gd_ret q)
theorem gd_xCall {g : List D → M D} {fa : Env' → M (List D)} {ρ : Env'} {S : Wd} {Q : D → Wd → Prop} (h : Gd (fa ρ) S fun ds S1 => Gd (g ds) S1 Q) : Gd (xCall g fa ρ) S Q := gd_bind h
theorem gd_cons {f : Env' → M D} {g : Env' → M (List D)} {ρ : Env'} {S : Wd} {Q : List D → Wd → Prop} (h : Gd (f ρ) S fun d S1 => Gd (g ρ) S1 fun ds S2 => Q (d :: ds) S2) : Gd (aCons f g ρ) S Q :=
  gd_bind (gd_mono h fun d S1 h => gd_bind (gd_mono h fun ds S2 q => gd_ret q))
theorem gd_nil {ρ : Env'} {S : Wd} {Q : List D → Wd → Prop} (h : Q [] S) : Gd (aNil ρ) S Q := gd_ret h
theorem gd_var {i : Nat} {ρ : Env'} {S : Wd} {Q : D → Wd → Prop} {d : D} (e : ρ[i]? = some (some d)) (h : Q d S) : Gd (xVar i ρ) S Q := gd_eq (xVar_get e) h
theorem gd_con {ρ : Env'} {S : Wd} {Q : D → Wd → Prop} {d : D} (h : Q d S) : Gd (xC d ρ) S Q := gd_ret h
theorem gd_xIf {c : Env' → M Bool} {f g : Env' → M D} {ρ : Env'} {S : Wd} {Q : D → Wd → Prop} (h : Gd (c ρ) S fun b S1 => (b = true → Gd (f ρ) S1 Q) ∧ (b = false → Gd (g ρ) S1 Q)) : Gd (xIf c f g ρ) S Q :=
  gd_bind (gd_mono h fun b S1 q => by
    cases b with
    | true => exact q.1 rfl
    | false => exact q.2 rfl)
theorem gd_xLst {f : Env' → M (List D)} {ρ : Env'} {S : Wd} {Q : D → Wd → Prop} (h : Gd (f ρ) S fun ds S1 => (ds.all nd && szOk ds.length) = true ∧ Q (.list ds) S1) : Gd (xLst f ρ) S Q :=
  gd_bind (gd_mono h fun ds S1 ⟨e, q⟩ => by simp only [e, if_true]; exact gd_ret q)
theorem gd_xTup {f : Env' → M (List D)} {ρ : Env'} {S : Wd} {Q : D → Wd → Prop} (h : Gd (f ρ) S fun ds S1 => (ds.all nd && szOk ds.length) = true ∧ Q (.tuple ds) S1) : Gd (xTup f ρ) S Q :=
  gd_bind (gd_mono h fun ds S1 ⟨e, q⟩ => by simp only [e, if_true]; exact gd_ret q)
theorem gd_fLst {f : Env' → M (List D)} {ρ : Env'} {S : Wd} {Q : D × Bool → Wd → Prop} (h : Gd (f ρ) S fun ds S1 => (ds.all nd && szOk ds.length) = true ∧ Q (.list ds, true) S1) : Gd (fLst f ρ) S Q :=
  gd_bind (gd_mono h fun ds S1 ⟨e, q⟩ => by simp only [e, if_true]; exact gd_ret q)
theorem gd_ixh {S : Wd} {n : Nat} {ds : List D} {i : Int} {d : D} {Q : D → Wd → Prop} (h : S[n]? = some (.lst ds)) (e : atI ds i = some d) (q : Q d S) : Gd (gIx (hnd n) (.int i)) S Q := ⟨d, S, ixh h e, q⟩
theorem gd_setH {i j : Nat} {f : Env' → M D} {τ : Ste} {S : Wd} {Q : Fl × Ste → Wd → Prop} {n : Nat} (e : τ.1[i]? = some (some (hnd n))) (h : Gd (f τ.1) S fun d S1 => flat d = true ∧ ∃ ds, S1[n]? = some (.lst ds) ∧ j < ds.length ∧ Q (.nx, τ) (S1.set n (.lst (ds.set j d)))) : Gd (sSetH i j f τ) S Q :=
  gd_lft (gd_mono h fun d S1 ⟨hf, ds, e1, hj, q⟩ => by
    refine ⟨(.nx, τ), S1.set n (.lst (ds.set j d)), ?_, q⟩
    simp only [e, hOf_hnd, e1, hf, decide_eq_true hj, Bool.and_true, if_true])
theorem ite_ap {α : Type} {c : Prop} [Decidable c] {f g : M α} {S : Wd} {r : R α} (h : c) (e : f S = r) : (if c then f else g) S = r := by
  rw [if_pos h]
  exact e
theorem gd_adopt {i : Nat} {f : Env' → M (D × Bool)} {τ : Ste} {S : Wd} {Q : Fl × Ste → Wd → Prop} (hi : i < τ.1.length) (h : Gd (f τ.1) S fun r S1 => r.2 = true ∧ ∃ es, r.1 = .list es ∧ flatAll es = true ∧ Q (.nx, (τ.1.set i (some (hnd S1.length)), τ.2.filter (· != i))) (S1 ++ [.lst es])) : Gd (sAdopt i f τ) S Q :=
  gd_lft (gd_mono h fun r S1 ⟨e1, es, e2, e3, q⟩ => by
    refine ⟨_, _, ?_, q⟩
    obtain ⟨d, fr⟩ := r
    simp only at e1 e2
    subst e1 e2
    have c : (true && flatL (.list es) && decide (i < τ.1.length)) = true := by
      rw [show flatL (.list es) = true from e3, decide_eq_true hi]
      rfl
    exact ite_ap c rfl)
theorem gd_par2 {i j : Nat} {f : Env' → M (List D)} {τ : Ste} {S : Wd} {Q : Fl × Ste → Wd → Prop} (hi : i < τ.1.length ∧ j < τ.1.length) (h : Gd (f τ.1) S fun ds S1 => ∃ x y, ds = [x, y] ∧ Q (.nx, asg j (y, false) (asg i (x, false) τ)) S1) : Gd (sPar2 i j f τ) S Q :=
  gd_lft (gd_mono h fun ds S1 ⟨x, y, e, q⟩ => by
    subst e
    simp only [decide_eq_true hi, if_true]
    exact gd_ret q)
theorem gd_sAsg {f : Env' → M D} {gt : D → Env' → Option Env'} {is : List Nat} {τ : Ste} {S : Wd} {Q : Fl × Ste → Wd → Prop} (h : Gd (f τ.1) S fun d S1 => ∃ τ1, asgT gt is d τ = some τ1 ∧ Q (.nx, τ1) S1) : Gd (sAsg f gt is τ) S Q :=
  gd_lft (gd_mono h fun d S1 ⟨τ1, e, q⟩ => by
    simp only [e]
    exact gd_ret q)
theorem gd_drop {f : Env' → M D} {τ : Ste} {S : Wd} {Q : Fl × Ste → Wd → Prop} (h : Gd (f τ.1) S fun _ S1 => Q (.nx, τ) S1) : Gd (sDrop f τ) S Q := gd_lft (gd_mono h fun d S1 q => gd_ret q)
theorem gd_bAnd {f g : Env' → M Bool} {ρ : Env'} {S : Wd} {Q : Bool → Wd → Prop} (h : Gd (f ρ) S fun b S1 => (b = true → Gd (g ρ) S1 Q) ∧ (b = false → Q false S1)) : Gd (bAnd f g ρ) S Q :=
  gd_bind (gd_mono h fun b S1 q => by
    cases b with
    | true => exact q.1 rfl
    | false => exact gd_ret (q.2 rfl))
theorem gd_bOr {f g : Env' → M Bool} {ρ : Env'} {S : Wd} {Q : Bool → Wd → Prop} (h : Gd (f ρ) S fun b S1 => (b = true → Q true S1) ∧ (b = false → Gd (g ρ) S1 Q)) : Gd (bOr f g ρ) S Q :=
  gd_bind (gd_mono h fun b S1 q => by
    cases b with
    | true => exact gd_ret (q.1 rfl)
    | false => exact q.2 rfl)
/-- the source's change -/
theorem src_set {S : Wd} {n : Nat} {a b : Int} (hn : n < S.length) (h0 : 0 ≤ b) (h1 : b < 2147483647) : Src (S.set n (.lst [.int a, .int b])) n := ⟨a, b, List.getElem?_set_self hn, h0, h1⟩
theorem src_lt {S : Wd} {n : Nat} (h : Src S n) : n < S.length := by
  obtain ⟨a, b, e, _⟩ := h
  exact (List.getElem?_eq_some_iff.mp e).1
end DL
end L2
namespace L2
namespace DL
open PySem
theorem app_sg (ms : List (List Int)) (bs : List Bool) : (app ms bs).map sgD = (List.range bs.length).map fun i : Nat => sgD (hd ms bs (i : Int)) := by
  unfold app
  rw [List.map_map]
  rfl
theorem iA_rg {f : Env' → M (List D)} {ρ : Env'} {n : Nat} (h : f ρ = M.ret [.int (n : Int)]) (hn : n ≤ 1000) : iA oRg1 f ρ = M.ret ((List.range n).map fun i : Nat => .int (i : Int)) := by
  unfold iA
  rw [h, M.ret_bind, range_map hn]
  rfl
theorem mod_len {n : Nat} (h : 0 < n) (i : Int) : gMod (.int i) (.int (n : Int)) = M.ret (.int (i % (n : Int))) := by
  show (if decide (0 < (n : Int)) = true then M.ret (PyData.int (i % (n : Int))) else M.no) = _
  rw [if_pos (decide_eq_true (by omega))]
theorem rev_mkI (m : List Int) : gRev (mkI m) = M.ret (mkI m.reverse) := by
  show M.ret (PyData.tuple (m.map PyData.int).reverse) = _
  rw [← List.map_reverse]
  rfl
theorem nin_mkI (o : Int) (b : List Int) : gNotIn (.int o) (mkI b) = M.ret (.bool (!b.contains o)) := by
  have e : gIn (.int o) (mkI b) = M.ret (.bool (b.contains o)) := by
    show (if (SeqAt.shaped (.int o) && SeqAt.shaped (.tuple (b.map .int))) = true then M.ret (PyData.bool ((b.map PyData.int).any fun z => PyData.eqv z (.int o))) else M.no) = _
    have h1 : SeqAt.shaped (.tuple (b.map .int)) = true := sh_mkI b
    rw [h1]
    have h2 : ((b.map PyData.int).any fun z => PyData.eqv z (.int o)) = b.contains o := by
      rw [List.any_map, List.contains_eq_any_beq]
      congr 1
      funext z
      show (z == o) = (o == z)
      rw [Bool.eq_iff_iff, beq_iff_eq, beq_iff_eq]
      exact eq_comm
    rw [h2]
    rfl
  unfold gNotIn
  rw [e]
  rfl
theorem eqvAll_nil (l : List D) : PyData.eqvAll l [] = l.isEmpty := by
  cases l <;> simp [PyData.eqvAll]
theorem eq_nil_list (l : List Int) : gEq (.list (l.map .int)) (.list []) = M.ret (.bool l.isEmpty) := by
  unfold gEq
  rw [sh_lI, show SeqAt.shaped (.list []) = true from sh_lI []]
  show M.ret (PyData.bool (PyData.eqv (.list (l.map .int)) (.list []))) = _
  simp only [PyData.eqv]
  rw [eqvAll_nil]
  cases l <;> rfl
theorem eq_nil_mkI (l : List (List Int)) : gEq (.list (l.map mkI)) (.list []) = M.ret (.bool l.isEmpty) := by
  unfold gEq
  rw [sh_lF, show SeqAt.shaped (.list []) = true from sh_lF []]
  show M.ret (PyData.bool (PyData.eqv (.list (l.map mkI)) (.list []))) = _
  simp only [PyData.eqv]
  rw [eqvAll_nil]
  cases l <;> rfl
theorem filter_any_nil {α : Type} (p : α → Bool) (l : List α) : (l.filter p).isEmpty = !l.any p := by
  rw [Bool.eq_iff_iff, List.isEmpty_iff, List.filter_eq_nil_iff, Bool.not_eq_true', List.any_eq_false]
theorem filter_nil_iff (a b : List Int) : (a.filter fun o => !b.contains o).isEmpty = sub a b := by
  rw [filter_any_nil, Bool.eq_iff_iff, Bool.not_eq_true', List.any_eq_false, sub_iff]
  constructor
  · intro h x hx
    have := h x hx
    simpa using this
  · intro h x hx
    simp [h x hx]
theorem flat_mkP (i : Int) (ns : List Int) : flat (mkP (i :: ns)) = true := by
  show flat (.tuple [.int i, mkI ns]) = true
  simp only [flat, flatAll, flat_mkI]
  rfl
theorem flatAll_mkP : ∀ ms : List (List Int), flatAll (ms.map fun m => mkP ((m.length : Int) :: m)) = true
  | [] => rfl
  | m :: ms => by simp only [List.map_cons, flatAll, flat_mkP, flatAll_mkP ms]; rfl
end DL
end L2

set_option Elab.async false
set_option linter.all false
set_option maxRecDepth 100000
/-! what draws give -/
namespace L2
namespace DL
open PySem
theorem gd_ix0 {ρ : Env'} {S : Wd} {n : Nat} {a b : Int} {Q : D → Wd → Prop} (e0 : ρ[0]? = some (some (hnd n))) (e : S[n]? = some (.lst [.int a, .int b])) (q : Q (.int a) S) : Gd (x2 gIx (xVar 0) (xC (.int 0)) ρ) S Q :=
  gd_x2 (gd_var e0 (gd_con (gd_ixh e rfl q)))
theorem gd_ix1 {ρ : Env'} {S : Wd} {n : Nat} {a b : Int} {Q : D → Wd → Prop} (e0 : ρ[0]? = some (some (hnd n))) (e : S[n]? = some (.lst [.int a, .int b])) (q : Q (.int b) S) : Gd (x2 gIx (xVar 0) (xC (.int 1)) ρ) S Q :=
  gd_x2 (gd_var e0 (gd_con (gd_ixh e rfl q)))
theorem mod_int {i j : Int} (h : 0 < j) : gMod (.int i) (.int j) = M.ret (.int (i % j)) := by
  show (if decide (0 < j) = true then M.ret (PyData.int (i % j)) else M.no) = _
  rw [if_pos (decide_eq_true h)]
theorem fdiv_int {i j : Int} (h : 0 < j ∧ j < 1152921504606846976) : gFdiv (.int i) (.int j) = M.ret (.int (i / j)) := by
  show (if decide (0 < j ∧ j < 1152921504606846976) = true then M.ret (PyData.int (i / j)) else M.no) = _
  rw [if_pos (decide_eq_true h)]
theorem mulA_int {i j : Int} (h : 0 ≤ i ∧ i < 18446744073709551616) : gMulA (.int i) (.int j) = M.ret (.int (i * j)) := mul_ok h
theorem mulA_int2 {i j : Int} (h : 0 ≤ j ∧ j < 18446744073709551616) : gMulA (.int i) (.int j) = M.ret (.int (i * j)) := by
  show (if mulOk i j = true then M.ret (PyData.int (i * j)) else M.no) = _
  rw [if_pos]
  unfold mulOk
  rw [decide_eq_true (show -(18446744073709551616 : Int) < j by omega), decide_eq_true h.2]
  simp
theorem gd_item {gt : D → Env' → Option Env'} {ft : Env' → M Bool} {fe : Env' → M D} {ρ ρ' : Env'} {d : D} {S : Wd} {Q : Option D → Wd → Prop} (e : gt d ρ = some ρ') (h : Gd (ft ρ') S fun b S1 => (b = true → Gd (fe ρ') S1 fun x S2 => nd x = true ∧ Q (some x) S2) ∧ (b = false → Q none S1)) : Gd (lcItem gt ft fe ρ d) S Q := by
  unfold lcItem
  rw [e]
  refine gd_bind (gd_mono h fun b S1 q => ?_)
  cases b with
  | true =>
    exact gd_bind (gd_mono (q.1 rfl) fun x S2 ⟨n, q⟩ => by simp only [n, if_true]; exact gd_ret q)
  | false => exact gd_ret (q.2 rfl)
theorem gd_yes {ρ : Env'} {S : Wd} {Q : Bool → Wd → Prop} (h : Q true S) : Gd (fYes ρ) S Q := gd_ret h
theorem gd_iA {o : List D → Option (List D)} {f : Env' → M (List D)} {ρ : Env'} {S : Wd} {Q : List D → Wd → Prop} (h : Gd (f ρ) S fun ds S1 => ∃ es, o ds = some es ∧ Q es S1) : Gd (iA o f ρ) S Q :=
  gd_bind (gd_mono h fun ds S1 ⟨es, e, q⟩ => gd_eq (by rw [e]; rfl) q)
theorem range2_map {lo hi : Int} (h1 : -1000 ≤ lo) (h2 : hi ≤ 1000) (h3 : lo ≤ hi) : oRg2 [.int lo, .int hi] = some ((List.range (hi - lo).toNat).map fun i : Nat => .int (lo + (i : Int))) := by
  show (if rgOk lo hi = true then some (rgD lo (hi - lo).toNat) else none) = _
  rw [if_pos (show rgOk lo hi = true from decide_eq_true (by omega))]
  rfl
/-- of the items some are taken -/
theorem paired_sub {f : Nat → Int} : ∀ {as : List Nat} {os : List (Option D)}, Paired (fun a o => o = none ∨ o = some (PyData.int (f a))) as os → ∃ m : List Int, os.filterMap id = m.map .int ∧ m.Sublist (as.map f)
  | _, _, .nil => ⟨[], rfl, List.Sublist.refl _⟩
  | _, _, .cons h t => by
    obtain ⟨m, e, s⟩ := paired_sub t
    rcases h with rfl | rfl
    · exact ⟨m, e, s.cons _⟩
    · exact ⟨_ :: m, by rw [List.filterMap_cons]; exact congrArg (_ :: ·) e, s.cons_cons _⟩
/-- each item gives one of a kind -/
theorem paired_all {α β : Type} {f : β → D} {P : β → Prop} : ∀ {as : List α} {os : List (Option D)}, Paired (fun _ o => ∃ b, o = some (f b) ∧ P b) as os → ∃ bs : List β, os.filterMap id = bs.map f ∧ bs.length = as.length ∧ ∀ b, b ∈ bs → P b
  | _, _, .nil => ⟨[], rfl, rfl, fun _ h => by cases h⟩
  | _, _, .cons h t => by
    obtain ⟨bs, e, l, p⟩ := paired_all t
    obtain ⟨b, rfl, hb⟩ := h
    refine ⟨b :: bs, by rw [List.filterMap_cons]; exact congrArg (_ :: ·) e, by rw [List.length_cons, l, List.length_cons], fun c hc => ?_⟩
    rcases List.mem_cons.mp hc with rfl | hc
    · exact hb
    · exact p c hc
theorem asc_range (lo : Int) (n : Nat) : Asc ((List.range n).map fun i : Nat => lo + (i : Int)) := by
  unfold Asc
  rw [List.pairwise_map]
  exact List.pairwise_lt_range.imp fun {a b} h => by omega
theorem ne_nil_list (l : List Int) : gNe (.list (l.map .int)) (.list []) = M.ret (.bool (!l.isEmpty)) := by
  unfold gNe
  rw [sh_lI, show SeqAt.shaped (.list []) = true from sh_lI []]
  show M.ret (PyData.bool (!PyData.eqv (.list (l.map .int)) (.list []))) = _
  simp only [PyData.eqv]
  rw [eqvAll_nil]
  cases l <;> rfl
/-- a mask with offsets from -k to k -/
structure MaskIn (k : Int) (m : List Int) : Prop where
  asc : Asc m
  some : m ≠ []
  lo : ∀ o, o ∈ m → -k ≤ o
  hi : ∀ o, o ∈ m → o ≤ k
/-- a filter with offsets from a to b -/
structure Filt (a b : Int) (ms : List (List Int)) : Prop where
  mks : Mks ms
  form : mins ms = ms
  few : ms.length ≤ 5
  lo : ∀ m, m ∈ ms → ∀ o, o ∈ m → a ≤ o
  hi : ∀ m, m ∈ ms → ∀ o, o ∈ m → o ≤ b
theorem mins_some {ms : List (List Int)} (h : ms ≠ []) (ha : ∀ m, m ∈ ms → Asc m) : mins ms ≠ [] := by
  have key : ∀ l : List (List Int), l ≠ [] → ∃ m, m ∈ l ∧ ∀ y, y ∈ l → m.length ≤ y.length := by
    intro l
    induction l with
    | nil => intro h; exact absurd rfl h
    | cons x l ih =>
      intro _
      by_cases c : l = []
      · subst c
        exact ⟨x, List.mem_cons_self, fun y hy => by
          rcases List.mem_cons.mp hy with rfl | hy
          · exact Nat.le_refl _
          · cases hy⟩
      · obtain ⟨m, hm, q⟩ := ih c
        by_cases d : x.length ≤ m.length
        · refine ⟨x, List.mem_cons_self, fun y hy => ?_⟩
          rcases List.mem_cons.mp hy with rfl | hy
          · exact Nat.le_refl _
          · exact Nat.le_trans d (q y hy)
        · refine ⟨m, List.mem_cons_of_mem _ hm, fun y hy => ?_⟩
          rcases List.mem_cons.mp hy with rfl | hy
          · omega
          · exact q y hy
  obtain ⟨m, hm, q⟩ := key ms h
  have : m ∈ mins ms := mins_mem.mpr ⟨hm, fun y hy hs => by
    rcases Classical.em (y = m) with e | e
    · exact e
    · have := sub_lt (ha y hy) (ha m hm) hs e
      have := q y hy
      omega⟩
  intro e
  rw [e] at this
  cases this
theorem filt_mins {k : Int} {ms : List (List Int)} (h : ms ≠ []) (hm : ∀ m, m ∈ ms → MaskIn k m) (hl : ms.length ≤ 5) : Filt (-k) k (mins ms) where
  mks := ⟨mins_some h fun m q => (hm m q).asc, fun m q => (hm m (mins_mem.mp q).1).asc, fun m q => (hm m (mins_mem.mp q).1).some⟩
  form := mins_idem ms
  few := by
    have l1 := srtU_len (lt := HT.lexLt) (ms.filter (lone sub ms))
    have l2 := List.length_filter_le (lone sub ms) ms
    show (srtU HT.lexLt (ms.filter (lone sub ms))).length ≤ 5
    omega
  lo := fun m q o ho => (hm m (mins_mem.mp q).1).lo o ho
  hi := fun m q o ho => (hm m (mins_mem.mp q).1).hi o ho
/-! moved masks -/
def mv (s : Int) (m : List Int) : List Int := m.map (· + s)
theorem lexLt_mv (s : Int) : ∀ a b : List Int, HT.lexLt (mv s a) (mv s b) = HT.lexLt a b
  | [], [] => rfl
  | [], _ :: _ => rfl
  | _ :: _, [] => rfl
  | x :: a, y :: b => by
    show HT.lexLt ((x + s) :: mv s a) ((y + s) :: mv s b) = _
    rw [HT.lexLt_cons, HT.lexLt_cons, lexLt_mv s a b]
    by_cases e : x = y
    · rw [if_pos e, if_pos (by omega)]
    · rw [if_neg e, if_neg (by omega)]
      exact decide_eq_decide.mpr (by omega)
theorem mem_mv {s x : Int} {m : List Int} : x ∈ mv s m ↔ x - s ∈ m := by
  unfold mv
  rw [List.mem_map]
  constructor
  · rintro ⟨y, hy, rfl⟩
    have e : y + s - s = y := by omega
    rw [e]; exact hy
  · intro h
    exact ⟨x - s, h, by omega⟩
theorem mv_inj {s : Int} {a b : List Int} (h : mv s a = mv s b) : a = b := (List.map_inj_right fun x y e => by omega).mp h
theorem sub_mv (s : Int) (a b : List Int) : sub (mv s a) (mv s b) = sub a b := by
  rw [Bool.eq_iff_iff, sub_iff, sub_iff]
  constructor
  · intro h x hx
    have := h (x + s) (mem_mv.mpr (by have e : x + s - s = x := by omega
                                      rw [e]; exact hx))
    have := mem_mv.mp this
    have e : x + s - s = x := by omega
    rw [e] at this
    exact this
  · intro h x hx
    exact mem_mv.mpr (h _ (mem_mv.mp hx))
theorem asc_mv {s : Int} {m : List Int} (h : Asc m) : Asc (mv s m) := by
  unfold Asc mv
  rw [List.pairwise_map]
  exact h.imp fun {a b} q => by omega
/-- what is in order stays so -/
theorem form_iff {ms : List (List Int)} : mins ms = ms ↔ ms.Pairwise (fun a b => HT.lexLt a b = true) ∧ ∀ x, x ∈ ms → ∀ y, y ∈ ms → sub y x = true → y = x := by
  constructor
  · intro e
    refine ⟨?_, fun x hx y hy hs => ?_⟩
    · rw [← e]
      exact srtU_sorted tot_lex _
    · rw [← e] at hx
      exact (mins_mem.mp hx).2 y hy hs
  · rintro ⟨h1, h2⟩
    have e : ms.filter (lone sub ms) = ms := List.filter_eq_self.mpr fun x hx => lone_iff.mpr fun y hy hs => h2 x hx y hy hs
    show srtU HT.lexLt (ms.filter (lone sub ms)) = ms
    rw [e]
    exact (srtU_uniq tot_lex (strict_nodup tot_lex h1) (fun z => Iff.rfl) (h1.imp fun {a b} q => tot_lex.asym q)).symm
theorem Filt.mv {a b s : Int} {ms : List (List Int)} (h : Filt a b ms) : Filt (a + s) (b + s) (ms.map (mv s)) where
  mks := ⟨by simp [h.mks.some], fun m hm => by
    obtain ⟨m', h', rfl⟩ := List.mem_map.mp hm
    exact asc_mv (h.mks.asc m' h'), fun m hm => by
    obtain ⟨m', h', rfl⟩ := List.mem_map.mp hm
    have := h.mks.full m' h'
    unfold DL.mv
    simp [this]⟩
  form := by
    obtain ⟨h1, h2⟩ := form_iff.mp h.form
    refine form_iff.mpr ⟨?_, fun x hx y hy hs => ?_⟩
    · rw [List.pairwise_map]
      exact h1.imp fun {a b} q => by rw [lexLt_mv]; exact q
    · obtain ⟨x', hx', rfl⟩ := List.mem_map.mp hx
      obtain ⟨y', hy', rfl⟩ := List.mem_map.mp hy
      rw [sub_mv] at hs
      rw [h2 x' hx' y' hy' hs]
  few := by rw [List.length_map]; exact h.few
  lo := fun m hm o ho => by
    obtain ⟨m', h', rfl⟩ := List.mem_map.mp hm
    have := h.lo m' h' _ (mem_mv.mp ho)
    omega
  hi := fun m hm o ho => by
    obtain ⟨m', h', rfl⟩ := List.mem_map.mp hm
    have := h.hi m' h' _ (mem_mv.mp ho)
    omega
theorem Filt.span {a b : Int} {ms : List (List Int)} (h : Filt a b ms) (hs : b - a ≤ 8) : span ms ≤ 8 := Int.le_trans (h.mks.span_le fun m hm o ho => ⟨h.lo m hm o ho, h.hi m hm o ho⟩) hs
/-! mirrored masks -/
def ng (m : List Int) : List Int := m.reverse.map fun o => -o
theorem mem_ng {x : Int} {m : List Int} : x ∈ ng m ↔ -x ∈ m := by
  unfold ng
  rw [List.mem_map]
  constructor
  · rintro ⟨y, hy, rfl⟩
    rw [Int.neg_neg]
    exact List.mem_reverse.mp hy
  · intro h
    exact ⟨-x, List.mem_reverse.mpr h, Int.neg_neg x⟩
theorem asc_ng {m : List Int} (h : Asc m) : Asc (ng m) := by
  unfold Asc ng
  rw [List.pairwise_map, List.pairwise_reverse]
  exact h.imp fun {a b} q => by omega
theorem ng_ng (m : List Int) : ng (ng m) = m := by
  unfold ng
  rw [← List.map_reverse, List.reverse_reverse, List.map_map]
  have : ((fun o : Int => -o) ∘ fun o => -o) = id := by
    funext o
    show - -o = o
    omega
  rw [this, List.map_id]
theorem ng_inj {a b : List Int} (h : ng a = ng b) : a = b := by rw [← ng_ng a, h, ng_ng]
theorem sub_ng (a b : List Int) : sub (ng a) (ng b) = sub a b := by
  rw [Bool.eq_iff_iff, sub_iff, sub_iff]
  constructor
  · intro h x hx
    have := mem_ng.mp (h (-x) (mem_ng.mpr (by rw [Int.neg_neg]; exact hx)))
    rw [Int.neg_neg] at this
    exact this
  · intro h x hx
    exact mem_ng.mpr (h _ (mem_ng.mp hx))
theorem Filt.mirror {a b : Int} {ms : List (List Int)} (h : Filt a b ms) : Filt (-b) (-a) (srtG HT.lexLt (ms.map ng)) := by
  have pm := srtG_perm (lt := HT.lexLt) (ms.map ng)
  have mem : ∀ m, m ∈ srtG HT.lexLt (ms.map ng) ↔ ∃ m', m' ∈ ms ∧ ng m' = m := fun m => by rw [pm.mem_iff, List.mem_map]
  obtain ⟨h1, h2⟩ := form_iff.mp h.form
  have nd : (srtG HT.lexLt (ms.map ng)).Nodup := pm.nodup_iff.mpr (List.pairwise_map.mpr ((strict_nodup tot_lex h1).imp fun {a b} ne e => ne (ng_inj e)))
  refine ⟨⟨?_, fun m hm => ?_, fun m hm => ?_⟩, form_iff.mpr ⟨?_, fun x hx y hy hs => ?_⟩, ?_, fun m hm o ho => ?_, fun m hm o ho => ?_⟩
  · intro e
    have := pm.length_eq
    rw [e, List.length_map] at this
    exact h.mks.some (List.eq_nil_of_length_eq_zero this.symm)
  · obtain ⟨m', h', rfl⟩ := (mem m).mp hm
    exact asc_ng (h.mks.asc m' h')
  · obtain ⟨m', h', rfl⟩ := (mem m).mp hm
    have := h.mks.full m' h'
    unfold ng
    simp [this]
  · have s := srtG_sorted tot_lex (ms.map ng)
    refine (List.pairwise_and_iff.mpr ⟨s, nd⟩).imp fun {a b} q => ?_
    rcases tot_lex.cmp a b with c | c | c
    · exact c
    · exact absurd c q.2
    · rw [q.1] at c; cases c
  · obtain ⟨x', hx', rfl⟩ := (mem x).mp hx
    obtain ⟨y', hy', rfl⟩ := (mem y).mp hy
    rw [sub_ng] at hs
    rw [h2 x' hx' y' hy' hs]
  · rw [pm.length_eq, List.length_map]
    exact h.few
  · obtain ⟨m', h', rfl⟩ := (mem m).mp hm
    have := h.hi m' h' _ (mem_ng.mp ho)
    omega
  · obtain ⟨m', h', rfl⟩ := (mem m).mp hm
    have := h.lo m' h' _ (mem_ng.mp ho)
    omega
end DL
end L2
namespace L2
namespace DL
open PySem
theorem sgs1 : (PyData.str "#." : D) = rt [true, false] := congrArg PyData.str (by decide)
theorem sgs2 : (PyData.str "##." : D) = rt [true, true, false] := congrArg PyData.str (by decide)
theorem sgs3 : (PyData.str "#.." : D) = rt [true, false, false] := congrArg PyData.str (by decide)
theorem sgs4 : (PyData.str "####." : D) = rt [true, true, true, true, false] := congrArg PyData.str (by decide)
theorem ring_signs {d : D} (h : d ∈ [PyData.str "#.", .str "##.", .str "#..", .str "####."]) : ∃ b0 : List Bool, d = rt b0 ∧ 0 < b0.length ∧ b0.length ≤ 1000 := by
  rw [sgs1, sgs2, sgs3, sgs4] at h
  simp only [List.mem_cons, List.not_mem_nil, or_false] at h
  rcases h with rfl | rfl | rfl | rfl
  · exact ⟨_, rfl, by decide, by decide⟩
  · exact ⟨_, rfl, by decide, by decide⟩
  · exact ⟨_, rfl, by decide, by decide⟩
  · exact ⟨_, rfl, by decide, by decide⟩
theorem list_rt {bs : List Bool} (h : bs.length ≤ 1000) : gO oListS [rt bs] = M.ret (.list (bs.map sgD)) := by
  show ofO (if szOk (rs bs).length = true then some (PyData.list ((rs bs).cps.toList.map sgn)) else none) = _
  rw [rs_len, if_pos (sz_le (by omega))]
  show M.ret (PyData.list (((bs.map sg).toArray.toList).map sgn)) = _
  rw [List.map_map]
  rfl
end DL
end L2
namespace L2
namespace DL
open PySem
theorem int_ev (i : Int) : gO oInt [.int i] = M.ret (.int i) := rfl
theorem len_ev (ds : List D) : gO oLen [.list ds] = M.ret (.int (ds.length : Int)) := rfl
theorem tup_ev (ds : List D) : gO oTuple [.list ds] = M.ret (.tuple ds) := rfl
end DL
end L2
namespace L2
namespace DL
open PySem
theorem one_add (j : Nat) : gAdd (.int 1) (.int (j : Int)) = M.ret (.int ((j + 1 : Nat) : Int)) := by
  rw [add_int]
  congr 2
  omega
theorem gd_xJoin {fa fb : Env' → M D} {ρ : Env'} {S : Wd} {Q : D → Wd → Prop} (h : Gd (fa ρ) S fun a S1 => ∃ z, a = .str z ∧ Gd (fb ρ) S1 fun b S2 => Gd (gJoin z b) S2 Q) : Gd (xJoin fa fb ρ) S Q :=
  gd_bind (gd_mono h fun a S1 ⟨z, e, q⟩ => by subst e; exact gd_bind q)
theorem ix_list {ns : List Int} {k : Nat} (h : k < ns.length) : gIx (.list (ns.map .int)) (.int (k : Int)) = M.ret (.int ns[k]) := by
  show ofO (atI (ns.map PyData.int) (k : Int)) = _
  unfold atI ixN
  rw [List.length_map, if_pos (by omega), if_pos (by omega)]
  show ofO ((ns.map PyData.int)[(k : Int).toNat]?) = _
  rw [Int.toNat_natCast, List.getElem?_map, List.getElem?_eq_getElem h]
  rfl
theorem abs_ev (i : Int) : gO oAbs [.int i] = M.ret (.int (if i < 0 then -i else i)) := rfl
theorem pow_18 : gPow (.int 10) (.int 18) = M.ret (.int 1000000000000000000) := rfl
end DL
end L2
namespace L2
namespace DL
open PySem
theorem len_rtE {bs : List Bool} (h : bs.length ≤ 1000) : gO oLen [rt bs] = M.ret (.int (bs.length : Int)) := by
  unfold gO
  rw [len_rt h]
  rfl
theorem not_any_not {α : Type} (p : α → Bool) (l : List α) : (!l.any fun x => !p x) = l.all p := by
  induction l with
  | nil => rfl
  | cons a l ih => rw [List.any_cons, List.all_cons, Bool.not_or, Bool.not_not, ih]
theorem any_snoc {α : Type} (p : α → Bool) (l : List α) (a : α) : (l ++ [a]).any p = (l.any p || p a) := by
  rw [List.any_append]
  simp
theorem snoc_rt {bs : List Bool} {b : Bool} {d : D} (h : bs.length < 1000) (e : d = sgD b) : gAdd (rt bs) d = M.ret (rt (bs ++ [b])) := by
  rw [e, sg_rt, add_rt (by simp; omega)]
end DL
end L2
namespace L2
namespace DL
open PySem
theorem gd_check {c : Env' → M Bool} {g : Ste → M (Fl × Ste)} {τ : Ste} {S : Wd} {Q : Fl × Ste → Wd → Prop} (h : Gd (c τ.1) S fun b S1 => b = false ∧ Q (.nx, τ) S1) : Gd (sIf c g sPass τ) S Q :=
  gd_if (gd_mono h fun b S1 ⟨e, q⟩ => ⟨fun z => (by rw [e] at z; cases z), fun _ => gd_pass q⟩)
theorem gd_xSl {fa : Env' → M D} {fl fh : Env' → M (Option Int)} {ρ : Env'} {S : Wd} {Q : D → Wd → Prop} (h : Gd (fa ρ) S fun x S1 => Gd (fl ρ) S1 fun l S2 => Gd (fh ρ) S2 fun u S3 => Gd (gSl x l u) S3 Q) : Gd (xSl fa fl fh ρ) S Q :=
  gd_bind (gd_mono h fun x S1 h => gd_bind (gd_mono h fun l S2 h => gd_bind h))
theorem gd_fO {f : Env' → M D} {ρ : Env'} {S : Wd} {Q : Option Int → Wd → Prop} (h : Gd (f ρ) S fun d S1 => ∃ i, d = .int i ∧ Q (some i) S1) : Gd (fO f ρ) S Q :=
  gd_bind (gd_mono h fun d S1 ⟨i, e, q⟩ => by subst e; exact gd_ret q)
theorem gd_fNo {ρ : Env'} {S : Wd} {Q : Option Int → Wd → Prop} (h : Q none S) : Gd (fNo ρ) S Q := gd_ret h
theorem twice_flat (bs : List Bool) : (List.replicate 2 bs).flatten = bs ++ bs := by
  simp [List.replicate_succ]
theorem twice_len (bs : List Bool) : (List.replicate 2 bs).flatten.length = bs.length + bs.length := by
  rw [twice_flat, List.length_append]
theorem signs_it : itD (.str "#.") = some ([true, false].map sgD) := by
  rw [sgs1]
  exact it_rt (by decide)
theorem rep_one (n : Nat) (b : Bool) : (List.replicate n [b]).flatten = List.replicate n b := by
  induction n with
  | zero => rfl
  | succ n ih => rw [List.replicate_succ, List.flatten_cons, ih, List.replicate_succ]; rfl
theorem mul_sg {n : Nat} {b : Bool} (h : n ≤ 1000) : gMulA (sgD b) (.int (n : Int)) = M.ret (rt (List.replicate n b)) := by
  rw [sg_rt, mul_rt (by simp; omega) h, rep_one]
theorem still_mks : Mks [[0]] := ⟨by decide, fun m hm => by rw [List.mem_singleton.mp hm]; exact List.pairwise_singleton _ _, fun m hm => by rw [List.mem_singleton.mp hm]; decide⟩
theorem Filt.mirror_span {a b : Int} {ms : List (List Int)} (h : Filt a b ms) (hs : DL.span ms ≤ 8) : DL.span (srtG HT.lexLt (ms.map ng)) ≤ 8 := by
  have hm := h.mirror
  refine Int.le_trans (hm.mks.span_le (a := -highL ms) (b := -lowL ms) fun m q o ho => ?_) (by
    have : highL ms - lowL ms ≤ 8 := hs
    omega)
  obtain ⟨m', h', rfl⟩ := List.mem_map.mp ((srtG_perm _).mem_iff.mp q)
  have ho' := mem_ng.mp ho
  have h1 := h.mks.low_le h' ho'
  have h2 := h.mks.le_high h' ho'
  omega
theorem min_10 (n : Nat) : gO oMin [.int (n : Int), .int 10] = M.ret (.int ((min n 10 : Nat) : Int)) := by
  show M.ret (PyData.int (if (10 : Int) < (n : Int) then 10 else (n : Int))) = _
  congr 2
  split <;> omega
end DL
end L2
namespace L2
namespace DL
open PySem
instance (m : List Int) : Decidable (Asc m) := by unfold Asc; infer_instance
theorem gd_xAnd {fa fb : Env' → M D} {ρ : Env'} {S : Wd} {Q : D → Wd → Prop} (h : Gd (fa ρ) S fun d S1 => ∃ b, d = .bool b ∧ (b = true → Gd (fb ρ) S1 Q) ∧ (b = false → Q (.bool false) S1)) : Gd (xAnd fa fb ρ) S Q :=
  gd_bind (gd_mono h fun d S1 ⟨b, e, q1, q2⟩ => by
    subst e
    refine gd_bind (gd_ret ?_)
    cases b with
    | true => exact q1 rfl
    | false => exact gd_ret (q2 rfl))
theorem same_ne {bs : List Bool} {s : Str} (e : s = rs bs) : gNe (.str s) (.str s) = M.ret (.bool false) := by
  subst e
  have := ne_rt bs bs
  rw [decide_eq_true rfl] at this
  exact this
theorem same_eq {bs : List Bool} {s : Str} (e : s = rs bs) : gEq (.str s) (.str s) = M.ret (.bool true) := by
  subst e
  have := eq_rt bs bs
  rw [decide_eq_true rfl] at this
  exact this
end DL
end L2

set_option Elab.async false
set_option linter.all false
set_option maxRecDepth 100000
set_option maxHeartbeats 4000000
namespace L2
namespace DL
namespace Lw
open PySem PySem.Spec PyProof.Rows
def C_MOST_SPAN : D := (.int 8)
def C_MOST_MASKS : D := (.int 130)
def C_MOST_PLACES : D := (.int 24)
def C_DOT : D := (.str "#")
def C_BLANK : D := (.str ".")
def C_BITS : D := (.tuple [(.int 1), (.int 2), (.int 4), (.int 8), (.int 16), (.int 32), (.int 64), (.int 128), (.int 256), (.int 512)])
def b_is_integer : Ste → M (Fl × Ste) := (sRet (fE (xAnd (x1 (gIsi tInt) (xVar 0)) (xNot (x1 (gIsi tBool) (xVar 0))))))
def F_is_integer : List D → M (D × Bool) := fnM 1 b_is_integer
def b_is_offsets : Ste → M (Fl × Ste) := (sSeq (sIf (bOr (bNot (bV (x1 (gIsi tTuple) (xVar 0)))) (bOr (bV (x2 gEq (xVar 0) (xTup aNil))) (bNot (bV (xCall (gO oAll) (aCons (xLc (iD (xVar 0)) (gN 1) [1] fYes (eF (fFn F_is_integer 1 (aCons (xVar 1) aNil)))) aNil)))))) (sRet (fE (xC (.bool false)))) sPass)
    (sRet (fE (xCall (gO oAll) (aCons (xLc (iA oZip (aCons (xVar 0) (aCons (xSl (xVar 0) (fO (xC (.int 1))) fNo) aNil))) (gN2 2 3) [2, 3] fYes (x2 gLt (xVar 2) (xVar 3))) aNil)))))
def F_is_offsets : List D → M (D × Bool) := fnM 4 b_is_offsets
def b_spread : Ste → M (Fl × Ste) := (sRet (fE (x2 gSub (xCall (gO oMax) (aCons (xLc (iD (xVar 0)) (gN 1) [1] fYes (x2 gIx (xVar 1) (x1 gNeg (xC (.int 1))))) aNil)) (xCall (gO oMin) (aCons (xLc (iD (xVar 0)) (gN 1) [1] fYes (x2 gIx (xVar 1) (xC (.int 0)))) aNil)))))
def F_spread : List D → M (D × Bool) := fnM 2 b_spread
def b_is_masks : Ste → M (Fl × Ste) := (sSeq (sIf (bOr (bNot (bV (x1 (gIsi tTuple) (xVar 0)))) (bOr (bV (x2 gEq (xVar 0) (xTup aNil))) (bNot (bV (xCall (gO oAll) (aCons (xLc (iD (xVar 0)) (gN 1) [1] fYes (eF (fFn F_is_offsets 1 (aCons (xVar 1) aNil)))) aNil)))))) (sRet (fE (xC (.bool false)))) sPass)
    (sRet (fE (x2 gLe (eF (fFn F_spread 1 (aCons (xVar 0) aNil))) (xC C_MOST_SPAN)))))
def F_is_masks : List D → M (D × Bool) := fnM 2 b_is_masks
def b_number_of : Ste → M (Fl × Ste) := (sRet (fE (xCall (gO oSum) (aCons (xLc (iD (xVar 0)) (gN 2) [2] fYes (x2 gIx (xC C_BITS) (x2 gSub (xVar 2) (xVar 1)))) aNil))))
def F_number_of : List D → M (D × Bool) := fnM 3 b_number_of
def b_numbers_of : Ste → M (Fl × Ste) := (sRet (fE (xLc (iD (xVar 0)) (gN 2) [2] fYes (eF (fFn F_number_of 2 (aCons (xVar 2) (aCons (xVar 1) aNil)))))))
def F_numbers_of : List D → M (D × Bool) := fnM 3 b_numbers_of
def b_mask_of : Ste → M (Fl × Ste) := (sRet (fE (xCall (gO oTuple) (aCons (xLc (iA oEnum (aCons (xC C_BITS) aNil)) (gN2 2 3) [2, 3] (bV (x2 gEq (x2 gMod (x2 gFdiv (xVar 0) (xVar 3)) (xC (.int 2))) (xC (.int 1)))) (x2 gAdd (xVar 1) (xVar 2))) aNil))))
def F_mask_of : List D → M (D × Bool) := fnM 4 b_mask_of
def b_count_bits : Ste → M (Fl × Ste) := (sRet (fE (xCall (gO oLen) (aCons (xLc (iD (xC C_BITS)) (gN 1) [1] (bV (x2 gEq (x2 gMod (x2 gFdiv (xVar 0) (xVar 1)) (xC (.int 2))) (xC (.int 1)))) (xC (.int 1))) aNil))))
def F_count_bits : List D → M (D × Bool) := fnM 2 b_count_bits
def b_least : Ste → M (Fl × Ste) := (sSeq (sSet 1 (fLst aNil))
    (sSeq (sFor (fSorted (aCons (xLc (iD (x1 gSortedSet (xVar 0))) (gN 4) [4] fYes (xTup (aCons (eF (fFn F_count_bits 1 (aCons (xVar 4) aNil))) (aCons (xVar 4) aNil)))) aNil)) (gN2 2 3) [2, 3] (sIf (bNot (bV (xCall (gO oAny) (aCons (xLc (iD (xVar 1)) (gN 4) [4] fYes (x2 gEq (x2 gAnd (xVar 4) (xVar 3)) (xVar 4))) aNil)))) (sApp 1 (xVar 3)) sPass))
    (sRetV 1)))
def F_least : List D → M (D × Bool) := fnM 5 b_least
def b_form_by : Ste → M (Fl × Ste) := (sRet (fE (xCall (gO oTuple) (aCons (xCall (gO oSorted) (aCons (xLc (iD (eF (fFn F_least 1 (aCons (xVar 0) aNil)))) (gN 2) [2] fYes (eF (fFn F_mask_of 2 (aCons (xVar 2) (aCons (xVar 1) aNil))))) aNil)) aNil))))
def F_form_by : List D → M (D × Bool) := fnM 3 b_form_by
def b_low_of : Ste → M (Fl × Ste) := (sRet (fE (xCall (gO oMin) (aCons (xLc (iD (xVar 0)) (gN 1) [1] fYes (x2 gIx (xVar 1) (xC (.int 0)))) aNil))))
def F_low_of : List D → M (D × Bool) := fnM 2 b_low_of
def b_form_for : Ste → M (Fl × Ste) := (sSeq (sSet 1 (fFn F_low_of 1 (aCons (xVar 0) aNil)))
    (sRet (fFn F_form_by 2 (aCons (eF (fFn F_numbers_of 2 (aCons (xVar 0) (aCons (xVar 1) aNil)))) (aCons (xVar 1) aNil)))))
def F_form_for : List D → M (D × Bool) := fnM 2 b_form_for
def b_is_filter : Ste → M (Fl × Ste) := (sRet (fE (xAnd (eF (fFn F_is_masks 1 (aCons (xVar 0) aNil))) (xAnd (x2 gLe (xCall (gO oLen) (aCons (xVar 0) aNil)) (xC C_MOST_MASKS)) (x2 gEq (eF (fFn F_form_for 1 (aCons (xVar 0) aNil))) (xVar 0))))))
def F_is_filter : List D → M (D × Bool) := fnM 1 b_is_filter
def b_need_filter : Ste → M (Fl × Ste) := (sIf (bNot (bV (eF (fFn F_is_filter 1 (aCons (xVar 0) aNil))))) (sRaise "InvalidFilter") sPass)
def F_need_filter : List D → M (D × Bool) := fnM 1 b_need_filter
def b_need_mask : Ste → M (Fl × Ste) := (sIf (bOr (bNot (bV (eF (fFn F_is_offsets 1 (aCons (xVar 0) aNil))))) (bV (x2 gGt (x2 gSub (x2 gIx (xVar 0) (x1 gNeg (xC (.int 1)))) (x2 gIx (xVar 0) (xC (.int 0)))) (xC C_MOST_SPAN)))) (sRaise "InvalidMask") sPass)
def F_need_mask : List D → M (D × Bool) := fnM 1 b_need_mask
def b_is_ring : Ste → M (Fl × Ste) := (sSeq (sIf (bOr (bNot (bV (x1 (gIsi tStr) (xVar 0)))) (bNot (bV (x3 gLe gLe (xC (.int 1)) (xCall (gO oLen) (aCons (xVar 0) aNil)) (xC C_MOST_PLACES))))) (sRet (fE (xC (.bool false)))) sPass)
    (sRet (fE (xCall (gO oAll) (aCons (xLc (iD (xVar 0)) (gN 1) [1] fYes (x2 gIn (xVar 1) (xTup (aCons (xC C_DOT) (aCons (xC C_BLANK) aNil))))) aNil)))))
def F_is_ring : List D → M (D × Bool) := fnM 2 b_is_ring
def b_need_ring : Ste → M (Fl × Ste) := (sIf (bNot (bV (eF (fFn F_is_ring 1 (aCons (xVar 0) aNil))))) (sRaise "InvalidRing") sPass)
def F_need_ring : List D → M (D × Bool) := fnM 1 b_need_ring
def b_has_dot : Ste → M (Fl × Ste) := (sSeq (sSet 3 (fE (xCall (gO oLen) (aCons (xVar 1) aNil))))
    (sRet (fE (xCall (gO oAny) (aCons (xLc (iD (xVar 0)) (gN 5) [5] fYes (xCall (gO oAll) (aCons (xLc (iD (xVar 5)) (gN 4) [4] fYes (x2 gEq (x2 gIx (xVar 1) (x2 gMod (x2 gAdd (xVar 2) (xVar 4)) (xVar 3))) (xC C_DOT))) aNil))) aNil)))))
def F_has_dot : List D → M (D × Bool) := fnM 6 b_has_dot
def b_apply : Ste → M (Fl × Ste) := (sRet (fE (xJoin (xC (.str "")) (xLc (iA oRg1 (aCons (xCall (gO oLen) (aCons (xVar 1) aNil)) aNil)) (gN 2) [2] fYes (xIf (bV (eF (fFn F_has_dot 3 (aCons (xVar 0) (aCons (xVar 1) (aCons (xVar 2) aNil)))))) (xC C_DOT) (xC C_BLANK))))))
def F_apply : List D → M (D × Bool) := fnM 3 b_apply
def b_filtered : Ste → M (Fl × Ste) := (sSeq (sDrop (eF (fFn F_need_filter 1 (aCons (xVar 0) aNil))))
    (sSeq (sDrop (eF (fFn F_need_ring 1 (aCons (xVar 1) aNil))))
    (sRet (fFn F_apply 2 (aCons (xVar 0) (aCons (xVar 1) aNil))))))
def F_filtered : List D → M (D × Bool) := fnM 2 b_filtered
def b_levelled : Ste → M (Fl × Ste) := (sSeq (sDrop (eF (fFn F_need_filter 1 (aCons (xVar 0) aNil))))
    (sSeq (sIf (bOr (bNot (bV (x1 (gIsi tTuple) (xVar 1)))) (bNot (bV (x3 gLe gLe (xC (.int 1)) (xCall (gO oLen) (aCons (xVar 1) aNil)) (xC C_MOST_PLACES))))) (sRaise "InvalidLevels") sPass)
    (sSeq (sIf (bNot (bV (xCall (gO oAll) (aCons (xLc (iD (xVar 1)) (gN 2) [2] fYes (eF (fFn F_is_integer 1 (aCons (xVar 2) aNil)))) aNil)))) (sRaise "InvalidLevels") sPass)
    (sSeq (sAsg2F 3 4 (xCall (gO oLen) (aCons (xVar 1) aNil)) (fLst aNil))
    (sSeq (sForR (iA oRg1 (aCons (xVar 3) aNil)) (gN 5) [5] (sSeq (sSet 6 (fLc (iD (xVar 0)) (gN 8) [8] fYes (xCall (gO oMin) (aCons (xLc (iD (xVar 8)) (gN 7) [7] fYes (xCall (gO oInt) (aCons (x2 gIx (xVar 1) (x2 gMod (x2 gAdd (xVar 5) (xVar 7)) (xVar 3))) aNil))) aNil))))
    (sApp 4 (xCall (gO oMax) (aCons (xVar 6) aNil)))))
    (sRetV 4))))))
def F_levelled : List D → M (D × Bool) := fnM 9 b_levelled
def b_thin_by : Ste → M (Fl × Ste) := (sRet (fE (xTup (aCons (xVar 0) aNil))))
def F_thin_by : List D → M (D × Bool) := fnM 1 b_thin_by
def b_thicken_by : Ste → M (Fl × Ste) := (sRet (fE (xCall (gO oTuple) (aCons (xLc (iD (xVar 0)) (gN 1) [1] fYes (xTup (aCons (xVar 1) aNil))) aNil))))
def F_thicken_by : List D → M (D × Bool) := fnM 2 b_thicken_by
def b_thinning : Ste → M (Fl × Ste) := (sSeq (sDrop (eF (fFn F_need_mask 1 (aCons (xVar 0) aNil))))
    (sRet (fFn F_thin_by 1 (aCons (xVar 0) aNil))))
def F_thinning : List D → M (D × Bool) := fnM 1 b_thinning
def b_thickening : Ste → M (Fl × Ste) := (sSeq (sDrop (eF (fFn F_need_mask 1 (aCons (xVar 0) aNil))))
    (sRet (fFn F_thicken_by 1 (aCons (xVar 0) aNil))))
def F_thickening : List D → M (D × Bool) := fnM 1 b_thickening
def b__law_source : Ste → M (Fl × Ste) := (sSeq (sSet 2 (fE (xC (.int 0))))
    (sSeq (sIf (bV (x2 gLt (xVar 1) (xCall (gO oLen) (aCons (xVar 0) aNil)))) (sSet 2 (fE (xCall (gO oAbs) (aCons (x2 gIx (xVar 0) (xVar 1)) aNil)))) sPass)
    (sSeq (sIf (bV (x2 gLt (xVar 2) (x2 gPow (xC (.int 10)) (xC (.int 18))))) (sRet (fLst (aCons (xC (.int 0)) (aCons (x2 gAdd (xC (.int 1)) (x2 gMod (xCall (gO oInt) (aCons (x2 gAdd (x2 gMulA (xVar 2) (xC (.int 7919))) (x2 gMulA (xC (.int 104729)) (xVar 1))) aNil)) (xC (.int 2147483646)))) aNil)))) sPass)
    (sRet (fLst (aCons (xVar 2) (aCons (x2 gAdd (xC (.int 1)) (x2 gMod (xCall (gO oInt) (aCons (x2 gAdd (xVar 2) (xVar 1)) aNil)) (xC (.int 2147483646)))) aNil)))))))
def F__law_source : List D → M (D × Bool) := fnM 3 b__law_source
def b__law_draw : Ste → M (Fl × Ste) := (sSeq (sIf (bV (x2 gGt (x2 gIx (xVar 0) (xC (.int 0))) (xC (.int 0)))) (sSeq (sSet 2 (fE (x2 gMod (xCall (gO oInt) (aCons (x2 gIx (xVar 0) (xC (.int 0))) aNil)) (xVar 1))))
    (sSeq (sSetH 0 0 (x2 gFdiv (x2 gIx (xVar 0) (xC (.int 0))) (xVar 1)))
    (sRetV 2))) sPass)
    (sSeq (sSetH 0 1 (x2 gMod (xCall (gO oInt) (aCons (x2 gMulA (x2 gIx (xVar 0) (xC (.int 1))) (xC (.int 48271))) aNil)) (xC (.int 2147483647))))
    (sRet (fE (x2 gMod (xCall (gO oInt) (aCons (x2 gFdiv (x2 gMod (xCall (gO oInt) (aCons (x2 gMulA (x2 gIx (xVar 0) (xC (.int 1))) (x2 gIx (xVar 0) (xC (.int 1)))) aNil)) (xC (.int 2147483629))) (xC (.int 64))) aNil)) (xVar 1))))))
def F__law_draw : List D → M (D × Bool) := fnM 3 b__law_draw
def b__law_choice : Ste → M (Fl × Ste) := (sRet (fE (x2 gIx (xVar 1) (eF (fFn F__law_draw 2 (aCons (xVar 0) (aCons (xCall (gO oLen) (aCons (xVar 1) aNil)) aNil)))))))
def F__law_choice : List D → M (D × Bool) := fnM 2 b__law_choice
def b__law_mask : Ste → M (Fl × Ste) := (sSeq (sSet 2 (fE (xLc (iA oRg2 (aCons (x1 gNeg (xVar 1)) (aCons (x2 gAdd (xVar 1) (xC (.int 1))) aNil))) (gN 3) [3] (bV (x2 gEq (eF (fFn F__law_draw 2 (aCons (xVar 0) (aCons (xC (.int 3)) aNil)))) (xC (.int 0)))) (xVar 3))))
    (sRet (fE (xIf (bV (x2 gNe (xVar 2) (xLst aNil))) (xCall (gO oTuple) (aCons (xVar 2) aNil)) (xTup (aCons (x2 gSub (eF (fFn F__law_draw 2 (aCons (xVar 0) (aCons (x2 gAdd (x2 gMulA (xC (.int 2)) (xVar 1)) (xC (.int 1))) aNil)))) (xVar 1)) aNil))))))
def F__law_mask : List D → M (D × Bool) := fnM 4 b__law_mask
def b__law_within : Ste → M (Fl × Ste) := (sRet (fE (x2 gEq (xLc (iD (xVar 0)) (gN 2) [2] (bV (x2 gNotIn (xVar 2) (xVar 1))) (xVar 2)) (xLst aNil))))
def F__law_within : List D → M (D × Bool) := fnM 3 b__law_within
def b__law_least : Ste → M (Fl × Ste) := (sSeq (sSet 1 (fLst aNil))
    (sSeq (sFor (fSorted (aCons (xLc (iD (x1 gSortedSet (xVar 0))) (gN 3) [3] fYes (xTup (aCons (xCall (gO oLen) (aCons (xVar 3) aNil)) (aCons (xVar 3) aNil)))) aNil)) (gN2 2 3) [2, 3] (sIf (bV (x2 gEq (xLc (iD (xVar 1)) (gN 4) [4] (bV (eF (fFn F__law_within 2 (aCons (xVar 4) (aCons (xVar 3) aNil))))) (xVar 4)) (xLst aNil))) (sApp 1 (xVar 3)) sPass))
    (sRet (fE (xCall (gO oTuple) (aCons (xCall (gO oSorted) (aCons (xVar 1) aNil)) aNil))))))
def F__law_least : List D → M (D × Bool) := fnM 5 b__law_least
def b__law_filter : Ste → M (Fl × Ste) := (sRet (fFn F__law_least 1 (aCons (xLc (iA oRg1 (aCons (x2 gAdd (xC (.int 1)) (eF (fFn F__law_draw 2 (aCons (xVar 0) (aCons (xC (.int 5)) aNil))))) aNil)) (gN 2) [2] fYes (eF (fFn F__law_mask 2 (aCons (xVar 0) (aCons (xVar 1) aNil))))) aNil)))
def F__law_filter : List D → M (D × Bool) := fnM 3 b__law_filter
def b__law_ring : Ste → M (Fl × Ste) := (sSeq (sSet 2 (fFn F__law_choice 2 (aCons (xVar 0) (aCons (xLst (aCons (xC (.str "#.")) (aCons (xC (.str "##.")) (aCons (xC (.str "#..")) (aCons (xC (.str "####.")) aNil))))) aNil))))
    (sRet (fE (xJoin (xC (.str "")) (xLc (iA oRg1 (aCons (x2 gAdd (xC (.int 1)) (eF (fFn F__law_draw 2 (aCons (xVar 0) (aCons (xVar 1) aNil))))) aNil)) (gN 3) [3] fYes (eF (fFn F__law_choice 2 (aCons (xVar 0) (aCons (xCall (gO oListS) (aCons (xVar 2) aNil)) aNil)))))))))
def F__law_ring : List D → M (D × Bool) := fnM 4 b__law_ring
def b__law_lies : Ste → M (Fl × Ste) := (sRet (fE (x2 gNotIn (xC (.str "#.")) (xLc (iA oZipS (aCons (xVar 0) (aCons (xVar 1) aNil))) (gN2 2 3) [2, 3] fYes (x2 gAdd (xVar 2) (xVar 3))))))
def F__law_lies : List D → M (D × Bool) := fnM 4 b__law_lies
def b__law_joined : Ste → M (Fl × Ste) := (sRet (fE (xJoin (xC (.str "")) (xLc (iA oZipS (aCons (xVar 0) (aCons (xVar 1) aNil))) (gN2 2 3) [2, 3] fYes (xIf (bV (x2 gIn (xC (.str "#")) (xLst (aCons (xVar 2) (aCons (xVar 3) aNil))))) (xC (.str "#")) (xC (.str ".")))))))
def F__law_joined : List D → M (D × Bool) := fnM 4 b__law_joined
def b__law_shared : Ste → M (Fl × Ste) := (sRet (fE (xJoin (xC (.str "")) (xLc (iA oZipS (aCons (xVar 0) (aCons (xVar 1) aNil))) (gN2 2 3) [2, 3] fYes (xIf (bV (x3 gEq gEq (xVar 2) (xVar 3) (xC (.str "#")))) (xC (.str "#")) (xC (.str ".")))))))
def F__law_shared : List D → M (D × Bool) := fnM 4 b__law_shared
def b_law : Ste → M (Fl × Ste) := (sSeq (sForR (iA oRg1 (aCons (x2 gAdd (xC (.int 1)) (xCall (gO oMin) (aCons (xCall (gO oLen) (aCons (xVar 0) aNil)) (aCons (xC (.int 10)) aNil)))) aNil)) (gN 1) [1] (sSeq (sAdopt 2 (fFn F__law_source 2 (aCons (xVar 0) (aCons (xVar 1) aNil))))
    (sForR (iA oRg1 (aCons (xC (.int 6)) aNil)) (gN 3) [3] (sSeq (sPar2 4 5 (aCons (eF (fFn F__law_filter 2 (aCons (xVar 2) (aCons (eF (fFn F__law_choice 2 (aCons (xVar 2) (aCons (xLst (aCons (xC (.int 2)) (aCons (xC (.int 4)) aNil))) aNil)))) aNil)))) (aCons (eF (fFn F__law_ring 2 (aCons (xVar 2) (aCons (xC (.int 24)) aNil)))) aNil)))
    (sSeq (sSet 6 (fE (xJoin (xC (.str "")) (xLc (iD (xVar 5)) (gN 7) [7] fYes (eF (fFn F__law_choice 2 (aCons (xVar 2) (aCons (xLst (aCons (xC (.str "#")) (aCons (xC (.str ".")) aNil))) aNil))))))))
    (sSeq (sPar2 8 9 (aCons (eF (fFn F__law_joined 2 (aCons (xVar 5) (aCons (xVar 6) aNil)))) (aCons (eF (fFn F__law_shared 2 (aCons (xVar 5) (aCons (xVar 6) aNil)))) aNil)))
    (sSeq (sPar2 10 11 (aCons (eF (fFn F_filtered 2 (aCons (xVar 4) (aCons (xVar 5) aNil)))) (aCons (eF (fFn F_filtered 2 (aCons (xVar 4) (aCons (xVar 6) aNil)))) aNil)))
    (sSeq (sIf (bOr (bNot (bV (eF (fFn F__law_lies 2 (aCons (xVar 10) (aCons (eF (fFn F_filtered 2 (aCons (xVar 4) (aCons (xVar 8) aNil)))) aNil)))))) (bNot (bV (eF (fFn F__law_lies 2 (aCons (eF (fFn F_filtered 2 (aCons (xVar 4) (aCons (xVar 9) aNil)))) (aCons (xVar 10) aNil))))))) (sRet (fE (xC (.bool false)))) sPass)
    (sSeq (sIf (bNot (bV (eF (fFn F__law_lies 2 (aCons (eF (fFn F__law_joined 2 (aCons (xVar 10) (aCons (xVar 11) aNil)))) (aCons (eF (fFn F_filtered 2 (aCons (xVar 4) (aCons (xVar 8) aNil)))) aNil)))))) (sRet (fE (xC (.bool false)))) sPass)
    (sSeq (sIf (bNot (bV (eF (fFn F__law_lies 2 (aCons (eF (fFn F_filtered 2 (aCons (xVar 4) (aCons (xVar 9) aNil)))) (aCons (eF (fFn F__law_shared 2 (aCons (xVar 10) (aCons (xVar 11) aNil)))) aNil)))))) (sRet (fE (xC (.bool false)))) sPass)
    (sSeq (sSet 12 (fFn F__law_mask 2 (aCons (xVar 2) (aCons (xC (.int 4)) aNil))))
    (sSeq (sPar2 13 14 (aCons (eF (fFn F_thinning 1 (aCons (xVar 12) aNil))) (aCons (eF (fFn F_thickening 1 (aCons (xVar 12) aNil))) aNil)))
    (sSeq (sIf (bV (x2 gNe (eF (fFn F_filtered 2 (aCons (xVar 13) (aCons (xVar 9) aNil)))) (eF (fFn F__law_shared 2 (aCons (eF (fFn F_filtered 2 (aCons (xVar 13) (aCons (xVar 5) aNil)))) (aCons (eF (fFn F_filtered 2 (aCons (xVar 13) (aCons (xVar 6) aNil)))) aNil)))))) (sRet (fE (xC (.bool false)))) sPass)
    (sSeq (sIf (bV (x2 gNe (eF (fFn F_filtered 2 (aCons (xVar 14) (aCons (xVar 8) aNil)))) (eF (fFn F__law_joined 2 (aCons (eF (fFn F_filtered 2 (aCons (xVar 14) (aCons (xVar 5) aNil)))) (aCons (eF (fFn F_filtered 2 (aCons (xVar 14) (aCons (xVar 6) aNil)))) aNil)))))) (sRet (fE (xC (.bool false)))) sPass)
    (sSeq (sSet 15 (fE (xCall (gO oTuple) (aCons (xLc (iD (xVar 5)) (gN 7) [7] fYes (eF (fFn F__law_draw 2 (aCons (xVar 2) (aCons (xC (.int 6)) aNil))))) aNil))))
    (sSeq (sSet 16 (fE (xCall (gO oTuple) (aCons (xLc (iD (xVar 15)) (gN 17) [17] fYes (x2 gAdd (xVar 17) (eF (fFn F__law_draw 2 (aCons (xVar 2) (aCons (xC (.int 3)) aNil)))))) aNil))))
    (sIf (bV (x2 gNe (xLc (iA oZip (aCons (eF (fFn F_levelled 2 (aCons (xVar 4) (aCons (xVar 15) aNil)))) (aCons (eF (fFn F_levelled 2 (aCons (xVar 4) (aCons (xVar 16) aNil)))) aNil))) (gN2 18 19) [18, 19] (bV (x2 gGt (xVar 18) (xVar 19))) (xC (.int 1))) (xLst aNil))) (sRet (fE (xC (.bool false)))) sPass)))))))))))))))))
    (sSeq (sIf (bV (x2 gNe (eF (fFn F_filtered 2 (aCons (eF (fFn F_thickening 1 (aCons (xTup (aCons (xC (.int 0)) (aCons (xC (.int 1)) (aCons (xC (.int 2)) (aCons (xC (.int 3)) aNil))))) aNil))) (aCons (xC (.str "####")) aNil)))) (xC (.str "####")))) (sRet (fE (xC (.bool false)))) sPass)
    (sRet (fE (xAnd (x2 gEq (eF (fFn F_filtered 2 (aCons (eF (fFn F_thickening 1 (aCons (xTup (aCons (xC (.int 0)) (aCons (xC (.int 2)) aNil))) aNil))) (aCons (xC (.str "#...")) aNil)))) (xC (.str "#.#."))) (x2 gEq (eF (fFn F_filtered 2 (aCons (eF (fFn F_thinning 1 (aCons (xTup (aCons (xC (.int 0)) (aCons (xC (.int 2)) aNil))) aNil))) (aCons (xC (.str "#.#.")) aNil)))) (xC (.str "#.#."))))))))
def F_law : List D → M (D × Bool) := fnM 20 b_law
end Lw
end DL
end L2

set_option Elab.async false
set_option linter.all false
set_option maxRecDepth 100000
/-! filters below one another -/
namespace L2
namespace DL
open PySem
/-- what the program takes as a filter -/
structure FOk (ms : List (List Int)) : Prop where
  mks : Mks ms
  near : span ms ≤ 8
  few : ms.length ≤ 130
  form : mins ms = ms
theorem Filt.ok {a b : Int} {ms : List (List Int)} (h : Filt a b ms) (hs : b - a ≤ 8) : FOk ms := ⟨h.mks, h.span hs, by have := h.few; omega, h.form⟩
def blw (ms ls : List (List Int)) : Bool := ms.all fun m => ls.any fun l => sub l m
theorem blw_iff {ms ls : List (List Int)} : blw ms ls = true ↔ ∀ m, m ∈ ms → ∃ l, l ∈ ls ∧ sub l m = true := by
  unfold blw
  rw [List.all_eq_true]
  exact ⟨fun h m hm => List.any_eq_true.mp (h m hm), fun h m hm => List.any_eq_true.mpr (h m hm)⟩
theorem blw_one {m : List Int} {ls : List (List Int)} : blw [m] ls = ls.any fun l => sub l m := by
  unfold blw
  simp
theorem in_mkI (o : Int) (b : List Int) : gIn (.int o) (mkI b) = M.ret (.bool (b.contains o)) := by
  show (if (SeqAt.shaped (.int o) && SeqAt.shaped (.tuple (b.map .int))) = true then M.ret (PyData.bool ((b.map PyData.int).any fun z => PyData.eqv z (.int o))) else M.no) = _
  have h1 : SeqAt.shaped (.tuple (b.map .int)) = true := sh_mkI b
  rw [h1]
  have h2 : ((b.map PyData.int).any fun z => PyData.eqv z (.int o)) = b.contains o := by
    rw [List.any_map, List.contains_eq_any_beq]
    congr 1
    funext z
    show (z == o) = (o == z)
    rw [Bool.eq_iff_iff, beq_iff_eq, beq_iff_eq]
    exact eq_comm
  rw [h2]
  rfl
/-- the dots that part, by what is asked of them -/
structure Parts (ms ls : List (List Int)) (r : Option (List Int)) : Prop where
  none : r = none → blw ms ls = true
  some : ∀ d, r = some d → d ∈ ms ∧ (ls.any fun l => sub l d) = false ∧ ∀ m, m ∈ ms → (ls.any fun l => sub l m) = false → d.length ≤ m.length
def optD : Option (List Int) → D
  | none => .none
  | some d => mkI d
theorem parts_of {ms ls ys : List (List Int)} (mm : ∀ a, a ∈ ys ↔ a ∈ ms.filter fun m => !blw [m] ls) (so : (ys.map fun m : List Int => (m.length : Int) :: m).Pairwise fun a b => HT.lexLt b a = false) : Parts ms ls ys.head? := by
  have mm' : ∀ a, a ∈ ys ↔ a ∈ ms ∧ (ls.any fun l => sub l a) = false := fun a => by
    rw [mm a, List.mem_filter, blw_one]
    simp
  refine ⟨fun e => ?_, fun d e => ?_⟩
  · have : ys = [] := by
      cases ys with
      | nil => rfl
      | cons y ys => cases e
    subst this
    rw [blw_iff]
    intro m hm
    cases c : ls.any fun l => sub l m with
    | true => exact List.any_eq_true.mp c
    | false => exact absurd ((mm' m).mpr ⟨hm, c⟩) (by simp)
  · cases ys with
    | nil => cases e
    | cons y ys =>
      have e' : y = d := Option.some.inj e
      subst e'
      obtain ⟨h1, h2⟩ := (mm' y).mp List.mem_cons_self
      refine ⟨h1, h2, fun m hm hc => ?_⟩
      rcases List.mem_cons.mp ((mm' m).mpr ⟨hm, hc⟩) with e | e
      · rw [e]; exact Nat.le_refl _
      · have := (List.pairwise_cons.mp so).1 _ (List.mem_map.mpr ⟨m, e, rfl⟩)
        have := head_le this
        omega
theorem ix_cons (d : D) (ds : List D) : gIx (.list (d :: ds)) (.int 0) = M.ret d := by
  show ofO (atI (d :: ds) 0) = _
  unfold atI ixN
  rw [if_pos (Int.le_refl 0), if_pos (by simp)]
  rfl
theorem ixP1 (i : Int) (ns : List Int) : gIx (mkP (i :: ns)) (.int 1) = M.ret (mkI ns) := rfl
theorem sh_lP (ms : List (List Int)) : SeqAt.shaped (.list (ms.map fun m => mkP ((m.length : Int) :: m))) = true := by
  have key : ∀ ms : List (List Int), PyData.canLayAll0 (ms.map fun m => mkP ((m.length : Int) :: m)) = true ∧ PyData.depthAll (ms.map fun m => mkP ((m.length : Int) :: m)) ≤ 3 := by
    intro ms
    induction ms with
    | nil => exact ⟨rfl, by simp [PyData.depthAll]⟩
    | cons m ms ih =>
      obtain ⟨h1, h2⟩ := ih
      have e : mkP ((m.length : Int) :: m) = .tuple [.int m.length, mkI m] := rfl
      have d1 := depth_mkI m
      refine ⟨?_, ?_⟩
      · simp only [List.map_cons, PyData.canLayAll0, h1, e, PyData.canLay0, can_mkI]
        rfl
      · simp only [List.map_cons, PyData.depthAll, e, PyData.depth]
        omega
  refine shaped_of ?_ ?_
  · simp only [PyData.canLay0]
    exact (key ms).1
  · simp only [PyData.depth]
    have := (key ms).2
    omega
theorem ne_nil_mkP (l : List (List Int)) : gNe (.list (l.map fun m => mkP ((m.length : Int) :: m))) (.list []) = M.ret (.bool (!l.isEmpty)) := by
  unfold gNe
  rw [sh_lP, show SeqAt.shaped (.list []) = true from sh_lP []]
  show M.ret (PyData.bool (!PyData.eqv (.list (l.map fun m => mkP ((m.length : Int) :: m))) (.list []))) = _
  simp only [PyData.eqv]
  rw [eqvAll_nil]
  cases l <;> rfl
end DL
end L2

set_option Elab.async false
set_option linter.all false
set_option maxRecDepth 100000
/-! all sets of few offsets -/
namespace L2
namespace DL
open PySem
/-- the sets that are grown from the empty one by these offsets -/
def grow (l : List Int) : List (List Int) := l.foldl (fun s o => s ++ s.map (· ++ [o])) [[]]
theorem grow_snoc (l : List Int) (a : Int) : grow (l ++ [a]) = grow l ++ (grow l).map (· ++ [a]) := by
  unfold grow
  rw [List.foldl_append]
  rfl
theorem mem_grow {l : List Int} : ∀ {x : List Int}, x ∈ grow l ↔ x.Sublist l := by
  have key : ∀ (n : Nat) (l : List Int), l.length = n → ∀ x : List Int, x ∈ grow l ↔ x.Sublist l := by
    intro n
    induction n with
    | zero =>
      intro l hl x
      have : l = [] := List.eq_nil_of_length_eq_zero hl
      subst this
      show x ∈ [[]] ↔ _
      rw [List.mem_singleton, List.sublist_nil]
    | succ n ih =>
      intro l hl x
      have hne : l ≠ [] := fun e => by rw [e] at hl; simp at hl
      obtain ⟨l', a, rfl⟩ : ∃ l' a, l = l' ++ [a] := ⟨l.dropLast, l.getLast hne, (List.dropLast_concat_getLast hne).symm⟩
      have hl' : l'.length = n := by simp at hl; exact hl
      rw [grow_snoc, List.mem_append, List.mem_map, ih l' hl']
      constructor
      · rintro (h | ⟨y, hy, rfl⟩)
        · exact h.trans (List.sublist_append_left _ _)
        · exact ((ih l' hl' y).mp hy).append (List.Sublist.refl _)
      · intro h
        obtain ⟨x1, x2, rfl, h1, h2⟩ := List.sublist_append_iff.mp h
        have e : x2 = [] ∨ x2 = [a] := by
          cases h2 with
          | cons _ h => exact .inl (List.sublist_nil.mp h)
          | cons_cons _ h => exact .inr (by rw [List.sublist_nil.mp h])
        rcases e with e | e
        · subst e
          rw [List.append_nil]
          exact .inl h1
        · subst e
          exact .inr ⟨x1, (ih l' hl' x1).mpr h1, rfl⟩
  exact fun {x} => key l.length l rfl x
theorem asc_sublist {d l : List Int} (hd : Asc d) (hl : Asc l) (h : ∀ x, x ∈ d → x ∈ l) : d.Sublist l := by
  have e : d = l.filter fun x => d.contains x := asc_ext hd (hl.sublist List.filter_sublist) fun x => by
    rw [List.mem_filter]
    constructor
    · intro hx
      exact ⟨h x hx, by simpa using hx⟩
    · intro hx
      simpa using hx.2
  rw [e]
  exact List.filter_sublist
/-- sets that one filter gets and another does not -/
def apart (one other sets : List (List Int)) : List (List Int) := sets.filter fun M => (one.any fun m => sub m M) && !(other.any fun l => sub l M)
theorem mem_apart {one other sets : List (List Int)} {M : List Int} : M ∈ apart one other sets ↔ M ∈ sets ∧ (one.any fun m => sub m M) = true ∧ (other.any fun l => sub l M) = false := by
  unfold apart
  rw [List.mem_filter, Bool.and_eq_true, Bool.not_eq_true']
theorem any_up {ls : List (List Int)} {m M : List Int} (h : sub m M = true) (hm : (ls.any fun l => sub l m) = true) : (ls.any fun l => sub l M) = true := by
  obtain ⟨l, hl, hs⟩ := List.any_eq_true.mp hm
  exact List.any_eq_true.mpr ⟨l, hl, sub_tr _ _ _ hs h⟩
theorem apart_nil {one other sets : List (List Int)} {r : Option (List Int)} (P : Parts one other r) (hs : ∀ m, m ∈ one → m ∈ sets) : (apart one other sets).isEmpty = (r == none) ∧ blw one other = (r == none) := by
  cases r with
  | none =>
    have hb := P.none rfl
    refine ⟨?_, hb⟩
    rw [show ((none : Option (List Int)) == none) = true from rfl, List.isEmpty_iff]
    apply List.eq_nil_iff_forall_not_mem.mpr
    intro M hM
    obtain ⟨_, h1, h2⟩ := mem_apart.mp hM
    obtain ⟨m, hm, hsm⟩ := List.any_eq_true.mp h1
    obtain ⟨l, hl, hsl⟩ := blw_iff.mp hb m hm
    have : (other.any fun l => sub l M) = true := List.any_eq_true.mpr ⟨l, hl, sub_tr _ _ _ hsl hsm⟩
    rw [h2] at this
    cases this
  | some d =>
    obtain ⟨h1, h2, _⟩ := P.some d rfl
    have e : ((some d : Option (List Int)) == none) = false := rfl
    rw [e]
    constructor
    · cases c : (apart one other sets).isEmpty with
      | false => rfl
      | true =>
        have := List.isEmpty_iff.mp c
        have hm : d ∈ apart one other sets := mem_apart.mpr ⟨hs d h1, List.any_eq_true.mpr ⟨d, h1, sub_refl d⟩, h2⟩
        rw [this] at hm
        cases hm
    · cases c : blw one other with
      | false => rfl
      | true =>
        obtain ⟨l, hl, hsl⟩ := blw_iff.mp c d h1
        have : (other.any fun l => sub l d) = true := List.any_eq_true.mpr ⟨l, hl, hsl⟩
        rw [h2] at this
        cases this
theorem apart_min {one other sets : List (List Int)} {d : List Int} (P : Parts one other (some d)) (hs : ∀ m, m ∈ one → m ∈ sets) (ha : ∀ m, m ∈ one → Asc m) (hsa : ∀ M, M ∈ sets → Asc M) : apart one other sets ≠ [] ∧ minL ((apart one other sets).map fun M => (M.length : Int)) = (d.length : Int) := by
  obtain ⟨h1, h2, h3⟩ := P.some d rfl
  have hm : d ∈ apart one other sets := mem_apart.mpr ⟨hs d h1, List.any_eq_true.mpr ⟨d, h1, sub_refl d⟩, h2⟩
  have hne : apart one other sets ≠ [] := fun e => by rw [e] at hm; cases hm
  refine ⟨hne, ?_⟩
  have hl : 0 < ((apart one other sets).map fun M => (M.length : Int)).length := by rw [List.length_map]; exact List.length_pos_iff.mpr hne
  obtain ⟨k1, k2⟩ := minL_is hl
  have a1 := k2 _ (List.mem_map.mpr ⟨d, hm, rfl⟩)
  obtain ⟨M, hM, e⟩ := List.mem_map.mp k1
  obtain ⟨g1, g2, g3⟩ := mem_apart.mp hM
  obtain ⟨m, hmo, hsm⟩ := List.any_eq_true.mp g2
  have hc : (other.any fun l => sub l m) = false := by
    cases c : other.any fun l => sub l m with
    | false => rfl
    | true => rw [any_up hsm c] at g3; cases g3
  have l1 := h3 m hmo hc
  have l2 := nodup_len m M (ha m hmo).nodup (sub_iff.mp hsm)
  rw [← e] at a1 ⊢
  show (M.length : Int) = (d.length : Int)
  have : (M.length : Int) ≤ (d.length : Int) := a1
  omega
theorem gIsN_opt (r : Option (List Int)) : gIsN (optD r) = M.ret (.bool (r == none)) := by
  cases r <;> rfl
theorem gNotN_opt (r : Option (List Int)) : gNotN (optD r) = M.ret (.bool (!(r == none))) := by
  cases r <;> rfl
theorem ne_bool (a b : Bool) : gNe (.bool a) (.bool b) = M.ret (.bool (!(a == b))) := by
  cases a <;> cases b <;> rfl
theorem ne_lI (a b : List Int) : gNe (.list (a.map .int)) (.list (b.map .int)) = M.ret (.bool (!decide (a = b))) := by
  unfold gNe
  rw [sh_lI, sh_lI]
  show M.ret (PyData.bool (!PyData.eqv (.list (a.map .int)) (.list (b.map .int)))) = _
  simp only [PyData.eqv]
  rw [eqvAll_ints]
theorem ne_int (i j : Int) : gNe (.int i) (.int j) = M.ret (.bool (!decide (i = j))) := by
  show M.ret (PyData.bool (!(i == j))) = _
  congr 2
theorem list_mkI (d : List Int) : gO oListS [mkI d] = M.ret (.list (d.map .int)) := rfl
theorem lenE_mkI (d : List Int) : gO oLen [mkI d] = M.ret (.int (d.length : Int)) := by
  unfold gO
  rw [len_mkI]
  rfl
theorem sset_tup {d : List Int} (h : Asc d) (hz : d.length ≤ 1000) : gSortedSetA (mkI d) = M.ret (.list (d.map .int)) := by
  show ofO (match intsD (d.map PyData.int) with
    | some ns => if decide (ns.length ≤ 1000) = true then some (PyData.list ((srtU ltI ns).map .int)) else none
    | none => none) = _
  rw [ints_map]
  simp only [decide_eq_true hz, if_true]
  have e : d = srtU ltI d := srtU_uniq tot_int h.nodup (fun z => Iff.rfl) (h.imp fun {a b} q => decide_eq_false (by omega))
  rw [← e]
  rfl
theorem app_mkI {a b : List Int} (h : a.length + b.length ≤ 1000) : gAdd (mkI a) (mkI b) = M.ret (mkI (a ++ b)) := by
  show (if szOk ((a.map PyData.int).length + (b.map PyData.int).length) = true then M.ret (PyData.tuple (a.map .int ++ b.map .int)) else M.no) = _
  rw [List.length_map, List.length_map, if_pos (show szOk (a.length + b.length) = true from decide_eq_true (by omega)), ← List.map_append]
  rfl
theorem app_lF {a b : List (List Int)} (h : a.length + b.length ≤ 1000) : gAdd (.list (a.map mkI)) (.list (b.map mkI)) = M.ret (.list ((a ++ b).map mkI)) := by
  show (if szOk ((a.map mkI).length + (b.map mkI).length) = true then M.ret (PyData.list (a.map mkI ++ b.map mkI)) else M.no) = _
  rw [List.length_map, List.length_map, if_pos (show szOk (a.length + b.length) = true from decide_eq_true (by omega)), ← List.map_append]
theorem minE {l : List (List Int)} (h : l ≠ []) : gO oMin [.list (l.map fun M => PyData.int (M.length : Int))] = M.ret (.int (minL (l.map fun M => (M.length : Int)))) := by
  unfold gO
  rw [min_map (fun M : List Int => (M.length : Int)) h]
  rfl
theorem gd_bNot {f : Env' → M Bool} {ρ : Env'} {S : Wd} {Q : Bool → Wd → Prop} (h : Gd (f ρ) S fun b S1 => Q (!b) S1) : Gd (bNot f ρ) S Q := gd_bind (gd_mono h fun b S1 q => gd_ret q)
/-- moved far away, a filter is never below -/
theorem far_parts {one other : List (List Int)} (h1 : Filt (-2) 2 one) (h2 : Filt (-2) 2 other) : blw (one.map (mv 60)) other = false := by
  cases c : blw (one.map (mv 60)) other with
  | false => rfl
  | true =>
    exfalso
    obtain ⟨m, l, rfl⟩ := List.exists_cons_of_ne_nil h1.mks.some
    obtain ⟨o, ho, hs⟩ := blw_iff.mp c (mv 60 m) (List.mem_map.mpr ⟨m, List.mem_cons_self, rfl⟩)
    obtain ⟨x, xs, rfl⟩ := List.exists_cons_of_ne_nil (h2.mks.full o ho)
    have a1 := mem_mv.mp (sub_iff.mp hs x List.mem_cons_self)
    have a2 := h1.lo m List.mem_cons_self _ a1
    have a3 := h2.hi _ ho x List.mem_cons_self
    omega
end DL
end L2
namespace L2
namespace DL
open PySem
theorem five {x : Int} (h1 : -2 ≤ x) (h2 : x ≤ 2) : x ∈ ([-2, -1, 0, 1, 2] : List Int) := by
  have : x = -2 ∨ x = -1 ∨ x = 0 ∨ x = 1 ∨ x = 2 := by omega
  simp only [List.mem_cons, List.not_mem_nil, or_false]
  exact this
theorem eq_nil_len (l : List (List Int)) : gEq (.list (l.map fun M => PyData.int (M.length : Int))) (.list []) = M.ret (.bool l.isEmpty) := by
  have := eq_nil_list (l.map fun M => (M.length : Int))
  rw [List.map_map] at this
  have e : (l.map fun M => (M.length : Int)).isEmpty = l.isEmpty := by cases l <;> rfl
  rw [e] at this
  exact this
theorem eq_mkI (a b : List Int) : gEq (mkI a) (mkI b) = M.ret (.bool (decide (a = b))) := by
  unfold gEq
  rw [sh_mkI, sh_mkI]
  show M.ret (PyData.bool (PyData.eqv (mkI a) (mkI b))) = _
  rw [show PyData.eqv (mkI a) (mkI b) = decide (a = b) from eqv_ints a b]
theorem grow_len (l : List Int) : (grow l).length = 2 ^ l.length := by
  have key : ∀ (n : Nat) (l : List Int), l.length = n → (grow l).length = 2 ^ n := by
    intro n
    induction n with
    | zero =>
      intro l hl
      have : l = [] := List.eq_nil_of_length_eq_zero hl
      subst this
      rfl
    | succ n ih =>
      intro l hl
      have hne : l ≠ [] := fun e => by rw [e] at hl; simp at hl
      obtain ⟨l', a, rfl⟩ : ∃ l' a, l = l' ++ [a] := ⟨l.dropLast, l.getLast hne, (List.dropLast_concat_getLast hne).symm⟩
      have hl' : l'.length = n := by simp at hl; exact hl
      rw [grow_snoc, List.length_append, List.length_map, ih l' hl', Nat.pow_succ]
      omega
  exact key l.length l rfl
theorem grow_le {pre post : List Int} {a : Int} (e : [-2, -1, 0, 1, 2] = pre ++ a :: post) : (grow pre).length ≤ 32 ∧ ∀ m, m ∈ grow pre → m.length ≤ 5 := by
  have hl : pre.length ≤ 5 := by
    have := congrArg List.length e
    rw [List.length_append] at this
    have e5 : ([-2, -1, 0, 1, 2] : List Int).length = 5 := rfl
    omega
  refine ⟨?_, fun m hm => ?_⟩
  · rw [grow_len]
    exact Nat.pow_le_pow_right (n := 2) (by decide) hl
  · exact Nat.le_trans (mem_grow.mp hm).length_le hl
end DL
end L2

set_option Elab.async false
set_option linter.all false
set_option maxRecDepth 100000
/-! opposites: the least masks that meet all masks of a filter -/
namespace L2
namespace DL
open PySem
def meets (m x : List Int) : Bool := m.any fun o => x.contains o
theorem meets_iff {m x : List Int} : meets m x = true ↔ ∃ o, o ∈ m ∧ o ∈ x := by
  unfold meets
  rw [List.any_eq_true]
  exact ⟨fun ⟨o, h, q⟩ => ⟨o, h, List.contains_iff_mem.mp q⟩, fun ⟨o, h, q⟩ => ⟨o, h, List.contains_iff_mem.mpr q⟩⟩
theorem meets_comm (m x : List Int) : meets m x = meets x m := by
  rw [Bool.eq_iff_iff, meets_iff, meets_iff]
  exact ⟨fun ⟨o, a, b⟩ => ⟨o, b, a⟩, fun ⟨o, a, b⟩ => ⟨o, b, a⟩⟩
def hits (ms : List (List Int)) (x : List Int) : Bool := ms.all fun m => meets m x
theorem hits_iff {ms : List (List Int)} {x : List Int} : hits ms x = true ↔ ∀ m, m ∈ ms → ∃ o, o ∈ m ∧ o ∈ x := by
  unfold hits
  rw [List.all_eq_true]
  exact ⟨fun h m hm => meets_iff.mp (h m hm), fun h m hm => meets_iff.mpr (h m hm)⟩
theorem hits_up {ms : List (List Int)} {x y : List Int} (h : hits ms x = true) (s : sub x y = true) : hits ms y = true :=
  hits_iff.mpr fun m hm => let ⟨o, a, b⟩ := hits_iff.mp h m hm; ⟨o, a, sub_iff.mp s o b⟩
/-- xs holds the least masks that meet all of ms -/
structure Opp (ms xs : List (List Int)) : Prop where
  hit : ∀ x, x ∈ xs → hits ms x = true
  all : ∀ y, hits ms y = true → ∃ x, x ∈ xs ∧ sub x y = true
  asc : ∀ x, x ∈ xs → Asc x
  apart : ∀ x, x ∈ xs → ∀ y, y ∈ xs → sub y x = true → y = x
/-- the same sets: the same members -/
theorem opp_mem {ms xs ys : List (List Int)} (h : Opp ms xs) (k : Opp ms ys) : ∀ z, z ∈ xs → z ∈ ys := by
  intro z hz
  obtain ⟨y, hy, sy⟩ := k.all z (h.hit z hz)
  obtain ⟨x, hx, sx⟩ := h.all y (k.hit y hy)
  have e : x = z := h.apart z hz x hx (sub_tr x y z sx sy)
  subst e
  have e2 : y = x := asc_ext (k.asc y hy) (h.asc x hx) fun o => ⟨fun q => sub_iff.mp sy o q, fun q => sub_iff.mp sx o q⟩
  rw [← e2]; exact hy
theorem opp_uniq {ms xs ys : List (List Int)} (h : Opp ms xs) (k : Opp ms ys) (fx : mins xs = xs) (fy : mins ys = ys) : xs = ys := by
  have m : ∀ z, z ∈ xs ↔ z ∈ ys := fun z => ⟨opp_mem h k z, opp_mem k h z⟩
  have s1 := (form_iff.mp fx).1
  have s2 := (form_iff.mp fy).1
  rw [srtU_uniq tot_lex (strict_nodup tot_lex s1) m (s1.imp fun {a b} q => tot_lex.asym q)]
  exact (srtU_uniq tot_lex (strict_nodup tot_lex s2) (fun z => Iff.rfl) (s2.imp fun {a b} q => tot_lex.asym q)).symm
/-- twice turned round: the same one -/
theorem opp_back {ms xs : List (List Int)} (h : Opp ms xs) (ha : ∀ m, m ∈ ms → Asc m) (hp : ∀ x, x ∈ ms → ∀ y, y ∈ ms → sub y x = true → y = x) : Opp xs ms where
  hit := fun m hm => hits_iff.mpr fun x hx => let ⟨o, a, b⟩ := hits_iff.mp (h.hit x hx) m hm; ⟨o, b, a⟩
  all := fun y hy => by
    by_cases q : ∃ m, m ∈ ms ∧ sub m y = true
    · exact q
    · exfalso
      have out : ∀ m, m ∈ ms → ∃ o, o ∈ m ∧ ¬ o ∈ y := fun m hm => by
        apply Classical.byContradiction
        intro nz
        exact q ⟨m, hm, sub_iff.mpr fun o ho => Classical.byContradiction fun no => nz ⟨o, ho, no⟩⟩
      have hz : hits ms ((ms.flatten).filter fun o => !y.contains o) = true := hits_iff.mpr fun m hm => by
        obtain ⟨o, a, b⟩ := out m hm
        exact ⟨o, a, List.mem_filter.mpr ⟨List.mem_flatten.mpr ⟨m, hm, a⟩, by
          rw [show y.contains o = false from Bool.eq_false_iff.mpr fun e => b (List.contains_iff_mem.mp e)]; rfl⟩⟩
      obtain ⟨x, hx, sx⟩ := h.all _ hz
      obtain ⟨o, a, b⟩ := hits_iff.mp hy x hx
      have c := (List.mem_filter.mp (sub_iff.mp sx o a)).2
      rw [List.contains_iff_mem.mpr b] at c
      cases c
  asc := ha
  apart := hp
/-- below: the other way about -/
theorem opp_blw {ms ls xs ys : List (List Int)} (h : Opp ms xs) (k : Opp ls ys) (hb : blw ms ls = true) : blw ys xs = true :=
  blw_iff.mpr fun y hy => by
    refine h.all y (hits_iff.mpr fun m hm => ?_)
    obtain ⟨l, hl, s⟩ := blw_iff.mp hb m hm
    obtain ⟨o, a, b⟩ := hits_iff.mp (k.hit y hy) l hl
    exact ⟨o, sub_iff.mp s o a, b⟩
theorem opp_blw_iff {ms ls xs ys : List (List Int)} (h : Opp ms xs) (k : Opp ls ys) (hm : ∀ m, m ∈ ms → Asc m) (hmp : ∀ x, x ∈ ms → ∀ y, y ∈ ms → sub y x = true → y = x)
    (hl : ∀ m, m ∈ ls → Asc m) (hlp : ∀ x, x ∈ ls → ∀ y, y ∈ ls → sub y x = true → y = x) : blw ys xs = blw ms ls := by
  rw [Bool.eq_iff_iff]
  exact ⟨fun q => opp_blw (opp_back k hl hlp) (opp_back h hm hmp) q, opp_blw h k⟩
/-- a mask more: the sums with its offsets -/
theorem opp_step {pre xs ys : List (List Int)} {m : List Int} (h : Opp pre xs) (ha : ∀ y, y ∈ ys → Asc y)
    (hp : ∀ x, x ∈ ys → ∀ y, y ∈ ys → sub y x = true → y = x)
    (h1 : ∀ y, y ∈ ys → ∃ x o, x ∈ xs ∧ o ∈ m ∧ ∀ z, z ∈ y ↔ z ∈ x ∨ z = o)
    (h2 : ∀ x o, x ∈ xs → o ∈ m → ∃ y, y ∈ ys ∧ ∀ z, z ∈ y → z ∈ x ∨ z = o) : Opp (pre ++ [m]) ys where
  hit := fun y hy => hits_iff.mpr fun l hl => by
    obtain ⟨x, o, hx, ho, e⟩ := h1 y hy
    cases List.mem_append.mp hl with
    | inl q => obtain ⟨p, a, b⟩ := hits_iff.mp (h.hit x hx) l q; exact ⟨p, a, (e p).mpr (.inl b)⟩
    | inr q => rw [List.mem_singleton.mp q]; exact ⟨o, ho, (e o).mpr (.inr rfl)⟩
  all := fun y hy => by
    have hy' := hits_iff.mp hy
    obtain ⟨x, hx, sx⟩ := h.all y (hits_iff.mpr fun l hl => hy' l (List.mem_append_left _ hl))
    obtain ⟨o, ho, hoy⟩ := hy' m (List.mem_append_right _ (List.mem_singleton.mpr rfl))
    obtain ⟨z, hz, e⟩ := h2 x o hx ho
    refine ⟨z, hz, sub_iff.mpr fun p hp => ?_⟩
    cases e p hp with
    | inl q => exact sub_iff.mp sx p q
    | inr q => rw [q]; exact hoy
  asc := ha
  apart := hp
theorem opp_nil : Opp [] [[]] where
  hit := fun x hx => rfl
  all := fun y hy => ⟨[], List.mem_singleton.mpr rfl, rfl⟩
  asc := fun x hx => by rw [List.mem_singleton.mp hx]; exact List.Pairwise.nil
  apart := fun x hx y hy _ => by rw [List.mem_singleton.mp hx, List.mem_singleton.mp hy]
/-- the same up to order -/
theorem Opp.congr {ms xs ys : List (List Int)} (h : Opp ms xs) (e : ∀ z, z ∈ ys ↔ z ∈ xs) : Opp ms ys where
  hit := fun x hx => h.hit x ((e x).mp hx)
  all := fun y hy => let ⟨x, hx, s⟩ := h.all y hy; ⟨x, (e x).mpr hx, s⟩
  asc := fun x hx => h.asc x ((e x).mp hx)
  apart := fun x hx y hy s => h.apart x ((e x).mp hx) y ((e y).mp hy) s
/-- no offsets but those of the masks -/
theorem opp_in {ms xs : List (List Int)} (h : Opp ms xs) : ∀ x, x ∈ xs → ∀ o, o ∈ x → ∃ m, m ∈ ms ∧ o ∈ m := by
  intro x hx o ho
  apply Classical.byContradiction
  intro no
  have hz : hits ms (x.filter fun p => decide (p ≠ o)) = true := hits_iff.mpr fun m hm => by
    obtain ⟨p, a, b⟩ := hits_iff.mp (h.hit x hx) m hm
    exact ⟨p, a, List.mem_filter.mpr ⟨b, decide_eq_true fun e => no ⟨m, hm, e ▸ a⟩⟩⟩
  obtain ⟨y, hy, sy⟩ := h.all _ hz
  have e : y = x := h.apart x hx y hy (sub_iff.mpr fun p hp => (List.mem_filter.mp (sub_iff.mp sy p hp)).1)
  rw [e] at sy
  have := (List.mem_filter.mp (sub_iff.mp sy o ho)).2
  exact absurd rfl (of_decide_eq_true this)
/-- rings: the opposite at blanks -/
theorem opp_hd {ms xs : List (List Int)} (h : Opp ms xs) (f : Int → Bool) : (xs.any fun x => x.all fun o => !f o) = !(ms.any fun m => m.all fun o => f o) := by
  rw [Bool.eq_iff_iff, Bool.not_eq_true', Bool.eq_false_iff]
  constructor
  · intro q r
    obtain ⟨x, hx, ax⟩ := List.any_eq_true.mp q
    obtain ⟨m, hm, am⟩ := List.any_eq_true.mp r
    obtain ⟨o, a, b⟩ := hits_iff.mp (h.hit x hx) m hm
    have e1 := List.all_eq_true.mp ax o b
    have e2 := List.all_eq_true.mp am o a
    rw [e2] at e1; cases e1
  · intro q
    have hz : hits ms (ms.flatten.filter fun o => !f o) = true := hits_iff.mpr fun m hm => by
      apply Classical.byContradiction
      intro no
      refine q (List.any_eq_true.mpr ⟨m, hm, List.all_eq_true.mpr fun o ho => ?_⟩)
      cases e : f o with
      | true => rfl
      | false => exact absurd ⟨o, ho, List.mem_filter.mpr ⟨List.mem_flatten.mpr ⟨m, hm, ho⟩, by rw [e]; rfl⟩⟩ no
    obtain ⟨x, hx, sx⟩ := h.all _ hz
    exact List.any_eq_true.mpr ⟨x, hx, List.all_eq_true.mpr fun o ho => (List.mem_filter.mp (sub_iff.mp sx o ho)).2⟩
end DL
end L2

set_option Elab.async false
set_option linter.all false
set_option maxRecDepth 100000
/-! no more than 126 sets of nine offsets, none of which holds another one -/
namespace L2
namespace DL
open PySem
def chains9 : List (List Nat) := [[0, 1, 3, 7, 15, 31, 63, 127, 255, 511], [2, 6, 14, 30, 62, 126, 254, 510], [4, 5, 13, 29, 61, 125, 253, 509], [8, 9, 11, 27, 59, 123, 251, 507], [10, 26, 58, 122, 250, 506], [12, 28, 60, 124, 252, 508], [16, 17, 19, 23, 55, 119, 247, 503], [18, 22, 54, 118, 246, 502], [20, 21, 53, 117, 245, 501], [24, 25, 57, 121, 249, 505], [32, 33, 35, 39, 47, 111, 239, 495], [34, 38, 46, 110, 238, 494], [36, 37, 45, 109, 237, 493], [40, 41, 43, 107, 235, 491], [42, 106, 234, 490], [44, 108, 236, 492], [48, 49, 51, 115, 243, 499], [50, 114, 242, 498], [52, 116, 244, 500], [56, 120, 248, 504], [64, 65, 67, 71, 79, 95, 223, 479], [66, 70, 78, 94, 222, 478], [68, 69, 77, 93, 221, 477], [72, 73, 75, 91, 219, 475], [74, 90, 218, 474], [76, 92, 220, 476], [80, 81, 83, 87, 215, 471], [82, 86, 214, 470], [84, 85, 213, 469], [88, 89, 217, 473], [96, 97, 99, 103, 231, 487], [98, 102, 230, 486], [100, 101, 229, 485], [104, 105, 233, 489], [112, 113, 241, 497], [128, 129, 131, 135, 143, 159, 191, 447], [130, 134, 142, 158, 190, 446], [132, 133, 141, 157, 189, 445], [136, 137, 139, 155, 187, 443], [138, 154, 186, 442], [140, 156, 188, 444], [144, 145, 147, 151, 183, 439], [146, 150, 182, 438], [148, 149, 181, 437], [152, 153, 185, 441], [160, 161, 163, 167, 175, 431], [162, 166, 174, 430], [164, 165, 173, 429], [168, 169, 171, 427], [170, 426], [172, 428], [176, 177, 179, 435], [178, 434], [180, 436], [184, 440], [192, 193, 195, 199, 207, 463], [194, 198, 206, 462], [196, 197, 205, 461], [200, 201, 203, 459], [202, 458], [204, 460], [208, 209, 211, 467], [210, 466], [212, 468], [216, 472], [224, 225, 227, 483], [226, 482], [228, 484], [232, 488], [240, 496], [256, 257, 259, 263, 271, 287, 319, 383], [258, 262, 270, 286, 318, 382], [260, 261, 269, 285, 317, 381], [264, 265, 267, 283, 315, 379], [266, 282, 314, 378], [268, 284, 316, 380], [272, 273, 275, 279, 311, 375], [274, 278, 310, 374], [276, 277, 309, 373], [280, 281, 313, 377], [288, 289, 291, 295, 303, 367], [290, 294, 302, 366], [292, 293, 301, 365], [296, 297, 299, 363], [298, 362], [300, 364], [304, 305, 307, 371], [306, 370], [308, 372], [312, 376], [320, 321, 323, 327, 335, 351], [322, 326, 334, 350], [324, 325, 333, 349], [328, 329, 331, 347], [330, 346], [332, 348], [336, 337, 339, 343], [338, 342], [340, 341], [344, 345], [352, 353, 355, 359], [354, 358], [356, 357], [360, 361], [368, 369], [384, 385, 387, 391, 399, 415], [386, 390, 398, 414], [388, 389, 397, 413], [392, 393, 395, 411], [394, 410], [396, 412], [400, 401, 403, 407], [402, 406], [404, 405], [408, 409], [416, 417, 419, 423], [418, 422], [420, 421], [424, 425], [432, 433], [448, 449, 451, 455], [450, 454], [452, 453], [456, 457], [464, 465], [480, 481]]
def pairsOk : List Nat → Bool
  | [] => true
  | a :: l => (l.all fun b => Nat.beq (Nat.land a b) a) && pairsOk l
theorem pairsOk_pw : ∀ {l : List Nat}, pairsOk l = true → l.Pairwise fun a b => a &&& b = a
  | [], _ => List.Pairwise.nil
  | a :: l, h => by
    have h' : (l.all fun b => Nat.beq (Nat.land a b) a) = true ∧ pairsOk l = true := by
      unfold pairsOk at h
      exact Bool.and_eq_true_iff.mp h
    exact List.Pairwise.cons (fun b hb => Nat.eq_of_beq_eq_true (List.all_eq_true.mp h'.1 b hb)) (pairsOk_pw h'.2)
theorem chains9_ok : chains9.all pairsOk = true := by decide +kernel
theorem chains9_all : ((List.range 512).all fun n => chains9.any fun c => c.any fun k => Nat.beq k n) = true := by decide +kernel
theorem chains9_len : chains9.length = 126 := by decide +kernel
theorem chain_one {c ys : List Nat} (hc : c.Pairwise fun a b => a &&& b = a) (nd : ys.Nodup) (an : ∀ x, x ∈ ys → ∀ y, y ∈ ys → x &&& y = x → x = y) (h : ∀ y, y ∈ ys → y ∈ c) : ys.length ≤ 1 := by
  match ys, nd, an, h with
  | [], _, _, _ => exact Nat.zero_le _
  | [_], _, _, _ => exact Nat.le_refl _
  | a :: b :: l, nd, an, h =>
    exfalso
    have ha := h a List.mem_cons_self
    have hb := h b (List.mem_cons_of_mem _ List.mem_cons_self)
    have ne : a ≠ b := by
      have := (List.nodup_cons.mp nd).1
      intro e
      exact this (e ▸ List.mem_cons_self)
    have key : ∀ {c : List Nat}, c.Pairwise (fun a b => a &&& b = a) → a ∈ c → b ∈ c → a &&& b = a ∨ b &&& a = b := by
      intro c
      induction c with
      | nil => intro _ h; cases h
      | cons x c ih =>
        intro hp h1 h2
        rw [List.pairwise_cons] at hp
        cases List.mem_cons.mp h1 with
        | inl e1 =>
          cases List.mem_cons.mp h2 with
          | inl e2 => exact absurd (e1.trans e2.symm) ne
          | inr q => rw [e1]; exact .inl (hp.1 b q)
        | inr q1 =>
          cases List.mem_cons.mp h2 with
          | inl e2 => rw [e2]; exact .inr (hp.1 a q1)
          | inr q => exact ih hp.2 q1 q
    cases key hc ha hb with
    | inl e => exact ne (an a List.mem_cons_self b (List.mem_cons_of_mem _ List.mem_cons_self) e)
    | inr e => exact ne (an b (List.mem_cons_of_mem _ List.mem_cons_self) a List.mem_cons_self e).symm
theorem filt_split {α : Type} (p : α → Bool) : ∀ l : List α, l.length = (l.filter p).length + (l.filter fun y => !p y).length
  | [] => rfl
  | a :: l => by
    have ih := filt_split p l
    cases e : p a with
    | true => rw [List.filter_cons_of_pos e, List.filter_cons_of_neg (by rw [e]; decide), List.length_cons, List.length_cons, ih]; omega
    | false => rw [List.filter_cons_of_neg (by rw [e]; decide), List.filter_cons_of_pos (by rw [e]; rfl), List.length_cons, List.length_cons, ih]; omega
theorem chains_few : ∀ {cs : List (List Nat)} {ys : List Nat}, (∀ c, c ∈ cs → c.Pairwise fun a b => a &&& b = a) → ys.Nodup → (∀ x, x ∈ ys → ∀ y, y ∈ ys → x &&& y = x → x = y) →
    (∀ y, y ∈ ys → ∃ c, c ∈ cs ∧ y ∈ c) → ys.length ≤ cs.length
  | [], ys, _, _, _, h => by
    cases ys with
    | nil => exact Nat.le_refl _
    | cons y l => obtain ⟨c, hc, _⟩ := h y List.mem_cons_self; cases hc
  | c :: cs, ys, hc, nd, an, h => by
    have e : ys.length = (ys.filter fun y => c.contains y).length + (ys.filter fun y => !c.contains y).length := filt_split _ _
    have h1 : (ys.filter fun y => c.contains y).length ≤ 1 :=
      chain_one (hc c List.mem_cons_self) (nd.filter _) (fun x hx y hy => an x (List.mem_filter.mp hx).1 y (List.mem_filter.mp hy).1) fun y hy => List.contains_iff_mem.mp (List.mem_filter.mp hy).2
    have h2 : (ys.filter fun y => !c.contains y).length ≤ cs.length :=
      chains_few (fun c' q => hc c' (List.mem_cons_of_mem _ q)) (nd.filter _) (fun x hx y hy => an x (List.mem_filter.mp hx).1 y (List.mem_filter.mp hy).1) fun y hy => by
        have q := List.mem_filter.mp hy
        obtain ⟨c', hc', hy'⟩ := h y q.1
        cases List.mem_cons.mp hc' with
        | inl e => subst e; rw [List.contains_iff_mem.mpr hy'] at q; cases q.2
        | inr e => exact ⟨c', e, hy'⟩
    rw [List.length_cons]
    omega
theorem sperner9 {ys : List Nat} (nd : ys.Nodup) (lt : ∀ y, y ∈ ys → y < 512) (an : ∀ x, x ∈ ys → ∀ y, y ∈ ys → x &&& y = x → x = y) : ys.length ≤ 126 := by
  rw [← chains9_len]
  refine chains_few (fun c hc => pairsOk_pw (List.all_eq_true.mp chains9_ok c hc)) nd an fun y hy => ?_
  have := List.all_eq_true.mp chains9_all y (List.mem_range.mpr (lt y hy))
  obtain ⟨c, hc, q⟩ := List.any_eq_true.mp this
  obtain ⟨k, hk, e⟩ := List.any_eq_true.mp q
  exact ⟨c, hc, (Nat.eq_of_beq_eq_true e) ▸ hk⟩
end DL
end L2

set_option Elab.async false
set_option linter.all false
set_option maxRecDepth 100000
/-! the opposite of a filter, as the program makes it -/
namespace L2
namespace DL
open PySem
theorem mins_below {ms : List (List Int)} (ha : ∀ m, m ∈ ms → Asc m) : ∀ (n : Nat) (y : List Int), y.length ≤ n → y ∈ ms → ∃ z, z ∈ mins ms ∧ sub z y = true
  | 0, y, hn, hy => ⟨y, mins_mem.mpr ⟨hy, fun z hz hs => by
      rcases Classical.em (z = y) with e | e
      · exact e
      · have := sub_lt (ha z hz) (ha y hy) hs e
        omega⟩, sub_refl y⟩
  | n + 1, y, hn, hy => by
    by_cases c : ∀ z, z ∈ ms → sub z y = true → z = y
    · exact ⟨y, mins_mem.mpr ⟨hy, c⟩, sub_refl y⟩
    · obtain ⟨z, hz⟩ := Classical.not_forall.mp c
      obtain ⟨hz1, hz2⟩ := Classical.not_imp.mp hz
      obtain ⟨hz2, hz3⟩ := Classical.not_imp.mp hz2
      have := sub_lt (ha z hz1) (ha y hy) hz2 hz3
      obtain ⟨w, hw, sw⟩ := mins_below ha n z (by omega) hz1
      exact ⟨w, hw, sub_tr w z y sw hz2⟩
theorem mins_apart {ms : List (List Int)} : ∀ x, x ∈ mins ms → ∀ y, y ∈ mins ms → sub y x = true → y = x :=
  fun x hx y hy s => (mins_mem.mp hx).2 y (mins_mem.mp hy).1 s
/-- an offset more -/
def ins (x : List Int) (o : Int) : List Int := srtU ltI (x ++ [o])
theorem mem_ins {x : List Int} {o z : Int} : z ∈ ins x o ↔ z ∈ x ∨ z = o := by
  unfold ins
  rw [srtU_mem tot_int, List.mem_append, List.mem_singleton]
theorem asc_ins (x : List Int) (o : Int) : Asc (ins x o) := (srtU_sorted tot_int (x ++ [o])).imp fun {a b} h => of_decide_eq_true h
def sums (xs : List (List Int)) (m : List Int) : List (List Int) := xs.flatMap fun x => m.map fun o => ins x o
theorem mem_sums {xs : List (List Int)} {m y : List Int} : y ∈ sums xs m ↔ ∃ x o, x ∈ xs ∧ o ∈ m ∧ y = ins x o := by
  unfold sums
  rw [List.mem_flatMap]
  constructor
  · rintro ⟨x, hx, q⟩
    obtain ⟨o, ho, e⟩ := List.mem_map.mp q
    exact ⟨x, o, hx, ho, e.symm⟩
  · rintro ⟨x, o, hx, ho, e⟩
    exact ⟨x, hx, List.mem_map.mpr ⟨o, ho, e.symm⟩⟩
theorem asc_sums {xs : List (List Int)} {m : List Int} : ∀ y, y ∈ sums xs m → Asc y := fun y hy => by
  obtain ⟨x, o, _, _, e⟩ := mem_sums.mp hy
  rw [e]; exact asc_ins x o
def opp (ms : List (List Int)) : List (List Int) := ms.foldl (fun X m => mins (sums X m)) [[]]
theorem opp_snoc (pre : List (List Int)) (m : List Int) : opp (pre ++ [m]) = mins (sums (opp pre) m) := by
  unfold opp
  rw [List.foldl_append]
  rfl
/-- the step, up to order -/
theorem opp_next {pre xs ys : List (List Int)} {m : List Int} (h : Opp pre xs) (e : ∀ z, z ∈ ys ↔ z ∈ mins (sums xs m)) : Opp (pre ++ [m]) ys :=
  opp_step h (fun y hy => asc_sums y (mins_mem.mp ((e y).mp hy)).1) (fun x hx y hy s => mins_apart x ((e x).mp hx) y ((e y).mp hy) s)
    (fun y hy => by
      obtain ⟨x, o, hx, ho, q⟩ := mem_sums.mp (mins_mem.mp ((e y).mp hy)).1
      exact ⟨x, o, hx, ho, fun z => by rw [q]; exact mem_ins⟩)
    (fun x o hx ho => by
      obtain ⟨z, hz, s⟩ := mins_below asc_sums _ _ (Nat.le_refl _) (mem_sums.mpr ⟨x, o, hx, ho, rfl⟩)
      exact ⟨z, (e z).mpr hz, fun p hp => mem_ins.mp (sub_iff.mp s p hp)⟩)
theorem opp_ofL : ∀ (n : Nat) (ms : List (List Int)), ms.length = n → Opp ms (opp ms)
  | 0, ms, h => by rw [List.length_eq_zero_iff.mp h]; exact opp_nil
  | n + 1, ms, h => by
    have hne : ms ≠ [] := fun e => by rw [e] at h; cases h
    have e := (List.dropLast_concat_getLast hne)
    have ih := opp_ofL n ms.dropLast (by rw [List.length_dropLast]; omega)
    rw [← e, opp_snoc]
    exact opp_next ih fun z => Iff.rfl
theorem opp_of (ms : List (List Int)) : Opp ms (opp ms) := opp_ofL _ ms rfl
theorem opp_form {ms : List (List Int)} (h : ms ≠ []) : mins (opp ms) = opp ms := by
  rw [← List.dropLast_concat_getLast h, opp_snoc]
  exact mins_idem _
theorem opp_is {ms xs : List (List Int)} (h : Opp ms xs) (hn : ms ≠ []) : mins xs = opp ms := by
  have e : ∀ z, z ∈ mins xs ↔ z ∈ xs := fun z => ⟨fun q => (mins_mem.mp q).1, fun q => mins_mem.mpr ⟨q, fun y hy s => h.apart z q y hy s⟩⟩
  exact opp_uniq (h.congr e) (opp_of ms) (mins_idem xs) (opp_form hn)
theorem opp_some {ms : List (List Int)} (hf : ∀ m, m ∈ ms → m ≠ []) : opp ms ≠ [] := by
  have hz : hits ms ms.flatten = true := hits_iff.mpr fun m hm => by
    cases m with
    | nil => exact absurd rfl (hf [] hm)
    | cons a l => exact ⟨a, List.mem_cons_self, List.mem_flatten.mpr ⟨_, hm, List.mem_cons_self⟩⟩
  obtain ⟨x, hx, _⟩ := (opp_of ms).all _ hz
  intro e
  rw [e] at hx
  cases hx
theorem opp_full {ms xs : List (List Int)} (h : Opp ms xs) (hn : ms ≠ []) : ∀ x, x ∈ xs → x ≠ [] := fun x hx e => by
  cases ms with
  | nil => exact hn rfl
  | cons m l =>
    obtain ⟨o, _, q⟩ := hits_iff.mp (h.hit x hx) m List.mem_cons_self
    rw [e] at q
    cases q
theorem opp_mks {ms : List (List Int)} (h : Mks ms) : Mks (opp ms) := ⟨opp_some h.full, (opp_of ms).asc, opp_full (opp_of ms) h.some⟩
theorem opp_near {ms xs : List (List Int)} (h : Opp ms xs) {a b : Int} (hl : ∀ m, m ∈ ms → ∀ o, o ∈ m → a ≤ o ∧ o ≤ b) : ∀ x, x ∈ xs → ∀ o, o ∈ x → a ≤ o ∧ o ≤ b := fun x hx o ho => by
  obtain ⟨m, hm, q⟩ := opp_in h x hx o ho
  exact hl m hm o q
theorem Mks.near {ms : List (List Int)} (h : Mks ms) {m : List Int} (hm : m ∈ ms) {o : Int} (ho : o ∈ m) : lowL ms ≤ o ∧ o ≤ lowL ms + span ms := by
  refine ⟨h.low_le hm ho, ?_⟩
  have := h.le_high hm ho
  unfold highL at this
  unfold span lowL
  omega
theorem enc_512 {low : Int} {m : List Int} (ha : Asc m) (hl : ∀ o, o ∈ m → low ≤ o ∧ o ≤ low + 8) : enc low m < 512 := by
  have i : In10 low m := ⟨ha, fun o ho => (hl o ho).1, fun o ho => by have := (hl o ho).2; omega⟩
  have := enc_bits i
  apply Classical.byContradiction
  intro no
  have hb : (enc low m).testBit 9 = true := by
    have h1 : enc low m / 2 ^ 9 = 1 := by
      have := this.1
      omega
    rw [Nat.testBit_eq_decide_div_mod_eq, h1]
    rfl
  rw [this.2 9] at hb
  have := (hl _ (of_decide_eq_true hb)).2
  omega
/-- few least masks near a place -/
theorem near_few {low : Int} {xs : List (List Int)} (nd : xs.Nodup) (ha : ∀ x, x ∈ xs → Asc x) (hl : ∀ x, x ∈ xs → ∀ o, o ∈ x → low ≤ o ∧ o ≤ low + 8)
    (hp : ∀ x, x ∈ xs → ∀ y, y ∈ xs → sub y x = true → y = x) : xs.length ≤ 126 := by
  have i : ∀ x, x ∈ xs → In10 low x := fun x hx => ⟨ha x hx, fun o ho => (hl x hx o ho).1, fun o ho => by have := (hl x hx o ho).2; omega⟩
  rw [← List.length_map (f := enc low)]
  refine sperner9 ?_ (fun y hy => ?_) fun a h1 b h2 e => ?_
  · have : ∀ l : List (List Int), (∀ x, x ∈ l → In10 low x) → l.Nodup → (l.map (enc low)).Nodup := by
      intro l
      induction l with
      | nil => intro _ _; exact List.nodup_nil
      | cons x l ih =>
        intro hi hn
        rw [List.nodup_cons] at hn
        rw [List.map_cons, List.nodup_cons]
        refine ⟨fun q => ?_, ih (fun y hy => hi y (List.mem_cons_of_mem _ hy)) hn.2⟩
        obtain ⟨y, hy, e⟩ := List.mem_map.mp q
        have := enc_inj (hi y (List.mem_cons_of_mem _ hy)) (hi x List.mem_cons_self) e
        exact hn.1 (this ▸ hy)
    exact this xs i nd
  · obtain ⟨x, hx, rfl⟩ := List.mem_map.mp hy
    exact enc_512 (ha x hx) (hl x hx)
  · obtain ⟨x, hx, rfl⟩ := List.mem_map.mp h1
    obtain ⟨y, hy, rfl⟩ := List.mem_map.mp h2
    have : sub x y = true := by rw [← enc_sub (i x hx) (i y hy)]; exact decide_eq_true e
    rw [hp y hy x hx this]
theorem form_nodup {xs : List (List Int)} (h : mins xs = xs) : xs.Nodup := strict_nodup tot_lex (form_iff.mp h).1
theorem opp_ok {ms : List (List Int)} (h : Mks ms) (hs : span ms ≤ 8) : FOk (opp ms) := by
  have nr : ∀ x, x ∈ opp ms → ∀ o, o ∈ x → lowL ms ≤ o ∧ o ≤ lowL ms + 8 := opp_near (opp_of ms) fun m hm o ho => by
    have := h.near hm ho
    omega
  refine ⟨opp_mks h, ?_, ?_, opp_form h.some⟩
  · have := (opp_mks h).span_le nr
    omega
  · have := near_few (form_nodup (opp_form h.some)) (opp_of ms).asc nr (opp_of ms).apart
    omega
theorem opp_opp {ms : List (List Int)} (h : FOk ms) : opp (opp ms) = ms := by
  have q : Opp (opp ms) ms := opp_back (opp_of ms) h.mks.asc (form_iff.mp h.form).2
  rw [← opp_is q (opp_some h.mks.full)]
  exact h.form
theorem opp_blw_eq {ms ls : List (List Int)} (h : FOk ms) (k : FOk ls) : blw (opp ls) (opp ms) = blw ms ls :=
  opp_blw_iff (opp_of ms) (opp_of ls) h.mks.asc (form_iff.mp h.form).2 k.mks.asc (form_iff.mp k.form).2
/-- an offset more, as numbers -/
theorem in10_ins {low : Int} {x : List Int} {o : Int} (h : In10 low x) (h1 : low ≤ o) (h2 : o ≤ low + 9) : In10 low (ins x o) :=
  ⟨asc_ins x o, fun p hp => by cases mem_ins.mp hp with
    | inl q => exact h.lo p q
    | inr q => omega, fun p hp => by cases mem_ins.mp hp with
    | inl q => exact h.hi p q
    | inr q => omega⟩
theorem in10_one {low o : Int} (h1 : low ≤ o) (h2 : o ≤ low + 9) : In10 low [o] :=
  ⟨List.pairwise_singleton _ _, fun p hp => by rw [List.mem_singleton.mp hp]; exact h1, fun p hp => by rw [List.mem_singleton.mp hp]; exact h2⟩
theorem enc_ins {low : Int} {x : List Int} {o : Int} (h : In10 low x) (h1 : low ≤ o) (h2 : o ≤ low + 9) : enc low x ||| enc low [o] = enc low (ins x o) := by
  apply Nat.eq_of_testBit_eq
  intro j
  rw [Nat.testBit_or, (enc_bits h).2, (enc_bits (in10_one h1 h2)).2, (enc_bits (in10_ins h h1 h2)).2]
  rw [Bool.eq_iff_iff, Bool.or_eq_true, decide_eq_true_iff, decide_eq_true_iff, decide_eq_true_iff, mem_ins, List.mem_singleton]
theorem bitOr_nat (a b : Nat) : PySem.Builtin.bitOr (a : Int) (b : Int) = ((a ||| b : Nat) : Int) := by
  unfold PySem.Builtin.bitOr PySem.Builtin.bitAnd
  have h1 : PySem.Builtin.bitNot (a : Int) = -(a : Int) - 1 := rfl
  have h2 : PySem.Builtin.bitNot (b : Int) = -(b : Int) - 1 := rfl
  rw [decide_eq_false (show ¬ 0 ≤ PySem.Builtin.bitNot (a : Int) by omega), decide_eq_false (show ¬ 0 ≤ PySem.Builtin.bitNot (b : Int) by omega)]
  have h3 : ∀ i : Int, PySem.Builtin.bitNot (PySem.Builtin.bitNot i) = i := fun i => by
    unfold PySem.Builtin.bitNot
    omega
  show PySem.Builtin.bitNot (PySem.Builtin.bitNot _) = _
  rw [h3, h3, h3]
  rfl
theorem lcMM_map {α : Type} {k : α → D} {g : α → List D} {outer : D → M (List D)} : ∀ {as : List α}, (∀ a, a ∈ as → outer (k a) = M.ret (g a)) → lcMM outer (as.map k) = M.ret (as.flatMap g)
  | [], _ => rfl
  | a :: as, h => by
    rw [List.map_cons, List.flatMap_cons]
    show M.bind (M.quiet (outer (k a))) _ = _
    rw [h a List.mem_cons_self, quiet_ret, M.ret_bind, lcMM_map fun b hb => h b (List.mem_cons_of_mem _ hb), M.ret_bind]
theorem xLc2_map {α β : Type} (k : α → D) (k2 : β → D) (h : α → β → D) {as : List α} {bs : α → List β} {fi : Env' → M (List D)} {gt : D → Env' → Option Env'} {ft : Env' → M Bool} {fj : Env' → M (List D)} {gt1 : D → Env' → Option Env'} {ft1 : Env' → M Bool} {fe : Env' → M D} {vs vs1 : List Nat} {ρ : Env'}
    (hi : fi ρ = M.ret (as.map k)) (it : ∀ a, a ∈ as → ∃ ρ', gt (k a) (wipeE ρ vs) = some ρ' ∧ ft ρ' = M.ret true ∧ fj ρ' = M.ret ((bs a).map k2) ∧ ∀ b, b ∈ bs a → lcItem gt1 ft1 fe (wipeE ρ' vs1) (k2 b) = M.ret (some (h a b)))
    (sz : szOk (as.flatMap fun a => (bs a).map (h a)).length = true) : xLc2 fi gt ft fj gt1 ft1 fe vs vs1 ρ = M.ret (.list (as.flatMap fun a => (bs a).map (h a))) := by
  unfold xLc2
  rw [hi, M.ret_bind, lcMM_map (g := fun a => (bs a).map (h a)) fun a ha => ?_, M.ret_bind]
  · unfold lcFin
    rw [if_pos sz]
  · obtain ⟨ρ', e1, e2, e3, e4⟩ := it a ha
    show (match gt (k a) (wipeE ρ vs) with
      | none => M.no
      | some ρ' => M.bind (ft ρ') fun b => if b = true then M.bind (fj ρ') fun ds1 => lcM (lcItem gt1 ft1 fe (wipeE ρ' vs1)) ds1 else M.ret []) = _
    rw [e1]
    show M.bind (ft ρ') _ = _
    rw [e2, M.ret_bind, if_pos rfl, e3, M.ret_bind]
    have := lcM_pure (k := k2) (p := fun _ => true) (g := h a) (as := bs a) (item := lcItem gt1 ft1 fe (wipeE ρ' vs1)) fun b hb => by rw [e4 b hb]; rfl
    rw [this, List.filter_eq_self.mpr fun _ _ => rfl]
end DL
end L2

set_option Elab.async false
set_option linter.all false
set_option maxRecDepth 100000
/-! what filters do to rows: forms are equal if they do the same -/
namespace L2
namespace DL
open PySem
/-- whether a filter gives the place 0 of a row a dot -/
def ev (ms : List (List Int)) (X : Int → Bool) : Bool := ms.any fun m => m.all X
theorem ev_iff {ms : List (List Int)} {X : Int → Bool} : ev ms X = true ↔ ∃ m, m ∈ ms ∧ ∀ o, o ∈ m → X o = true := by
  unfold ev
  rw [List.any_eq_true]
  exact ⟨fun ⟨m, h, q⟩ => ⟨m, h, List.all_eq_true.mp q⟩, fun ⟨m, h, q⟩ => ⟨m, h, List.all_eq_true.mpr q⟩⟩
theorem ev_up {ms : List (List Int)} {X Y : Int → Bool} (h : ∀ o, X o = true → Y o = true) (e : ev ms X = true) : ev ms Y = true :=
  let ⟨m, hm, k⟩ := ev_iff.mp e; ev_iff.mpr ⟨m, hm, fun o ho => h o (k o ho)⟩
theorem ev_append (a b : List (List Int)) (X : Int → Bool) : ev (a ++ b) X = (ev a X || ev b X) := List.any_append
theorem ev_nil (X : Int → Bool) : ev [] X = false := rfl
theorem ev_one (m : List Int) (X : Int → Bool) : ev [m] X = m.all X := by unfold ev; simp
theorem ev_unit (X : Int → Bool) : ev [[]] X = true := rfl
theorem ev_mem {a b : List (List Int)} (h : ∀ z, z ∈ a ↔ z ∈ b) (X : Int → Bool) : ev a X = ev b X := by
  rw [Bool.eq_iff_iff, ev_iff, ev_iff]
  exact ⟨fun ⟨m, hm, k⟩ => ⟨m, (h m).mp hm, k⟩, fun ⟨m, hm, k⟩ => ⟨m, (h m).mpr hm, k⟩⟩
theorem ev_mins {ms : List (List Int)} (ha : ∀ m, m ∈ ms → Asc m) (X : Int → Bool) : ev (mins ms) X = ev ms X := by
  rw [Bool.eq_iff_iff, ev_iff, ev_iff]
  constructor
  · rintro ⟨m, hm, k⟩
    exact ⟨m, (mins_mem.mp hm).1, k⟩
  · rintro ⟨m, hm, k⟩
    obtain ⟨z, hz, s⟩ := mins_below ha _ m (Nat.le_refl _) hm
    exact ⟨z, hz, fun o ho => k o (sub_iff.mp s o ho)⟩
theorem ev_contains {ms : List (List Int)} {M : List Int} : ev ms (fun o => M.contains o) = ms.any fun m => sub m M := rfl
/-- in form -/
structure Nf (ms : List (List Int)) : Prop where
  asc : ∀ m, m ∈ ms → Asc m
  form : mins ms = ms
theorem nf_mins {ms : List (List Int)} (ha : ∀ m, m ∈ ms → Asc m) : Nf (mins ms) := ⟨fun m hm => ha m (mins_mem.mp hm).1, mins_idem ms⟩
theorem nf_sub {ms ls : List (List Int)} (h : Nf ms) (k : Nf ls) (e : ∀ X, ev ms X = ev ls X) : ∀ z, z ∈ ms → z ∈ ls := by
  intro z hz
  have e1 : ev ms (fun o => z.contains o) = true := by
    rw [ev_contains]
    exact List.any_eq_true.mpr ⟨z, hz, sub_refl z⟩
  have e2 := e1
  rw [e, ev_contains] at e2
  obtain ⟨l, hl, sl⟩ := List.any_eq_true.mp e2
  have e3 : ev ls (fun o => l.contains o) = true := by
    rw [ev_contains]
    exact List.any_eq_true.mpr ⟨l, hl, sub_refl l⟩
  rw [← e, ev_contains] at e3
  obtain ⟨m, hm, sm⟩ := List.any_eq_true.mp e3
  have em : m = z := (form_iff.mp h.form).2 z hz m hm (sub_tr _ _ _ sm sl)
  subst em
  have el : l = m := asc_ext (k.asc l hl) (h.asc m hm) fun o => ⟨fun q => sub_iff.mp sl o q, fun q => sub_iff.mp sm o q⟩
  rw [← el]; exact hl
theorem form_same {ms ls : List (List Int)} (h : mins ms = ms) (k : mins ls = ls) (m : ∀ z, z ∈ ms ↔ z ∈ ls) : ms = ls := by
  have s1 := (form_iff.mp h).1
  have s2 := (form_iff.mp k).1
  rw [srtU_uniq tot_lex (strict_nodup tot_lex s1) m (s1.imp fun {a b} q => tot_lex.asym q)]
  exact (srtU_uniq tot_lex (strict_nodup tot_lex s2) (fun z => Iff.rfl) (s2.imp fun {a b} q => tot_lex.asym q)).symm
theorem nf_ext {ms ls : List (List Int)} (h : Nf ms) (k : Nf ls) (e : ∀ X, ev ms X = ev ls X) : ms = ls :=
  form_same h.form k.form fun z => ⟨nf_sub h k e z, nf_sub k h (fun X => (e X).symm) z⟩
theorem blw_ev {ms ls : List (List Int)} : blw ms ls = true ↔ ∀ X, ev ms X = true → ev ls X = true := by
  rw [blw_iff]
  constructor
  · intro h X e
    obtain ⟨m, hm, k⟩ := ev_iff.mp e
    obtain ⟨l, hl, s⟩ := h m hm
    exact ev_iff.mpr ⟨l, hl, fun o ho => k o (sub_iff.mp s o ho)⟩
  · intro h m hm
    have := h (fun o => m.contains o) (by rw [ev_contains]; exact List.any_eq_true.mpr ⟨m, hm, sub_refl m⟩)
    rw [ev_contains] at this
    exact List.any_eq_true.mp this
/-! a filter with offsets from a to b -/
class Fr (ms : List (List Int)) (a b : outParam Int) : Prop where
  mks : Mks ms
  form : mins ms = ms
  lo : ∀ m, m ∈ ms → ∀ o, o ∈ m → a ≤ o
  hi : ∀ m, m ∈ ms → ∀ o, o ∈ m → o ≤ b
class Mk (m : List Int) (a b : outParam Int) : Prop where
  asc : Asc m
  some : m ≠ []
  lo : ∀ o, o ∈ m → a ≤ o
  hi : ∀ o, o ∈ m → o ≤ b
theorem Fr.nf {ms : List (List Int)} {a b : Int} (h : Fr ms a b) : Nf ms := ⟨h.mks.asc, h.form⟩
theorem Fr.span {ms : List (List Int)} {a b : Int} (h : Fr ms a b) : span ms ≤ b - a := h.mks.span_le fun m hm o ho => ⟨h.lo m hm o ho, h.hi m hm o ho⟩
theorem Fr.few {ms : List (List Int)} {a b : Int} (h : Fr ms a b) (hs : b - a ≤ 8) : ms.length ≤ 126 :=
  near_few (low := a) (form_nodup h.form) h.mks.asc (fun x hx o ho => ⟨h.lo x hx o ho, by have := h.hi x hx o ho; omega⟩) (form_iff.mp h.form).2
theorem Fr.ok {ms : List (List Int)} {a b : Int} (h : Fr ms a b) (hs : b - a ≤ 8) : FOk ms := ⟨h.mks, by have := h.span; omega, by have := h.few hs; omega, h.form⟩
theorem FOk.fr {ms : List (List Int)} (h : FOk ms) : Fr ms (lowL ms) (highL ms) := ⟨h.mks, h.form, fun m hm o ho => h.mks.low_le hm ho, fun m hm o ho => h.mks.le_high hm ho⟩
theorem Fr.of_form {ms : List (List Int)} {a b : Int} (h : Mks ms) (hl : ∀ m, m ∈ ms → ∀ o, o ∈ m → a ≤ o ∧ o ≤ b) : Fr (mins ms) a b :=
  ⟨⟨mins_some h.some h.asc, fun m hm => h.asc m (mins_mem.mp hm).1, fun m hm => h.full m (mins_mem.mp hm).1⟩, mins_idem ms, fun m hm o ho => (hl m (mins_mem.mp hm).1 o ho).1, fun m hm o ho => (hl m (mins_mem.mp hm).1 o ho).2⟩
theorem Fr.le {ms : List (List Int)} {a b c d : Int} (h : Fr ms a b) (h1 : c ≤ a) (h2 : b ≤ d) : Fr ms c d :=
  ⟨h.mks, h.form, fun m hm o ho => by have := h.lo m hm o ho; omega, fun m hm o ho => by have := h.hi m hm o ho; omega⟩
theorem Filt.fr {ms : List (List Int)} {a b : Int} (h : Filt a b ms) : Fr ms a b := ⟨h.mks, h.form, h.lo, h.hi⟩
theorem MaskIn.mkc {m : List Int} {k : Int} (h : MaskIn k m) : Mk m (-k) k := ⟨h.asc, h.some, h.lo, h.hi⟩
theorem Mk.le {m : List Int} {a b c d : Int} (h : Mk m a b) (h1 : c ≤ a) (h2 : b ≤ d) : Mk m c d :=
  ⟨h.asc, h.some, fun o ho => by have := h.lo o ho; omega, fun o ho => by have := h.hi o ho; omega⟩
theorem fr_ext {ms ls : List (List Int)} {a b c d : Int} (h : Fr ms a b) (k : Fr ls c d) (e : ∀ X, ev ms X = ev ls X) : ms = ls := nf_ext h.nf k.nf e
/-! opposites -/
theorem ev_opp (ms : List (List Int)) (X : Int → Bool) : ev (opp ms) X = !ev ms (fun o => !X o) := by
  have := opp_hd (opp_of ms) (fun o => !X o)
  unfold ev
  rw [← this]
  congr 1
  funext x
  congr 1
  funext o
  rw [Bool.not_not]
instance fr_opp (ms : List (List Int)) (a b : Int) [h : Fr ms a b] : Fr (opp ms) a b :=
  ⟨opp_mks h.mks, opp_form h.mks.some, fun x hx o ho => (opp_near (opp_of ms) (fun m hm o ho => ⟨h.lo m hm o ho, h.hi m hm o ho⟩) x hx o ho).1, fun x hx o ho => (opp_near (opp_of ms) (fun m hm o ho => ⟨h.lo m hm o ho, h.hi m hm o ho⟩) x hx o ho).2⟩
/-! joined masks -/
def uni (x y : List Int) : List Int := srtU ltI (x ++ y)
theorem mem_uni {x y : List Int} {z : Int} : z ∈ uni x y ↔ z ∈ x ∨ z ∈ y := by
  unfold uni
  rw [srtU_mem tot_int, List.mem_append]
theorem asc_srtU (x : List Int) : Asc (srtU ltI x) := (srtU_sorted tot_int x).imp fun {a b} h => of_decide_eq_true h
theorem asc_uni (x y : List Int) : Asc (uni x y) := asc_srtU _
theorem all_uni (x y : List Int) (X : Int → Bool) : (uni x y).all X = (x.all X && y.all X) := by
  rw [Bool.eq_iff_iff, Bool.and_eq_true, List.all_eq_true, List.all_eq_true, List.all_eq_true]
  exact ⟨fun h => ⟨fun o ho => h o (mem_uni.mpr (.inl ho)), fun o ho => h o (mem_uni.mpr (.inr ho))⟩, fun h o ho => (mem_uni.mp ho).elim (h.1 o) (h.2 o)⟩
/-- the unions of two filters' masks -/
def unis (a b : List (List Int)) : List (List Int) := a.flatMap fun m => b.map fun l => uni m l
theorem mem_unis {a b : List (List Int)} {z : List Int} : z ∈ unis a b ↔ ∃ m l, m ∈ a ∧ l ∈ b ∧ z = uni m l := by
  unfold unis
  rw [List.mem_flatMap]
  constructor
  · rintro ⟨x, hx, q⟩
    obtain ⟨o, ho, e⟩ := List.mem_map.mp q
    exact ⟨x, o, hx, ho, e.symm⟩
  · rintro ⟨x, o, hx, ho, e⟩
    exact ⟨x, hx, List.mem_map.mpr ⟨o, ho, e.symm⟩⟩
theorem asc_unis {a b : List (List Int)} : ∀ z, z ∈ unis a b → Asc z := fun z hz => by
  obtain ⟨m, l, _, _, rfl⟩ := mem_unis.mp hz
  exact asc_uni m l
theorem ev_unis (a b : List (List Int)) (X : Int → Bool) : ev (unis a b) X = (ev a X && ev b X) := by
  rw [Bool.eq_iff_iff, Bool.and_eq_true, ev_iff, ev_iff, ev_iff]
  constructor
  · rintro ⟨z, hz, k⟩
    obtain ⟨m, l, hm, hl, rfl⟩ := mem_unis.mp hz
    exact ⟨⟨m, hm, fun o ho => k o (mem_uni.mpr (.inl ho))⟩, ⟨l, hl, fun o ho => k o (mem_uni.mpr (.inr ho))⟩⟩
  · rintro ⟨⟨m, hm, k1⟩, ⟨l, hl, k2⟩⟩
    exact ⟨uni m l, mem_unis.mpr ⟨m, l, hm, hl, rfl⟩, fun o ho => (mem_uni.mp ho).elim (k1 o) (k2 o)⟩
theorem mks_unis {a b : List (List Int)} (ha : a ≠ []) (hb : b ≠ []) (hf : ∀ m, m ∈ a → m ≠ []) : Mks (unis a b) := by
  refine ⟨?_, asc_unis, fun z hz e => ?_⟩
  · obtain ⟨m, as, rfl⟩ := List.exists_cons_of_ne_nil ha
    obtain ⟨l, bs, rfl⟩ := List.exists_cons_of_ne_nil hb
    intro e
    have : uni m l ∈ unis (m :: as) (l :: bs) := mem_unis.mpr ⟨m, l, List.mem_cons_self, List.mem_cons_self, rfl⟩
    rw [e] at this
    cases this
  · obtain ⟨m, l, hm, hl, rfl⟩ := mem_unis.mp hz
    obtain ⟨o, os, em⟩ := List.exists_cons_of_ne_nil (hf m hm)
    have : o ∈ uni m l := mem_uni.mpr (.inl (by rw [em]; exact List.mem_cons_self))
    rw [e] at this
    cases this
def join (a b : List (List Int)) : List (List Int) := mins (a ++ b)
def meet (a b : List (List Int)) : List (List Int) := mins (unis a b)
theorem ev_join {a b : List (List Int)} (ha : ∀ m, m ∈ a → Asc m) (hb : ∀ m, m ∈ b → Asc m) (X : Int → Bool) : ev (join a b) X = (ev a X || ev b X) := by
  unfold join
  rw [ev_mins (fun m hm => (List.mem_append.mp hm).elim (ha m) (hb m)), ev_append]
theorem ev_meet (a b : List (List Int)) (X : Int → Bool) : ev (meet a b) X = (ev a X && ev b X) := by
  unfold meet
  rw [ev_mins asc_unis, ev_unis]
theorem Mks.append {a b : List (List Int)} (h : Mks a) (k : Mks b) : Mks (a ++ b) :=
  ⟨fun e => h.some (List.append_eq_nil_iff.mp e).1, fun m hm => (List.mem_append.mp hm).elim (h.asc m) (k.asc m), fun m hm => (List.mem_append.mp hm).elim (h.full m) (k.full m)⟩
instance fr_join (x y : List (List Int)) (a b c d : Int) [h : Fr x a b] [k : Fr y c d] : Fr (join x y) (min a c) (max b d) :=
  Fr.of_form (h.mks.append k.mks) fun m hm o ho => (List.mem_append.mp hm).elim (fun q => by have := h.lo m q o ho; have := h.hi m q o ho; omega) (fun q => by have := k.lo m q o ho; have := k.hi m q o ho; omega)
instance fr_meet (x y : List (List Int)) (a b c d : Int) [h : Fr x a b] [k : Fr y c d] : Fr (meet x y) (min a c) (max b d) :=
  Fr.of_form (mks_unis h.mks.some k.mks.some h.mks.full) fun m hm o ho => by
    obtain ⟨u, v, hu, hv, rfl⟩ := mem_unis.mp hm
    exact (mem_uni.mp ho).elim (fun q => by have := h.lo u hu o q; have := h.hi u hu o q; omega) (fun q => by have := k.lo v hv o q; have := k.hi v hv o q; omega)
/-! one behind the other -/
def mvs (s : Int) (ms : List (List Int)) : List (List Int) := ms.map (mv s)
theorem ev_mvs (s : Int) (ms : List (List Int)) (X : Int → Bool) : ev (mvs s ms) X = ev ms (fun o => X (o + s)) := by
  unfold ev mvs
  rw [List.any_map]
  congr 1
  funext m
  show (m.map (· + s)).all X = _
  rw [List.all_map]
  rfl
def aftM (other : List (List Int)) (m : List Int) : List (List Int) := m.foldl (fun S o => mins (unis S (mvs o other))) [[]]
theorem aftM_snoc (other : List (List Int)) (m : List Int) (o : Int) : aftM other (m ++ [o]) = mins (unis (aftM other m) (mvs o other)) := by
  unfold aftM
  rw [List.foldl_append]
  rfl
theorem snoc_ind {α : Type} {P : List α → Prop} (h0 : P []) (h : ∀ l a, P l → P (l ++ [a])) : ∀ l, P l := by
  have key : ∀ (n : Nat) (l : List α), l.length = n → P l := by
    intro n
    induction n with
    | zero => intro l hl; rw [List.length_eq_zero_iff.mp hl]; exact h0
    | succ n ih =>
      intro l hl
      have hne : l ≠ [] := fun e => by rw [e] at hl; cases hl
      rw [← List.dropLast_concat_getLast hne]
      exact h _ _ (ih _ (by rw [List.length_dropLast]; omega))
  exact fun l => key _ l rfl
theorem ev_aftM (other : List (List Int)) (m : List Int) (X : Int → Bool) : ev (aftM other m) X = m.all fun o => ev other (fun p => X (p + o)) := by
  induction m using snoc_ind with
  | h0 => rfl
  | h m o ih =>
    rw [aftM_snoc, ev_mins asc_unis, ev_unis, ih, ev_mvs, List.all_append]
    simp
theorem aftM_asc (other : List (List Int)) (m : List Int) : ∀ z, z ∈ aftM other m → Asc z := by
  induction m using snoc_ind with
  | h0 => intro z hz; rw [List.mem_singleton.mp hz]; exact List.Pairwise.nil
  | h m o ih =>
    rw [aftM_snoc]
    exact fun z hz => asc_unis z (mins_mem.mp hz).1
theorem aftM_form (other : List (List Int)) (m : List Int) : mins (aftM other m) = aftM other m := by
  induction m using snoc_ind with
  | h0 => exact (by decide : mins ([[]] : List (List Int)) = [[]])
  | h m o ih =>
    rw [aftM_snoc]
    exact mins_idem _
theorem aftM_near {other : List (List Int)} {c d : Int} (hl : ∀ l, l ∈ other → ∀ p, p ∈ l → c ≤ p ∧ p ≤ d) (m : List Int) : ∀ z, z ∈ aftM other m → ∀ p, p ∈ z → ∃ o, o ∈ m ∧ o + c ≤ p ∧ p ≤ o + d := by
  induction m using snoc_ind with
  | h0 => intro z hz p hp; rw [List.mem_singleton.mp hz] at hp; cases hp
  | h m o ih =>
    rw [aftM_snoc]
    intro z hz p hp
    obtain ⟨u, v, hu, hv, rfl⟩ := mem_unis.mp (mins_mem.mp hz).1
    rcases mem_uni.mp hp with q | q
    · obtain ⟨o', h1, h2⟩ := ih u hu p q
      exact ⟨o', List.mem_append_left _ h1, h2⟩
    · obtain ⟨l, hl', rfl⟩ := List.mem_map.mp hv
      have := hl l hl' _ (mem_mv.mp q)
      exact ⟨o, List.mem_append_right _ List.mem_cons_self, by omega, by omega⟩
theorem aftM_some {other : List (List Int)} (h : other ≠ []) (m : List Int) : aftM other m ≠ [] := by
  induction m using snoc_ind with
  | h0 => simp [aftM]
  | h m o ih =>
    rw [aftM_snoc]
    refine mins_some ?_ asc_unis
    obtain ⟨u, us, e1⟩ := List.exists_cons_of_ne_nil ih
    obtain ⟨v, vs, rfl⟩ := List.exists_cons_of_ne_nil h
    intro e
    have : uni u (mv o v) ∈ unis (aftM (v :: vs) m) (mvs o (v :: vs)) := mem_unis.mpr ⟨u, mv o v, by rw [e1]; exact List.mem_cons_self, List.mem_cons_self, rfl⟩
    rw [e] at this
    cases this
theorem aftM_full {other : List (List Int)} (hf : ∀ l, l ∈ other → l ≠ []) {m : List Int} (hm : m ≠ []) : ∀ z, z ∈ aftM other m → z ≠ [] := by
  obtain ⟨l, o, rfl⟩ : ∃ l' a, m = l' ++ [a] := ⟨m.dropLast, m.getLast hm, (List.dropLast_concat_getLast hm).symm⟩
  rw [aftM_snoc]
  intro z hz e
  obtain ⟨u, v, hu, hv, rfl⟩ := mem_unis.mp (mins_mem.mp hz).1
  obtain ⟨w, hw, rfl⟩ := List.mem_map.mp hv
  obtain ⟨p, ps, ew⟩ := List.exists_cons_of_ne_nil (hf w hw)
  have : p + o ∈ uni u (mv o w) := mem_uni.mpr (.inr (List.mem_map.mpr ⟨p, by rw [ew]; exact List.mem_cons_self, rfl⟩))
  rw [e] at this
  cases this
def aftL (one other : List (List Int)) : List (List Int) := one.flatMap (aftM other)
theorem mem_aftL {one other : List (List Int)} {z : List Int} : z ∈ aftL one other ↔ ∃ m, m ∈ one ∧ z ∈ aftM other m := List.mem_flatMap
def aft (one other : List (List Int)) : List (List Int) := mins (aftL one other)
theorem asc_aftL {one other : List (List Int)} : ∀ z, z ∈ aftL one other → Asc z := fun z hz => let ⟨m, _, h⟩ := mem_aftL.mp hz; aftM_asc other m z h
theorem ev_aftL (one other : List (List Int)) (X : Int → Bool) : ev (aftL one other) X = ev one (fun o => ev other (fun p => X (p + o))) := by
  rw [Bool.eq_iff_iff, ev_iff]
  constructor
  · rintro ⟨z, hz, k⟩
    obtain ⟨m, hm, hz'⟩ := mem_aftL.mp hz
    have : ev (aftM other m) X = true := ev_iff.mpr ⟨z, hz', k⟩
    rw [ev_aftM] at this
    exact ev_iff.mpr ⟨m, hm, List.all_eq_true.mp this⟩
  · intro h
    obtain ⟨m, hm, k⟩ := ev_iff.mp h
    have : ev (aftM other m) X = true := by rw [ev_aftM]; exact List.all_eq_true.mpr k
    obtain ⟨z, hz, k2⟩ := ev_iff.mp this
    exact ⟨z, mem_aftL.mpr ⟨m, hm, hz⟩, k2⟩
theorem ev_aft (one other : List (List Int)) (X : Int → Bool) : ev (aft one other) X = ev one (fun o => ev other (fun p => X (p + o))) := by
  unfold aft
  rw [ev_mins asc_aftL, ev_aftL]
theorem mks_aftL {one other : List (List Int)} (h : Mks one) (k : Mks other) : Mks (aftL one other) := by
  refine ⟨fun e => ?_, asc_aftL, fun z hz => ?_⟩
  · obtain ⟨m, l, rfl⟩ := List.exists_cons_of_ne_nil h.some
    obtain ⟨z, zs, ez⟩ := List.exists_cons_of_ne_nil (aftM_some k.some m)
    have : z ∈ aftL (m :: l) other := mem_aftL.mpr ⟨m, List.mem_cons_self, by rw [ez]; exact List.mem_cons_self⟩
    rw [e] at this
    cases this
  · obtain ⟨m, hm, hz'⟩ := mem_aftL.mp hz
    exact aftM_full k.full (h.full m hm) z hz'
theorem near_aftL {one other : List (List Int)} {a b c d : Int} (h : ∀ m, m ∈ one → ∀ o, o ∈ m → a ≤ o ∧ o ≤ b) (k : ∀ m, m ∈ other → ∀ o, o ∈ m → c ≤ o ∧ o ≤ d) : ∀ z, z ∈ aftL one other → ∀ o, o ∈ z → a + c ≤ o ∧ o ≤ b + d := fun z hz p hp => by
  obtain ⟨m, hm, hz'⟩ := mem_aftL.mp hz
  obtain ⟨o, ho, h1, h2⟩ := aftM_near k m z hz' p hp
  have := h m hm o ho
  omega
theorem Fr.both {ms : List (List Int)} {a b : Int} (h : Fr ms a b) : ∀ m, m ∈ ms → ∀ o, o ∈ m → a ≤ o ∧ o ≤ b := fun m hm o ho => ⟨h.lo m hm o ho, h.hi m hm o ho⟩
instance fr_aft (x y : List (List Int)) (a b c d : Int) [h : Fr x a b] [k : Fr y c d] : Fr (aft x y) (a + c) (b + d) := Fr.of_form (mks_aftL h.mks k.mks) (near_aftL h.both k.both)
/-! moved, mirrored -/
instance fr_mvs (s : Int) (x : List (List Int)) (a b : Int) [h : Fr x a b] : Fr (mvs s x) (a + s) (b + s) where
  mks := ⟨by simp [mvs, h.mks.some], fun m hm => by
    obtain ⟨m', h', rfl⟩ := List.mem_map.mp hm
    exact asc_mv (h.mks.asc m' h'), fun m hm => by
    obtain ⟨m', h', rfl⟩ := List.mem_map.mp hm
    have := h.mks.full m' h'
    unfold DL.mv
    simp [this]⟩
  form := by
    obtain ⟨h1, h2⟩ := form_iff.mp h.form
    refine form_iff.mpr ⟨?_, fun x hx y hy hs => ?_⟩
    · unfold mvs
      rw [List.pairwise_map]
      exact h1.imp fun {a b} q => by rw [lexLt_mv]; exact q
    · obtain ⟨x', hx', rfl⟩ := List.mem_map.mp hx
      obtain ⟨y', hy', rfl⟩ := List.mem_map.mp hy
      rw [sub_mv] at hs
      rw [h2 x' hx' y' hy' hs]
  lo := fun m hm o ho => by
    obtain ⟨m', h', rfl⟩ := List.mem_map.mp hm
    have := h.lo m' h' _ (mem_mv.mp ho)
    omega
  hi := fun m hm o ho => by
    obtain ⟨m', h', rfl⟩ := List.mem_map.mp hm
    have := h.hi m' h' _ (mem_mv.mp ho)
    omega
def mir (ms : List (List Int)) : List (List Int) := srtG HT.lexLt (ms.map ng)
theorem mem_mir {ms : List (List Int)} {m : List Int} : m ∈ mir ms ↔ ∃ m', m' ∈ ms ∧ ng m' = m := by
  unfold mir
  rw [(srtG_perm _).mem_iff, List.mem_map]
theorem all_ng (m : List Int) (X : Int → Bool) : (ng m).all X = m.all fun o => X (-o) := by
  unfold ng
  rw [List.all_map, List.all_reverse]
  rfl
theorem ev_mir (ms : List (List Int)) (X : Int → Bool) : ev (mir ms) X = ev ms (fun o => X (-o)) := by
  rw [ev_mem (a := mir ms) (b := ms.map ng) (fun z => (srtG_perm _).mem_iff)]
  unfold ev
  rw [List.any_map]
  congr 1
  funext m
  exact all_ng m X
instance fr_mir (x : List (List Int)) (a b : Int) [h : Fr x a b] : Fr (mir x) (-b) (-a) := by
  have pm := srtG_perm (lt := HT.lexLt) (x.map ng)
  obtain ⟨h1, h2⟩ := form_iff.mp h.form
  have nd : (mir x).Nodup := pm.nodup_iff.mpr (List.pairwise_map.mpr ((strict_nodup tot_lex h1).imp fun {a b} ne e => ne (ng_inj e)))
  refine ⟨⟨?_, fun m hm => ?_, fun m hm => ?_⟩, form_iff.mpr ⟨?_, fun x hx y hy hs => ?_⟩, fun m hm o ho => ?_, fun m hm o ho => ?_⟩
  · intro e
    have := pm.length_eq
    rw [show srtG HT.lexLt (x.map ng) = [] from e, List.length_map] at this
    exact h.mks.some (List.eq_nil_of_length_eq_zero this.symm)
  · obtain ⟨m', h', rfl⟩ := mem_mir.mp hm
    exact asc_ng (h.mks.asc m' h')
  · obtain ⟨m', h', rfl⟩ := mem_mir.mp hm
    have := h.mks.full m' h'
    unfold ng
    simp [this]
  · have s := srtG_sorted tot_lex (x.map ng)
    refine (List.pairwise_and_iff.mpr ⟨s, nd⟩).imp fun {a b} q => ?_
    rcases tot_lex.cmp a b with c | c | c
    · exact c
    · exact absurd c q.2
    · rw [q.1] at c; cases c
  · obtain ⟨x', hx', rfl⟩ := mem_mir.mp hx
    obtain ⟨y', hy', rfl⟩ := mem_mir.mp hy
    rw [sub_ng] at hs
    rw [h2 x' hx' y' hy' hs]
  · obtain ⟨m', h', rfl⟩ := mem_mir.mp hm
    have := h.hi m' h' _ (mem_ng.mp ho)
    omega
  · obtain ⟨m', h', rfl⟩ := mem_mir.mp hm
    have := h.lo m' h' _ (mem_ng.mp ho)
    omega
/-! thinnings, thickenings, openings -/
theorem form_one (m : List Int) : mins [m] = [m] := form_iff.mpr ⟨List.pairwise_singleton _ _, fun x hx y hy _ => by rw [List.mem_singleton.mp hx, List.mem_singleton.mp hy]⟩
instance fr_thin (m : List Int) (a b : Int) [h : Mk m a b] : Fr [m] a b :=
  ⟨⟨by simp, fun x hx => by rw [List.mem_singleton.mp hx]; exact h.asc, fun x hx => by rw [List.mem_singleton.mp hx]; exact h.some⟩, form_one m, fun x hx => by rw [List.mem_singleton.mp hx]; exact h.lo, fun x hx => by rw [List.mem_singleton.mp hx]; exact h.hi⟩
def thick (m : List Int) : List (List Int) := m.map fun o => [o]
theorem ev_thick (m : List Int) (X : Int → Bool) : ev (thick m) X = m.any X := by
  unfold ev thick
  rw [List.any_map]
  congr 1
  funext o
  simp
instance fr_thick (m : List Int) (a b : Int) [h : Mk m a b] : Fr (thick m) a b where
  mks := ⟨by simp [thick, h.some], fun x hx => by
    obtain ⟨o, _, rfl⟩ := List.mem_map.mp hx
    exact List.pairwise_singleton _ _, fun x hx => by
    obtain ⟨o, _, rfl⟩ := List.mem_map.mp hx
    simp⟩
  form := form_iff.mpr ⟨by
    unfold thick
    rw [List.pairwise_map]
    refine h.asc.imp fun {a b} q => ?_
    rw [HT.lexLt_cons, if_neg (by omega)]
    exact decide_eq_true q, fun x hx y hy hs => by
    obtain ⟨o, _, rfl⟩ := List.mem_map.mp hx
    obtain ⟨p, _, rfl⟩ := List.mem_map.mp hy
    have := sub_iff.mp hs p List.mem_cons_self
    rw [List.mem_singleton.mp this]⟩
  lo := fun x hx o ho => by
    obtain ⟨p, hp, rfl⟩ := List.mem_map.mp hx
    rw [List.mem_singleton.mp ho]
    exact h.lo p hp
  hi := fun x hx o ho => by
    obtain ⟨p, hp, rfl⟩ := List.mem_map.mp hx
    rw [List.mem_singleton.mp ho]
    exact h.hi p hp
def openL (m : List Int) : List (List Int) := m.map fun e => mv (-e) m
def opn (m : List Int) : List (List Int) := mins (openL m)
theorem asc_openL {m : List Int} (h : Asc m) : ∀ z, z ∈ openL m → Asc z := fun z hz => by
  obtain ⟨e, _, rfl⟩ := List.mem_map.mp hz
  exact asc_mv h
theorem ev_opn {m : List Int} (h : Asc m) (X : Int → Bool) : ev (opn m) X = m.any fun e => m.all fun o => X (o + -e) := by
  unfold opn
  rw [ev_mins (asc_openL h)]
  unfold ev openL
  rw [List.any_map]
  congr 1
  funext e
  show (m.map (· + -e)).all X = _
  rw [List.all_map]
  rfl
theorem mks_openL {m : List Int} (h : Asc m) (hn : m ≠ []) : Mks (openL m) :=
  ⟨by simp [openL, hn], asc_openL h, fun z hz => by
    obtain ⟨e, _, rfl⟩ := List.mem_map.mp hz
    unfold mv
    simp [hn]⟩
theorem near_openL {m : List Int} {a b : Int} (h1 : ∀ o, o ∈ m → a ≤ o) (h2 : ∀ o, o ∈ m → o ≤ b) : ∀ z, z ∈ openL m → ∀ o, o ∈ z → a - b ≤ o ∧ o ≤ b - a := fun z hz o ho => by
  obtain ⟨e, he, rfl⟩ := List.mem_map.mp hz
  have h3 := mem_mv.mp ho
  have := h1 _ h3
  have := h2 _ h3
  have := h1 _ he
  have := h2 _ he
  omega
instance fr_opn (m : List Int) (a b : Int) [h : Mk m a b] : Fr (opn m) (a - b) (b - a) := Fr.of_form (mks_openL h.asc h.some) (near_openL h.lo h.hi)
/-! rings -/
theorem hd_ev (ms : List (List Int)) (bs : List Bool) (p : Int) : hd ms bs p = ev ms (fun o => cyc bs (p + o)) := rfl
theorem cyc_app' {ms : List (List Int)} {bs : List Bool} (hn : 0 < bs.length) (i : Int) : cyc (app ms bs) i = ev ms (fun o => cyc bs (i + o)) := cyc_app hn i
theorem app_aft {one other : List (List Int)} {bs : List Bool} (hn : 0 < bs.length) : app (aft one other) bs = app one (app other bs) := by
  refine cyc_ext (by simp only [app_len]) fun i => ?_
  rw [cyc_app' hn, cyc_app' (by rw [app_len]; exact hn), ev_aft]
  congr 1
  funext o
  rw [cyc_app' hn]
  congr 1
  funext p
  congr 1
  omega
def swp (bs : List Bool) : List Bool := bs.map (!·)
theorem swp_len (bs : List Bool) : (swp bs).length = bs.length := List.length_map ..
theorem swp_swp (bs : List Bool) : swp (swp bs) = bs := by
  unfold swp
  rw [List.map_map]
  have : ((fun b : Bool => !b) ∘ fun b => !b) = id := by funext b; simp
  rw [this, List.map_id]
theorem cyc_swp {bs : List Bool} (hn : 0 < bs.length) (i : Int) : cyc (swp bs) i = !cyc bs i := by
  have h0 := Int.emod_nonneg i (show (bs.length : Int) ≠ 0 by omega)
  have h1 := Int.emod_lt_of_pos i (show (0 : Int) < bs.length by omega)
  unfold cyc
  rw [swp_len]
  generalize hk : (i % (bs.length : Int)).toNat = k
  have hkl : k < bs.length := by omega
  unfold swp
  rw [List.getD_eq_getElem?_getD, List.getD_eq_getElem?_getD, List.getElem?_map, List.getElem?_eq_getElem hkl]
  rfl
theorem app_opp {ms : List (List Int)} {bs : List Bool} (hn : 0 < bs.length) : app (opp ms) (swp bs) = swp (app ms bs) := by
  refine cyc_ext (by simp only [app_len, swp_len]) fun i => ?_
  rw [cyc_app' (by rw [swp_len]; exact hn), cyc_swp (by rw [app_len]; exact hn), cyc_app' hn, ev_opp]
  congr 2
  funext o
  rw [cyc_swp hn, Bool.not_not]
end DL
end L2

set_option Elab.async false
set_option linter.all false
set_option maxRecDepth 100000
/-! steps that are taken by themselves -/
namespace L2
namespace DL
open PySem
/-! names -/
class GetR (ρ : Env') (i : Nat) (d : outParam D) : Prop where
  eq : ρ[i]? = some (some d)
instance getR_0 (d : D) (ρ : Env') : GetR (some d :: ρ) 0 d := ⟨rfl⟩
instance getR_s (x : Option D) (ρ : Env') (i : Nat) (d : D) [h : GetR ρ i d] : GetR (x :: ρ) (i + 1) d := ⟨by rw [List.getElem?_cons_succ]; exact h.eq⟩
class SetR (ρ : Env') (i : Nat) (v : Option D) (ρ' : outParam Env') : Prop where
  eq : ρ.set i v = ρ'
  lt : i < ρ.length
instance setR_0 (x v : Option D) (ρ : Env') : SetR (x :: ρ) 0 v (v :: ρ) := ⟨rfl, by simp⟩
instance setR_s (x v : Option D) (ρ ρ' : Env') (i : Nat) [h : SetR ρ i v ρ'] : SetR (x :: ρ) (i + 1) v (x :: ρ') := ⟨by rw [List.set_cons_succ, h.eq], by simpa using h.lt⟩
class LenR (ds : List D) (n : outParam Nat) : Prop where
  eq : ds.length = n
  nd : ds.all nd = true
class Nd (d : D) : Prop where
  eq : nd d = true
instance nd_1 (i : Int) : Nd (.int i) := ⟨rfl⟩
instance nd_2 (i : Bool) : Nd (.bool i) := ⟨rfl⟩
instance nd_3 (i : Str) : Nd (.str i) := ⟨rfl⟩
instance nd_4 (i : List D) : Nd (.tuple i) := ⟨rfl⟩
instance nd_5 (i : List D) : Nd (.list i) := ⟨rfl⟩
instance nd_6 : Nd .none := ⟨rfl⟩
instance nd_7 (i : List Int) : Nd (mkI i) := ⟨rfl⟩
instance nd_8 (i : List (List Int)) : Nd (mkF i) := ⟨rfl⟩
instance nd_9 (i : List Bool) : Nd (rt i) := ⟨rfl⟩
instance nd_10 (i : Bool) : Nd (sgD i) := ⟨rfl⟩
instance lenR_0 : LenR [] 0 := ⟨rfl, rfl⟩
instance lenR_s (d : D) (ds : List D) (n : Nat) [h : Nd d] [k : LenR ds n] : LenR (d :: ds) (n + 1) := ⟨by rw [List.length_cons, k.eq], by rw [List.all_cons, h.eq, k.nd]; rfl⟩
/-! forms of data -/
class IsI (d : D) (m : outParam (List Int)) : Prop where
  eq : d = mkI m
class IsIs (ds : List D) (m : outParam (List Int)) : Prop where
  eq : ds = m.map .int
class IsF (d : D) (ms : outParam (List (List Int))) : Prop where
  eq : d = mkF ms
class IsFs (ds : List D) (ms : outParam (List (List Int))) : Prop where
  eq : ds = ms.map mkI
instance isI_0 (m : List Int) : IsI (mkI m) m := ⟨rfl⟩
instance isIs_0 : IsIs [] [] := ⟨rfl⟩
instance isIs_s (i : Int) (ds : List D) (m : List Int) [h : IsIs ds m] : IsIs (.int i :: ds) (i :: m) := ⟨by rw [h.eq]; rfl⟩
instance isI_1 (ds : List D) (m : List Int) [h : IsIs ds m] : IsI (.tuple ds) m := ⟨by rw [h.eq]; rfl⟩
instance isF_0 (m : List (List Int)) : IsF (mkF m) m := ⟨rfl⟩
instance isFs_0 : IsFs [] [] := ⟨rfl⟩
instance isFs_s (d : D) (ds : List D) (m : List Int) (ms : List (List Int)) [k : IsI d m] [h : IsFs ds ms] : IsFs (d :: ds) (m :: ms) := ⟨by rw [h.eq, k.eq]; rfl⟩
instance isF_1 (ds : List D) (m : List (List Int)) [h : IsFs ds m] : IsF (.tuple ds) m := ⟨by rw [h.eq]; rfl⟩
class IsR (d : D) (bs : outParam (List Bool)) : Prop where
  eq : d = rt bs
instance isR_0 (m : List Bool) : IsR (rt m) m := ⟨rfl⟩
/-- a ring of at most n places -/
class Rn (bs : List Bool) (n : outParam Nat) : Prop where
  pos : 0 < bs.length
  le : bs.length ≤ n
instance rn_app (ms : List (List Int)) (bs : List Bool) (n : Nat) [h : Rn bs n] : Rn (app ms bs) n := ⟨by rw [app_len]; exact h.pos, by rw [app_len]; exact h.le⟩
instance rn_swp (bs : List Bool) (n : Nat) [h : Rn bs n] : Rn (swp bs) n := ⟨by rw [swp_len]; exact h.pos, by rw [swp_len]; exact h.le⟩
instance rn_rev (bs : List Bool) (n : Nat) [h : Rn bs n] : Rn bs.reverse n := ⟨by rw [List.length_reverse]; exact h.pos, by rw [List.length_reverse]; exact h.le⟩
/-! ### what is left behind a step -/
def Nx (ρ : Env') (P : Ste → Prop) : Prop := ∀ o, P (ρ, o)
theorem nx_intro {ρ : Env'} {P : Ste → Prop} (h : ∀ o, P (ρ, o)) : Nx ρ P := h
/-- a test of the law: it must not hold -/
def Ck (b : Bool) (P : Prop) : Prop := b = false ∧ P
theorem ck_of {b : Bool} {P : Prop} (h : P) (k : b = false) : Ck b P := ⟨k, h⟩
theorem ck_no {P : Prop} (h : P) : Ck false P := ⟨rfl, h⟩
theorem ck_ne {p : Prop} [Decidable p] {P : Prop} (h : P) (k : p) : Ck (!decide p) P := ⟨by rw [decide_eq_true k]; rfl, h⟩
theorem ck_not {b : Bool} {P : Prop} (h : P) (k : b = true) : Ck (!b) P := ⟨by rw [k]; rfl, h⟩
theorem ck_nn {b : Bool} {P : Prop} (h : Ck b P) : Ck (!!b) P := by rw [Bool.not_not]; exact h
theorem ck_ret {b : Bool} {P : Wd → Prop} {S : Wd} (h : Ck b (P S)) : Gd (M.ret b) S fun b S' => Ck b (P S') := gd_ret h
/-- truth at the end -/
def Tr (d : D) : Prop := d = .bool true
theorem tr_of {b : Bool} (h : b = true) : Tr (.bool b) := by rw [h]; rfl
section
variable {ρ ρ' : Env'} {o : List Nat} {S : Wd} {Q : Fl × Ste → Wd → Prop} {g : Ste → M (Fl × Ste)}
theorem q_set {i : Nat} {f : Env' → M (D × Bool)} (h : Gd (f ρ) S fun r S' => ∃ ρ', SetR ρ i (some r.1) ρ' ∧ Nx ρ' fun τ => Gd (g τ) S' Q) : Gd (sSeq (sSet i f) g (ρ, o)) S Q :=
  gd_seq (gd_lft (gd_mono h fun r S' ⟨ρ', s, k⟩ => by
    rw [if_pos (decide_eq_true s.lt)]
    refine gd_ret ?_
    show Gd (g _) S' Q
    unfold asg
    rw [s.eq]
    exact k _))
/-- the set slot -/
theorem st_ok {i : Nat} {d : D} {fr : Bool} {P : Ste → Prop} [s : SetR ρ i (some d) ρ'] (h : ∀ o, P (ρ', o)) : ∃ ρ', SetR ρ i (some (d, fr).1) ρ' ∧ Nx ρ' P := ⟨ρ', s, h⟩
theorem q_par2 {i j : Nat} {f : Env' → M (List D)} (h : Gd (f ρ) S fun ds S' => ∃ x y, ds = [x, y] ∧ ∃ ρ1, SetR ρ i (some x) ρ1 ∧ ∃ ρ', SetR ρ1 j (some y) ρ' ∧ Nx ρ' fun τ => Gd (g τ) S' Q) : Gd (sSeq (sPar2 i j f) g (ρ, o)) S Q :=
  gd_seq (gd_lft (gd_mono h fun ds S' ⟨x, y, e, ρ1, s1, ρ', s2, k⟩ => by
    subst e
    have hj : j < ρ.length := by
      have := s2.lt
      rw [← s1.eq, List.length_set] at this
      exact this
    simp only [decide_eq_true (And.intro s1.lt hj), if_true]
    refine gd_ret ?_
    show Gd (g _) S' Q
    unfold asg
    rw [s1.eq, s2.eq]
    exact k _))
theorem par2_ok {x y : D} {i j : Nat} {ρ1 : Env'} {P : Ste → Prop} [s : SetR ρ i (some x) ρ1] [s' : SetR ρ1 j (some y) ρ'] (h : ∀ o, P (ρ', o)) : ∃ x' y', [x, y] = [x', y'] ∧ ∃ ρ1, SetR ρ i (some x') ρ1 ∧ ∃ ρ', SetR ρ1 j (some y') ρ' ∧ Nx ρ' P := ⟨x, y, rfl, ρ1, s, ρ', s', h⟩
theorem q_chk {c : Env' → M Bool} (h : Gd (c ρ) S fun b S' => Ck b (Gd (g (ρ, o)) S' Q)) : Gd (sSeq (sIf c (sRet (fE (xC (.bool false)))) sPass) g (ρ, o)) S Q := gd_seq (gd_check (gd_mono h fun b S' k => ⟨k.1, k.2⟩))
theorem q_chk1 {c : Env' → M Bool} (h : Gd (c ρ) S fun b S' => Ck b (Q (.nx, (ρ, o)) S')) : Gd (sIf c (sRet (fE (xC (.bool false)))) sPass (ρ, o)) S Q := gd_check (gd_mono h fun b S' k => ⟨k.1, k.2⟩)
theorem q_fin {f : Env' → M (D × Bool)} (h : Gd (f ρ) S fun r _ => Tr r.1) : Gd (sRet f (ρ, o)) S (FnQ fun r _ => r.1 = .bool true) := gd_sret (gd_mono h fun r S' k => k)
theorem q_bV {f : Env' → M D} {P : Bool → Wd → Prop} (h : Gd (f ρ) S fun d S1 => ∃ b, d = .bool b ∧ P b S1) : Gd (bV f ρ) S P := gd_bV h
theorem q_bool {b : Bool} {P : Bool → Prop} (h : P b) : ∃ b', (PyData.bool b) = .bool b' ∧ P b' := ⟨b, rfl, h⟩
theorem q_bOr {f k : Env' → M Bool} {P : Wd → Prop} (h : Gd (f ρ) S fun b S1 => Ck b (Gd (k ρ) S1 fun b S' => Ck b (P S'))) : Gd (bOr f k ρ) S fun b S' => Ck b (P S') :=
  gd_bOr (gd_mono h fun b S1 q => ⟨fun z => (by rw [q.1] at z; cases z), fun _ => q.2⟩)
theorem q_bAnd {f k : Env' → M Bool} {P : Wd → Prop} (h : Gd (f ρ) S fun b S1 => P S1 ∧ (b = true → Gd (k ρ) S1 fun b S' => Ck b (S' = S1))) : Gd (bAnd f k ρ) S fun b S' => Ck b (P S') :=
  gd_bAnd (gd_mono h fun b S1 q => ⟨fun z => gd_mono (q.2 z) fun b S' k => ⟨k.1, by rw [k.2]; exact q.1⟩, fun z => ⟨rfl, q.1⟩⟩)
theorem q_bNot {f : Env' → M Bool} {P : Bool → Wd → Prop} (h : Gd (f ρ) S fun b S1 => P (!b) S1) : Gd (bNot f ρ) S P := gd_bNot h
/-! expressions -/
theorem e_var {i : Nat} {d : D} {P : D → Wd → Prop} [e : GetR ρ i d] (h : P d S) : Gd (xVar i ρ) S P := gd_var e.eq h
theorem e_con {d : D} {P : D → Wd → Prop} (h : P d S) : Gd (xC d ρ) S P := gd_ret h
theorem e_nil {P : List D → Wd → Prop} (h : P [] S) : Gd (aNil ρ) S P := gd_ret h
theorem e_cons {f : Env' → M D} {k : Env' → M (List D)} {P : List D → Wd → Prop} (h : Gd (f ρ) S fun d S1 => Gd (k ρ) S1 fun ds S2 => P (d :: ds) S2) : Gd (aCons f k ρ) S P := gd_cons h
def LnC (ds : List D) (n : Nat) (P : Prop) : Prop := ds.length = n ∧ P
theorem ln_ok {ds : List D} {n : Nat} {P : Prop} [e : LenR ds n] (h : P) : LnC ds n P := ⟨e.eq, h⟩
def LnN (ds : List D) (P : Prop) : Prop := (ds.all nd && szOk ds.length) = true ∧ P
theorem lnn_ok {ds : List D} {n : Nat} {P : Prop} [e : LenR ds n] (h : P) (z : szOk n = true := by decide) : LnN ds P := ⟨by rw [e.nd, e.eq, z]; rfl, h⟩
theorem e_call {F : List D → M (D × Bool)} {n : Nat} {fa : Env' → M (List D)} {P : D × Bool → Wd → Prop} (h : Gd (fa ρ) S fun ds S' => LnC ds n (Gd (F ds) S' P)) : Gd (fFn F n fa ρ) S P := gd_call h
theorem e_x2 {f : D → D → M D} {fa fb : Env' → M D} {P : D → Wd → Prop} (h : Gd (fa ρ) S fun a S1 => Gd (fb ρ) S1 fun b S2 => Gd (f a b) S2 P) : Gd (x2 f fa fb ρ) S P := gd_x2 h
theorem e_x1 {f : D → M D} {fa : Env' → M D} {P : D → Wd → Prop} (h : Gd (fa ρ) S fun a S1 => Gd (f a) S1 P) : Gd (x1 f fa ρ) S P := gd_x1 h
theorem e_eF {f : Env' → M (D × Bool)} {P : D → Wd → Prop} (h : Gd (f ρ) S fun r S1 => P r.1 S1) : Gd (eF f ρ) S P := gd_eF h
theorem e_fE {f : Env' → M D} {P : D × Bool → Wd → Prop} (h : Gd (f ρ) S fun d S1 => P (d, false) S1) : Gd (fE f ρ) S P := gd_fE h
theorem e_xCall {f : List D → M D} {fa : Env' → M (List D)} {P : D → Wd → Prop} (h : Gd (fa ρ) S fun ds S1 => Gd (f ds) S1 P) : Gd (xCall f fa ρ) S P := gd_xCall h
theorem e_xTup {f : Env' → M (List D)} {P : D → Wd → Prop} (h : Gd (f ρ) S fun ds S1 => LnN ds (P (.tuple ds) S1)) : Gd (xTup f ρ) S P := gd_xTup h
theorem e_xLst {f : Env' → M (List D)} {P : D → Wd → Prop} (h : Gd (f ρ) S fun ds S1 => LnN ds (P (.list ds) S1)) : Gd (xLst f ρ) S P := gd_xLst h
theorem e_fLst {f : Env' → M (List D)} {P : D × Bool → Wd → Prop} (h : Gd (f ρ) S fun ds S1 => LnN ds (P (.list ds, true) S1)) : Gd (fLst f ρ) S P := gd_fLst h
theorem e_xSl {fa : Env' → M D} {fl fh : Env' → M (Option Int)} {P : D → Wd → Prop} (h : Gd (fa ρ) S fun x S1 => Gd (fl ρ) S1 fun l S2 => Gd (fh ρ) S2 fun u S3 => Gd (gSl x l u) S3 P) : Gd (xSl fa fl fh ρ) S P := gd_xSl h
theorem e_fO {f : Env' → M D} {P : Option Int → Wd → Prop} (h : Gd (f ρ) S fun d S1 => ∃ i, d = .int i ∧ P (some i) S1) : Gd (fO f ρ) S P := gd_fO h
theorem e_int {i : Int} {P : Int → Prop} (h : P i) : ∃ i', (PyData.int i) = .int i' ∧ P i' := ⟨i, rfl, h⟩
theorem e_fNo {P : Option Int → Wd → Prop} (h : P none S) : Gd (fNo ρ) S P := gd_ret h
/-- and: the second is looked at if the first holds -/
theorem e_xAnd {fa fb : Env' → M D} (h : Gd (fa ρ) S fun d S1 => Tr d ∧ Gd (fb ρ) S1 fun d _ => Tr d) : Gd (xAnd fa fb ρ) S fun d _ => Tr d :=
  gd_xAnd (gd_mono h fun d S1 ⟨e, k⟩ => ⟨true, e, fun _ => k, fun z => by cases z⟩)
theorem tr_and {b : Bool} {P : Prop} (h : P) (k : b = true) : Tr (.bool b) ∧ P := ⟨tr_of k, h⟩
end
/-! operators -/
section
variable {S : Wd} {P : D → Wd → Prop} {d e : D}
theorem u_neF {x y : List (List Int)} [a : IsF d x] [b : IsF e y] (h : P (.bool (!decide (x = y))) S) : Gd (gNe d e) S P := by
  rw [a.eq, b.eq]
  exact gd_eq (ne_mkF x y) h
theorem u_eqF {x y : List (List Int)} [a : IsF d x] [b : IsF e y] (h : P (.bool (decide (x = y))) S) : Gd (gEq d e) S P := by
  rw [a.eq, b.eq]
  exact gd_eq (eq_mkF x y) h
theorem ne_mkI (a b : List Int) : gNe (mkI a) (mkI b) = M.ret (.bool (!decide (a = b))) := by
  unfold gNe
  rw [sh_mkI, sh_mkI]
  show M.ret (PyData.bool (!PyData.eqv (mkI a) (mkI b))) = _
  rw [show PyData.eqv (mkI a) (mkI b) = decide (a = b) from eqv_ints a b]
theorem u_neI {x y : List Int} [a : IsI d x] [b : IsI e y] (h : P (.bool (!decide (x = y))) S) : Gd (gNe d e) S P := by
  rw [a.eq, b.eq]
  exact gd_eq (ne_mkI x y) h
theorem u_eqI {x y : List Int} [a : IsI d x] [b : IsI e y] (h : P (.bool (decide (x = y))) S) : Gd (gEq d e) S P := by
  rw [a.eq, b.eq]
  exact gd_eq (eq_mkI x y) h
theorem u_neR {x y : List Bool} [a : IsR d x] [b : IsR e y] (h : P (.bool (!decide (x = y))) S) : Gd (gNe d e) S P := by
  rw [a.eq, b.eq]
  exact gd_eq (ne_rt x y) h
theorem u_eqR {x y : List Bool} [a : IsR d x] [b : IsR e y] (h : P (.bool (decide (x = y))) S) : Gd (gEq d e) S P := by
  rw [a.eq, b.eq]
  exact gd_eq (eq_rt x y) h
theorem u_neN {i j : Int} (h : P (.bool (!decide (i = j))) S) : Gd (gNe (.int i) (.int j)) S P := gd_eq (ne_int i j) h
theorem u_eqN {i j : Int} (h : P (.bool (decide (i = j))) S) : Gd (gEq (.int i) (.int j)) S P := gd_eq (eq_int i j) h
theorem bool_beq (a b : Bool) : (a == b) = decide (a = b) := by cases a <;> cases b <;> rfl
theorem u_neB {i j : Bool} (h : P (.bool (!decide (i = j))) S) : Gd (gNe (.bool i) (.bool j)) S P := gd_eq (by rw [ne_bool, bool_beq]) h
theorem eq_boolD (a b : Bool) : gEq (.bool a) (.bool b) = M.ret (.bool (decide (a = b))) := by
  cases a <;> cases b <;> rfl
theorem u_eqB {i j : Bool} (h : P (.bool (decide (i = j))) S) : Gd (gEq (.bool i) (.bool j)) S P := gd_eq (eq_boolD i j) h
theorem u_add {i j : Int} (h : P (.int (i + j)) S) : Gd (gAdd (.int i) (.int j)) S P := gd_eq (add_int i j) h
theorem u_sub {i j : Int} (h : P (.int (i - j)) S) : Gd (gSub (.int i) (.int j)) S P := gd_eq (sub_int i j) h
theorem u_neg {i : Int} (h : P (.int (-i)) S) : Gd (gNeg (.int i)) S P := gd_eq (neg_int i) h
theorem u_lt {i j : Int} (h : P (.bool (decide (i < j))) S) : Gd (gLt (.int i) (.int j)) S P := gd_eq (lt_int i j) h
theorem u_le {i j : Int} (h : P (.bool (decide (i ≤ j))) S) : Gd (gLe (.int i) (.int j)) S P := gd_eq (le_int i j) h
theorem u_gt {i j : Int} (h : P (.bool (decide (j < i))) S) : Gd (gGt (.int i) (.int j)) S P := gd_eq (gt_int i j) h
theorem u_ge {i j : Int} (h : P (.bool (decide (j ≤ i))) S) : Gd (gGe (.int i) (.int j)) S P := gd_eq (ge_int i j) h
theorem u_isTrue {b : Bool} (h : P (.bool b) S) : Gd (gIsB (.bool b) (.bool true)) S P := gd_eq (by cases b <;> rfl) h
theorem u_isFalse {b : Bool} (h : P (.bool (!b)) S) : Gd (gIsB (.bool b) (.bool false)) S P := gd_eq (by cases b <;> rfl) h
theorem u_notTrue {b : Bool} (h : P (.bool (!b)) S) : Gd (gNotB (.bool b) (.bool true)) S P := gd_eq (by cases b <;> rfl) h
theorem u_notFalse {b : Bool} (h : P (.bool b) S) : Gd (gNotB (.bool b) (.bool false)) S P := gd_eq (by cases b <;> rfl) h
theorem u_isiB {b : Bool} (h : P (.bool true) S) : Gd (gIsi tBool (.bool b)) S P := gd_eq rfl h
theorem u_int {i : Int} (h : P (.int i) S) : Gd (gO oInt [.int i]) S P := gd_eq rfl h
theorem u_lenF {x : List (List Int)} [a : IsF d x] (h : P (.int x.length) S) : Gd (gO oLen [d]) S P := by
  rw [a.eq]
  exact gd_eq (by unfold gO; rw [len_mkF]; rfl) h
theorem u_lenI {x : List Int} [a : IsI d x] (h : P (.int x.length) S) : Gd (gO oLen [d]) S P := by
  rw [a.eq]
  exact gd_eq (lenE_mkI x) h
theorem u_lenR {x : List Bool} {n : Nat} [a : IsR d x] [r : Rn x n] (h : P (.int x.length) S) (hn : n ≤ 1000 := by decide) : Gd (gO oLen [d]) S P := by
  rw [a.eq]
  exact gd_eq (len_rtE (by have := r.le; omega)) h
theorem u_revR {x : List Bool} {n : Nat} [a : IsR d x] [r : Rn x n] (h : P (rt x.reverse) S) (hn : n ≤ 1000 := by decide) : Gd (gRev d) S P := by
  rw [a.eq]
  exact gd_eq (rev_rt (by have := r.le; omega)) h
theorem u_revI {x : List Int} [a : IsI d x] (h : P (mkI x.reverse) S) : Gd (gRev d) S P := by
  rw [a.eq]
  exact gd_eq (rev_mkI x) h
theorem u_tup {ds : List D} (h : P (.tuple ds) S) : Gd (gO oTuple [.list ds]) S P := gd_eq rfl h
end
theorem gd_call1 {F : List D → M (D × Bool)} {ds : List D} {r : D × Bool} {S : Wd} {P : D × Bool → Wd → Prop} (e : F ds = M.ret r) (h : P r S) : Gd (F ds) S P := gd_eq e h
theorem gd_retQ {α : Type} {a : α} {S : Wd} {P : α → Wd → Prop} (h : P a S) : Gd (M.ret a) S P := gd_ret h
end DL
end L2

set_option Elab.async false
set_option linter.all false
set_option maxRecDepth 100000
/-! numbers of masks -/
namespace L2
namespace DL
open PySem
theorem nats_few {ys : List Nat} (nd : ys.Nodup) (h : ∀ k, k ∈ ys → k < 1024) : ys.length ≤ 1024 := by
  have := nodup_len ys (List.range 1024) nd fun x hx => List.mem_range.mpr (h x hx)
  rw [List.length_range] at this
  exact this
theorem encs_few {low : Int} {ms : List (List Int)} (hm : ∀ m, m ∈ ms → In10 low m) : ∀ k, k ∈ ms.map (enc low) → k < 1024 := fun k hk => by
  obtain ⟨m, h, rfl⟩ := List.mem_map.mp hk
  exact (enc_bits (hm m h)).1
theorem sset_natsS {ks : List Nat} {xs : List Nat} (e : srtU ltI (ks.map fun n : Nat => (n : Int)) = xs.map fun n : Nat => (n : Int)) (hz : ∀ k, k ∈ ks → k < 1024) :
    oSortedSet (.list (ks.map fun n : Nat => PyData.int (n : Int))) = some (.list (xs.map fun n : Nat => PyData.int (n : Int))) := by
  have h1 : intsD (ks.map fun n : Nat => PyData.int (n : Int)) = some (ks.map fun n : Nat => (n : Int)) := allOf_fn (f := asInt) (g := fun n : Nat => PyData.int (n : Int)) (fun _ => rfl) ks
  have hm := srtU_mem tot_int (ks.map fun n : Nat => (n : Int))
  have nx : xs.Nodup := by
    have := strict_nodup tot_int (srtU_sorted tot_int (ks.map fun n : Nat => (n : Int)))
    rw [e] at this
    exact (List.pairwise_map.mp this).imp fun {a b} h z => h (by rw [z])
  have l1 : xs.length ≤ 1024 := nats_few nx fun k hk => by
    have q := (hm (k : Int)).mp (by rw [e]; exact List.mem_map.mpr ⟨k, hk, rfl⟩)
    obtain ⟨k', hk', z⟩ := List.mem_map.mp q
    have : k' = k := by omega
    rw [← this]
    exact hz k' hk'
  unfold oSortedSet
  simp only [h1]
  rw [if_pos (decide_eq_true (by rw [e, List.length_map]; omega)), e, List.map_map]
  rfl
/-- the offsets of a mask, moved, as a number -/
theorem enc_mv {a b : Int} {l : List Int} {o : Int} (ho : a ≤ o) (hl : ∀ p, p ∈ l → b ≤ p) : 2 ^ (o - a).toNat * enc b l = enc (a + b) (mv o l) := by
  unfold enc mv
  rw [List.map_map]
  induction l with
  | nil => rfl
  | cons p l ih =>
    have hp := hl p List.mem_cons_self
    have i2 := ih fun q hq => hl q (List.mem_cons_of_mem _ hq)
    simp only [List.map_cons, List.sum_cons, Nat.mul_add, i2]
    congr 1
    show _ = 2 ^ (p + o - (a + b)).toNat
    rw [← Nat.pow_add]
    congr 1
    omega
theorem in10_mv {a b : Int} {l : List Int} {o : Int} {low : Int} (h : Asc l) (hl : ∀ p, p ∈ l → a ≤ p ∧ p ≤ b) (h1 : low ≤ a + o) (h2 : b + o ≤ low + 9) : In10 low (mv o l) :=
  ⟨asc_mv h, fun p hp => by have := hl _ (mem_mv.mp hp); omega, fun p hp => by have := hl _ (mem_mv.mp hp); omega⟩
theorem in10_uni {low : Int} {x y : List Int} (h : In10 low x) (k : In10 low y) : In10 low (uni x y) :=
  ⟨asc_uni x y, fun p hp => (mem_uni.mp hp).elim (h.lo p) (k.lo p), fun p hp => (mem_uni.mp hp).elim (h.hi p) (k.hi p)⟩
theorem enc_uni {low : Int} {x y : List Int} (h : In10 low x) (k : In10 low y) : enc low x ||| enc low y = enc low (uni x y) := by
  apply Nat.eq_of_testBit_eq
  intro j
  rw [Nat.testBit_or, (enc_bits h).2, (enc_bits k).2, (enc_bits (in10_uni h k)).2]
  rw [Bool.eq_iff_iff, Bool.or_eq_true, decide_eq_true_iff, decide_eq_true_iff, decide_eq_true_iff, mem_uni]
theorem unis_len (a b : List (List Int)) : (unis a b).length = a.length * b.length := by
  induction a with
  | nil => simp [unis]
  | cons x l ih =>
    have : unis (x :: l) b = (b.map fun o => uni x o) ++ unis l b := by simp [unis]
    rw [this, List.length_append, List.length_map, ih, List.length_cons, Nat.add_mul, Nat.one_mul, Nat.add_comm]
/-- numbers picked and turned back: masks that do the same, no one in another -/
theorem picked {low : Int} {ms : List (List Int)} {ys : List Nat} (hm : ∀ m, m ∈ ms → In10 low m) (nd : ys.Nodup) (mm : ∀ n, n ∈ ys ↔ n ∈ ms.map (enc low)) :
    ∃ X : List (List Int), (ys.filter (lone sbN ys)).map (fun n : Nat => PyData.int (n : Int)) = X.map (fun x => .int (enc low x)) ∧ X.Nodup ∧ (∀ x, x ∈ X ↔ x ∈ mins ms) := by
  have e2 := (num_lone hm nd mm).2
  refine ⟨(ys.filter (lone sbN ys)).map (dec low), ?_, (srtG_perm _).nodup_iff.mp (by rw [e2]; exact form_nodup (mins_idem _)), fun z => by rw [← e2]; exact (srtG_perm _).mem_iff.symm⟩
  rw [List.map_map]
  refine List.map_congr_left fun n hn => ?_
  obtain ⟨y, hy, q⟩ := List.mem_map.mp ((mm n).mp (List.mem_filter.mp hn).1)
  show PyData.int (n : Int) = .int (enc low (dec low n))
  rw [← q, dec_enc (hm y hy)]
theorem mins_nf_eq {ms ls : List (List Int)} (h : ∀ m, m ∈ ms → Asc m) (k : Nf ls) (e : ∀ X, ev ms X = ev ls X) : mins ms = ls :=
  nf_ext (nf_mins h) k fun X => by rw [ev_mins h, e]
end DL
end L2

set_option Elab.async false
set_option linter.all false
set_option maxRecDepth 100000
/-! sizes, joined lists of masks, masks with so many offsets -/
namespace L2
namespace DL
open PySem
theorem add_mkF {a b : List (List Int)} (h : a.length + b.length ≤ 1000) : gAdd (mkF a) (mkF b) = M.ret (mkF (a ++ b)) := by
  show (if szOk ((a.map mkI).length + (b.map mkI).length) = true then M.ret (PyData.tuple (a.map mkI ++ b.map mkI)) else M.no) = _
  rw [List.length_map, List.length_map, if_pos (sz_le (by omega)), ← List.map_append]
  rfl
theorem add_lst {a b : List D} (h : a.length + b.length ≤ 16777216) : gAdd (.list a) (.list b) = M.ret (.list (a ++ b)) := by
  show (if szOk (a.length + b.length) = true then M.ret (PyData.list (a ++ b)) else M.no) = _
  rw [if_pos (sz_le h)]
theorem add_tupD {a b : List D} (h : a.length + b.length ≤ 16777216) : gAdd (.tuple a) (.tuple b) = M.ret (.tuple (a ++ b)) := by
  show (if szOk (a.length + b.length) = true then M.ret (PyData.tuple (a ++ b)) else M.no) = _
  rw [if_pos (sz_le h)]
theorem lowL_append {a b : List (List Int)} (h : Mks a) (k : Mks b) : lowL (a ++ b) ≤ lowL a ∧ lowL (a ++ b) ≤ lowL b := by
  obtain ⟨m, hm, e⟩ := h.low_mem
  obtain ⟨l, hl, f⟩ := k.low_mem
  have q := h.append k
  exact ⟨q.low_le (List.mem_append_left _ hm) e, q.low_le (List.mem_append_right _ hl) f⟩
theorem Mks.in10_left {a b : List (List Int)} (q : Mks (a ++ b)) (hs : span (a ++ b) ≤ 8) : (∀ m, m ∈ a → In10 (lowL (a ++ b)) m) ∧ ∀ m, m ∈ b → In10 (lowL (a ++ b)) m :=
  ⟨fun m hm => q.in10 hs m (List.mem_append_left _ hm), fun m hm => q.in10 hs m (List.mem_append_right _ hm)⟩
/-! all masks of some offsets -/
theorem enc_snoc (low : Int) (m : List Int) (o : Int) : enc low (m ++ [o]) = enc low m + 2 ^ (o - low).toNat := by
  unfold enc
  simp
def rnkL (m : List Int) (k : Nat) : List (List Int) := (grow m).filter fun x => decide (x.length = k)
theorem mem_rnkL {m : List Int} {k : Nat} {x : List Int} : x ∈ rnkL m k ↔ x.Sublist m ∧ x.length = k := by
  unfold rnkL
  rw [List.mem_filter, mem_grow, decide_eq_true_iff]
def rnk (m : List Int) (k : Nat) : List (List Int) := mins (rnkL m k)
theorem asc_rnkL {m : List Int} (h : Asc m) (k : Nat) : ∀ z, z ∈ rnkL m k → Asc z := fun z hz => h.sublist (mem_rnkL.mp hz).1
theorem mks_rnkL {m : List Int} (h : Asc m) {k : Nat} (h1 : 1 ≤ k) (h2 : k ≤ m.length) : Mks (rnkL m k) :=
  ⟨fun e => by
    have : m.take k ∈ rnkL m k := mem_rnkL.mpr ⟨List.take_sublist _ _, by rw [List.length_take]; omega⟩
    rw [e] at this
    exact absurd this List.not_mem_nil, asc_rnkL h k, fun z hz e => by
    have := (mem_rnkL.mp hz).2
    rw [e] at this
    simp at this
    omega⟩
theorem ev_rnk {m : List Int} (h : Asc m) (k : Nat) (X : Int → Bool) : ev (rnk m k) X = decide (k ≤ (m.filter X).length) := by
  unfold rnk
  rw [ev_mins (asc_rnkL h k), Bool.eq_iff_iff, ev_iff, decide_eq_true_iff]
  constructor
  · rintro ⟨z, hz, q⟩
    obtain ⟨s, l⟩ := mem_rnkL.mp hz
    rw [← l]
    have := s.filter X
    rw [List.filter_eq_self.mpr q] at this
    exact this.length_le
  · intro hk
    refine ⟨(m.filter X).take k, mem_rnkL.mpr ⟨(List.take_sublist _ _).trans List.filter_sublist, by rw [List.length_take]; omega⟩, fun o ho => ?_⟩
    exact (List.mem_filter.mp ((List.take_sublist _ _).subset ho)).2
theorem fr_rnk {m : List Int} {a b : Int} (h : Mk m a b) {k : Nat} (h1 : 1 ≤ k) (h2 : k ≤ m.length) : Fr (rnk m k) a b := Fr.of_form (mks_rnkL h.asc h1 h2) fun z hz o ho => ⟨h.lo o ((mem_rnkL.mp hz).1.subset ho), h.hi o ((mem_rnkL.mp hz).1.subset ho)⟩
theorem Mk.in10 {m : List Int} {a b : Int} (h : Mk m a b) (hs : b - a ≤ 8) : In10 (m.headD 0) m := ⟨h.asc, fun o ho => asc_head h.asc ho, fun o ho => by
  have := h.lo _ (head_mem h.some)
  have := h.hi o ho
  omega⟩
theorem Mk.len {m : List Int} {a b : Int} (h : Mk m a b) (hs : b - a ≤ 8) : m.length ≤ 9 := by
  have e : ∀ o, o ∈ m → o ∈ (List.range 9).map fun i : Nat => m.headD 0 + (i : Int) := fun o ho => by
    have h1 := asc_head h.asc ho
    have h2 := h.lo _ (head_mem h.some)
    have h3 := h.hi o ho
    exact List.mem_map.mpr ⟨(o - m.headD 0).toNat, List.mem_range.mpr (by omega), by omega⟩
  have := nodup_len m _ h.asc.nodup e
  rw [List.length_map, List.length_range] at this
  exact this
/-! the identity, own opposites -/
theorem in_mkF (m : List Int) (ms : List (List Int)) : gIn (mkI m) (mkF ms) = M.ret (.bool (ms.contains m)) := by
  show (if (SeqAt.shaped (mkI m) && SeqAt.shaped (.tuple (ms.map mkI))) = true then M.ret (PyData.bool ((ms.map mkI).any fun z => PyData.eqv z (mkI m))) else M.no) = _
  have h1 : SeqAt.shaped (.tuple (ms.map mkI)) = true := sh_mkF ms
  rw [h1, sh_mkI]
  have h2 : ((ms.map mkI).any fun z => PyData.eqv z (mkI m)) = ms.contains m := by
    rw [List.any_map, List.contains_eq_any_beq]
    congr 1
    funext z
    show PyData.eqv (mkI z) (mkI m) = (m == z)
    rw [show PyData.eqv (mkI z) (mkI m) = decide (z = m) from eqv_ints z m]
    rw [Bool.eq_iff_iff, decide_eq_true_iff, beq_iff_eq]
    exact eq_comm
  rw [h2]
  rfl
theorem Fr.span_low {ms : List (List Int)} {a b : Int} (h : Fr ms a b) : a ≤ lowL ms := by
  obtain ⟨m, hm, e⟩ := h.mks.low_mem
  exact h.lo m hm _ e
end DL
end L2
namespace L2
namespace DL
theorem near_both {x y : List (List Int)} {a b c f : Int} (h : Fr x a b) (k : Fr y c f) (hs : b - a ≤ 8 ∧ f - c ≤ 8 ∧ b - c ≤ 8 ∧ f - a ≤ 8) : span (x ++ y) ≤ 8 := by
  have := (h.mks.append k.mks).span_le (a := min a c) (b := max b f) fun m hm o ho => (List.mem_append.mp hm).elim (fun q => by have := h.lo m q o ho; have := h.hi m q o ho; omega) (fun q => by have := k.lo m q o ho; have := k.hi m q o ho; omega)
  omega
end DL
end L2
namespace L2
namespace DL
section
variable {ρ ρ' : Env'} {o : List Nat} {S : Wd} {Q : Fl × Ste → Wd → Prop} {g : Ste → M (Fl × Ste)}
theorem q_par3 {i j l : Nat} {f : Env' → M (List D)} (h : Gd (f ρ) S fun ds S' => ∃ x y z, ds = [x, y, z] ∧ ∃ ρ1, SetR ρ i (some x) ρ1 ∧ ∃ ρ2, SetR ρ1 j (some y) ρ2 ∧ ∃ ρ', SetR ρ2 l (some z) ρ' ∧ Nx ρ' fun τ => Gd (g τ) S' Q) : Gd (sSeq (sPar3 i j l f) g (ρ, o)) S Q :=
  gd_seq (gd_lft (gd_mono h fun ds S' ⟨x, y, z, e, ρ1, s1, ρ2, s2, ρ', s3, k⟩ => by
    subst e
    have hj : j < ρ.length := by
      have := s2.lt
      rw [← s1.eq, List.length_set] at this
      exact this
    have hl : l < ρ.length := by
      have := s3.lt
      rw [← s2.eq, ← s1.eq, List.length_set, List.length_set] at this
      exact this
    simp only [decide_eq_true (And.intro s1.lt (And.intro hj hl)), if_true]
    refine gd_ret ?_
    show Gd (g _) S' Q
    unfold asg
    rw [s1.eq, s2.eq, s3.eq]
    exact k _))
theorem par3_ok {x y z : D} {i j l : Nat} {ρ1 ρ2 : Env'} {P : Ste → Prop} [s : SetR ρ i (some x) ρ1] [s' : SetR ρ1 j (some y) ρ2] [s'' : SetR ρ2 l (some z) ρ'] (h : ∀ o, P (ρ', o)) : ∃ x' y' z', [x, y, z] = [x', y', z'] ∧ ∃ ρ1, SetR ρ i (some x') ρ1 ∧ ∃ ρ2, SetR ρ1 j (some y') ρ2 ∧ ∃ ρ', SetR ρ2 l (some z') ρ' ∧ Nx ρ' P := ⟨x, y, z, rfl, ρ1, s, ρ2, s', ρ', s'', h⟩
end
end DL
end L2
namespace L2
namespace DL
theorem fr_dec {ms : List (List Int)} (a b : Int) (h1 : ms ≠ []) (h2 : ∀ m, m ∈ ms → Asc m ∧ m ≠ []) (h3 : mins ms = ms) (h4 : ∀ m, m ∈ ms → ∀ o, o ∈ m → a ≤ o ∧ o ≤ b) : Fr ms a b :=
  ⟨⟨h1, fun m hm => (h2 m hm).1, fun m hm => (h2 m hm).2⟩, h3, fun m hm o ho => (h4 m hm o ho).1, fun m hm o ho => (h4 m hm o ho).2⟩
theorem mk_dec {m : List Int} (a b : Int) (h1 : Asc m ∧ m ≠ []) (h4 : ∀ o, o ∈ m → a ≤ o ∧ o ≤ b) : Mk m a b := ⟨h1.1, h1.2, fun o ho => (h4 o ho).1, fun o ho => (h4 o ho).2⟩
instance fr_still : Fr [[0]] 0 0 := fr_dec 0 0 (by decide) (by decide) (by decide) (by decide)
theorem ev_still (X : Int → Bool) : ev [[0]] X = X 0 := by simp [ev]
end DL
end L2

set_option Elab.async false
set_option linter.all false
set_option maxRecDepth 100000
/-! equalities and orders of filters -/
namespace L2
namespace DL
theorem ev_joinF {x y : List (List Int)} {a b c d : Int} [h : Fr x a b] [k : Fr y c d] (X : Int → Bool) : ev (join x y) X = (ev x X || ev y X) := ev_join h.mks.asc k.mks.asc X
theorem ev_opnF {m : List Int} {a b : Int} [h : Mk m a b] (X : Int → Bool) : ev (opn m) X = m.any fun e => m.all fun o => X (o + -e) := ev_opn h.asc X
theorem any_or {α : Type} (l : List α) (p q : α → Bool) : (l.any fun x => p x || q x) = (l.any p || l.any q) := by
  induction l with
  | nil => rfl
  | cons a l ih =>
    simp only [List.any_cons, ih]
    cases p a <;> cases q a <;> cases l.any p <;> cases l.any q <;> rfl
theorem all_and {α : Type} (l : List α) (p q : α → Bool) : (l.all fun x => p x && q x) = (l.all p && l.all q) := by
  induction l with
  | nil => rfl
  | cons a l ih =>
    simp only [List.all_cons, ih]
    cases p a <;> cases q a <;> cases l.all p <;> cases l.all q <;> rfl
theorem not_all {α : Type} (l : List α) (p : α → Bool) : (!l.all p) = l.any fun x => !p x := by
  induction l with
  | nil => rfl
  | cons a l ih => simp only [List.any_cons, List.all_cons, Bool.not_and, ih]
theorem not_any {α : Type} (l : List α) (p : α → Bool) : (!l.any p) = l.all fun x => !p x := by
  induction l with
  | nil => rfl
  | cons a l ih => simp only [List.any_cons, List.all_cons, Bool.not_or, ih]
theorem blw_refl (x : List (List Int)) : blw x x = true := blw_ev.mpr fun _ h => h
theorem blw_tr {x y z : List (List Int)} (h : blw x y = true) (k : blw y z = true) : blw x z = true := blw_ev.mpr fun X e => blw_ev.mp k X (blw_ev.mp h X e)
theorem blw_eqF {x y : List (List Int)} {a b c d : Int} (hx : Fr x a b) (hy : Fr y c d) (h : blw x y = true) (k : blw y x = true) : x = y :=
  fr_ext hx hy fun X => Bool.eq_iff_iff.mpr ⟨blw_ev.mp h X, blw_ev.mp k X⟩
theorem blw_joinL {x y : List (List Int)} {a b c d : Int} [h : Fr x a b] [k : Fr y c d] : blw x (join x y) = true := blw_ev.mpr fun X e => by rw [ev_joinF, e]; rfl
theorem blw_joinR {x y : List (List Int)} {a b c d : Int} [h : Fr x a b] [k : Fr y c d] : blw y (join x y) = true := blw_ev.mpr fun X e => by rw [ev_joinF, e]; cases ev x X <;> rfl
theorem blw_join {x y z : List (List Int)} {a b c d : Int} [h : Fr x a b] [k : Fr y c d] (e1 : blw x z = true) (e2 : blw y z = true) : blw (join x y) z = true := blw_ev.mpr fun X e => by
  rw [ev_joinF, Bool.or_eq_true] at e
  exact e.elim (blw_ev.mp e1 X) (blw_ev.mp e2 X)
theorem blw_meetL {x y : List (List Int)} : blw (meet x y) x = true := blw_ev.mpr fun X e => by rw [ev_meet, Bool.and_eq_true] at e; exact e.1
theorem blw_meetR {x y : List (List Int)} : blw (meet x y) y = true := blw_ev.mpr fun X e => by rw [ev_meet, Bool.and_eq_true] at e; exact e.2
theorem blw_meet {x y z : List (List Int)} (e1 : blw z x = true) (e2 : blw z y = true) : blw z (meet x y) = true := blw_ev.mpr fun X e => by rw [ev_meet, blw_ev.mp e1 X e, blw_ev.mp e2 X e]; rfl
theorem blw_aftL {x y z : List (List Int)} (h : blw x y = true) : blw (aft x z) (aft y z) = true := blw_ev.mpr fun X e => by rw [ev_aft] at e ⊢; exact blw_ev.mp h _ e
theorem blw_aftR {x y z : List (List Int)} (h : blw x y = true) : blw (aft z x) (aft z y) = true := blw_ev.mpr fun X e => by rw [ev_aft] at e ⊢; exact ev_up (fun o ho => blw_ev.mp h _ ho) e
theorem blw_opp {x y : List (List Int)} : blw (opp y) (opp x) = true ↔ blw x y = true := by
  rw [blw_ev, blw_ev]
  constructor
  · intro h X e
    cases c : ev y X with
    | true => rfl
    | false =>
      have := h (fun o => !X o) (by rw [ev_opp]; simp only [Bool.not_not, c]; rfl)
      rw [ev_opp] at this
      simp only [Bool.not_not, e] at this
      cases this
  · intro h X e
    rw [ev_opp] at e ⊢
    cases c : ev x fun o => !X o with
    | false => rfl
    | true => rw [h _ c] at e; cases e
end DL
end L2
namespace L2
namespace DL
theorem filter_not_len {α : Type} (l : List α) (p : α → Bool) : (l.filter p).length + (l.filter fun x => !p x).length = l.length := by
  induction l with
  | nil => rfl
  | cons a l ih =>
    simp only [List.filter_cons]
    cases p a <;> simp <;> omega
theorem opp_rnk {m : List Int} {a b : Int} (h : Mk m a b) {k : Nat} (h1 : 1 ≤ k) (h2 : k ≤ m.length) : opp (rnk m k) = rnk m (m.length + 1 - k) := by
  have f1 := fr_rnk h h1 h2
  have f2 := fr_rnk h (k := m.length + 1 - k) (by omega) (by omega)
  refine fr_ext (fr_opp _ a b) f2 fun X => ?_
  rw [ev_opp, ev_rnk h.asc, ev_rnk h.asc]
  have := filter_not_len m X
  by_cases c : k ≤ (m.filter fun o => !X o).length
  · rw [decide_eq_true c, decide_eq_false (by omega)]
    rfl
  · rw [decide_eq_false c, decide_eq_true (by omega)]
    rfl
theorem opp_oppF {x : List (List Int)} {a b : Int} [h : Fr x a b] : opp (opp x) = x := fr_ext (fr_opp _ a b) h fun X => by rw [ev_opp, ev_opp]; simp only [Bool.not_not]
theorem opp_inj {x y : List (List Int)} {a b c d : Int} [h : Fr x a b] [k : Fr y c d] (e : opp x = opp y) : x = y := by
  have e2 := congrArg opp e
  rw [opp_oppF, opp_oppF] at e2
  exact e2
theorem blw_oppE (x y : List (List Int)) : blw (opp y) (opp x) = blw x y := Bool.eq_iff_iff.mpr blw_opp
theorem opp_aft {x y : List (List Int)} {a b c d : Int} [h : Fr x a b] [k : Fr y c d] : opp (aft x y) = aft (opp x) (opp y) := fr_ext inferInstance inferInstance fun X => by simp only [ev_opp, ev_aft, Bool.not_not]
end DL
end L2

set_option Elab.async false
set_option linter.all false
set_option maxRecDepth 100000
/-! partners; rings that lie in rings -/
namespace L2
namespace DL
open PySem
def optF : Option (List (List Int)) → D
  | none => .none
  | some f => mkF f
def prt (ms : List (List Int)) : Option (List (List Int)) :=
  if ms.length = 1 then some (thick (ng (ms.headD []))) else if (ms.all fun m => decide (m.length = 1)) = true then some [srtG ltI (ms.map fun m => -(m.headD 0))] else none
theorem sorted_ints (ns : List Int) : oSorted [.list (ns.map .int)] = some (.list ((srtG ltI ns).map .int)) := by
  unfold oSorted
  simp only [ints_map]
theorem srt_ng {m : List Int} (h : Asc m) : srtG ltI (m.map fun o => -o) = ng m := by
  refine (srtG_uniq tot_int ?_ ?_).symm
  · unfold ng
    exact (List.reverse_perm m).map _
  · exact (asc_ng h).imp fun {a b} q => decide_eq_false (by omega)
theorem head_one (o : Int) : ([o] : List Int).headD 0 = o := rfl
theorem prt_thick {m : List Int} (h : Asc m) (hn : m ≠ []) : prt (thick m) = some [ng m] := by
  unfold prt
  have hl : (thick m).length = m.length := List.length_map ..
  by_cases c : m.length = 1
  · rw [if_pos (by rw [hl]; exact c)]
    obtain ⟨o, rfl⟩ := List.length_eq_one_iff.mp c
    rfl
  · rw [if_neg (by rw [hl]; exact c), if_pos]
    · congr 2
      have : (thick m).map (fun x => -(x.headD 0)) = m.map fun o => -o := by
        unfold thick
        rw [List.map_map]
        rfl
      rw [this, srt_ng h]
    · unfold thick
      rw [List.all_map]
      exact List.all_eq_true.mpr fun o _ => rfl
theorem prt_thin (m : List Int) : prt [m] = some (thick (ng m)) := rfl
theorem prt_none (ms : List (List Int)) : (prt ms).isNone = !(decide (ms.length = 1) || (ms.filter fun m => decide (1 < m.length)).isEmpty && decide (∀ m, m ∈ ms → m ≠ [])) := by
  unfold prt
  by_cases c : ms.length = 1
  · rw [if_pos c, decide_eq_true c]; rfl
  · rw [if_neg c, decide_eq_false c]
    by_cases e : (ms.all fun m => decide (m.length = 1)) = true
    · rw [if_pos e]
      have e' := List.all_eq_true.mp e
      have h1 : (ms.filter fun m => decide (1 < m.length)).isEmpty = true := by
        rw [List.isEmpty_iff, List.filter_eq_nil_iff]
        intro m hm
        have := of_decide_eq_true (e' m hm)
        simp; omega
      have h2 : ∀ m, m ∈ ms → m ≠ [] := fun m hm q => by
        have := of_decide_eq_true (e' m hm)
        rw [q] at this
        cases this
      rw [h1, decide_eq_true h2]
      rfl
    · rw [if_neg e]
      cases q : (ms.filter fun m => decide (1 < m.length)).isEmpty with
      | false => rfl
      | true =>
        cases q2 : decide (∀ m, m ∈ ms → m ≠ []) with
        | false => rfl
        | true =>
          exfalso
          refine e (List.all_eq_true.mpr fun m hm => decide_eq_true ?_)
          rw [List.isEmpty_iff, List.filter_eq_nil_iff] at q
          have h1 := q m hm
          have h2 := of_decide_eq_true q2 m hm
          have h3 := List.length_pos_iff.mpr h2
          simp at h1
          omega
theorem gIsN_optF (r : Option (List (List Int))) : gIsN (optF r) = M.ret (.bool r.isNone) := by
  cases r <;> rfl
theorem gNotN_optF (r : Option (List (List Int))) : gNotN (optF r) = M.ret (.bool (!r.isNone)) := by
  cases r <;> rfl
instance mk_ng (m : List Int) (a b : Int) [h : Mk m a b] : Mk (ng m) (-b) (-a) :=
  ⟨asc_ng h.asc, by have := h.some; unfold ng; simp [this], fun o ho => by have := h.hi _ (mem_ng.mp ho); omega, fun o ho => by have := h.lo _ (mem_ng.mp ho); omega⟩
instance nd_11 (r : Option (List (List Int))) : Nd (optF r) := ⟨by cases r <;> rfl⟩
/-! one ring lies in another -/
def lies (a b : List Bool) : Bool := (a.zip b).all fun p => !p.1 || p.2
theorem lies_iff {a b : List Bool} (hl : a.length = b.length) (hn : 0 < a.length) : lies a b = true ↔ ∀ i : Int, cyc a i = true → cyc b i = true := by
  unfold lies
  rw [List.all_eq_true]
  constructor
  · intro h i hi
    have h0 := Int.emod_nonneg i (show (a.length : Int) ≠ 0 by omega)
    have h1 := Int.emod_lt_of_pos i (show (0 : Int) < a.length by omega)
    have e1 : cyc a i = a[(i % (a.length : Int)).toNat]'(by omega) := by
      unfold cyc
      rw [List.getD_eq_getElem?_getD, List.getElem?_eq_getElem (by omega)]
      rfl
    have e2 : cyc b i = b[(i % (a.length : Int)).toNat]'(by omega) := by
      have : cyc b i = b.getD (i % (a.length : Int)).toNat false := by
        unfold cyc
        rw [hl]
      rw [this, List.getD_eq_getElem?_getD, List.getElem?_eq_getElem (by omega)]
      rfl
    have hm : (a[(i % (a.length : Int)).toNat]'(by omega), b[(i % (a.length : Int)).toNat]'(by omega)) ∈ a.zip b := by
      rw [← List.getElem_zip (h := by rw [List.length_zip]; omega)]
      exact List.getElem_mem _
    have := h _ hm
    rw [← e1, ← e2, hi] at this
    simpa using this
  · intro h p hp
    obtain ⟨i, hi, e⟩ := List.getElem_of_mem hp
    rw [List.getElem_zip] at e
    rw [List.length_zip] at hi
    have e1 : cyc a (i : Int) = p.1 := by rw [cyc_nat (show i < a.length by omega), ← e]
    have e2 : cyc b (i : Int) = p.2 := by rw [cyc_nat (show i < b.length by omega), ← e]
    have := h (i : Int)
    rw [e1, e2] at this
    cases c : p.1 with
    | false => rfl
    | true => rw [this c]; rfl
theorem lies_adj {a b : List Bool} (hl : a.length = b.length) (hn : 0 < a.length) (m : List Int) : lies (app (thick m) a) b = lies a (app [ng m] b) := by
  rw [Bool.eq_iff_iff, lies_iff (by rw [app_len]; exact hl) (by rw [app_len]; exact hn), lies_iff (by rw [app_len]; exact hl) hn]
  constructor
  · intro h i hi
    rw [cyc_app' (by omega), ev_one, all_ng, List.all_eq_true]
    intro o ho
    refine h _ ?_
    rw [cyc_app' hn, ev_thick, List.any_eq_true]
    refine ⟨o, ho, ?_⟩
    have : i + -o + o = i := by omega
    rw [this]; exact hi
  · intro h i hi
    rw [cyc_app' hn, ev_thick, List.any_eq_true] at hi
    obtain ⟨o, ho, hc⟩ := hi
    have := h _ hc
    rw [cyc_app' (by omega), ev_one, all_ng, List.all_eq_true] at this
    have := this o ho
    have e : i + o + -o = i := by omega
    rw [e] at this
    exact this
theorem zipS_rt {a b : List Bool} (ha : a.length ≤ 1000) : oZipS [rt a, rt b] = some ((a.zip b).map fun p => .tuple [sgD p.1, sgD p.2]) := by
  have as : ∀ c : List Bool, ascii (rs c) = true := fun c => by
    show ((c.map sg).toArray).all (· < 128) = true
    rw [List.all_toArray, List.all_map, List.all_eq_true]
    intro b _
    cases b <;> decide
  show (if (ascii (rs a) && ascii (rs b) && szOk (rs a).length) = true then some (((rs a).cps.toList.zip (rs b).cps.toList).map fun p => PyData.tuple [sgn p.1, sgn p.2]) else none) = _
  rw [as, as, rs_len, sz_le (by omega)]
  show some ((((a.map sg).toArray.toList).zip ((b.map sg).toArray.toList)).map _) = _
  show some (((a.map sg).zip (b.map sg)).map _) = _
  rw [List.zip_map, List.map_map]
  rfl
end DL
end L2
namespace L2
namespace DL
instance isF_opt (f : List (List Int)) : IsF (optF (some f)) f := ⟨rfl⟩
end DL
end L2
namespace L2
namespace DL
theorem sq_nx {g : Ste → M (Fl × Ste)} {Q : Fl × Ste → Wd → Prop} {τ : Ste} {S : Wd} (h : Gd (g τ) S Q) : SqQ g Q (.nx, τ) S := h
theorem lp_nx {I : Ste → Wd → Prop} {Q : Fl × Ste → Wd → Prop} {τ : Ste} {S : Wd} (h : I τ S) : LpQ I Q (.nx, τ) S := h
theorem e_xNot {fa : Env' → M D} {ρ : Env'} {S : Wd} {P : D → Wd → Prop} (h : Gd (fa ρ) S fun d S1 => ∃ b, d = .bool b ∧ P (.bool (!b)) S1) : Gd (xNot fa ρ) S P :=
  gd_bind (gd_mono h fun d S1 ⟨b, e, q⟩ => by subst e; exact gd_bind (gd_ret (gd_ret q)))
theorem gd_xOr {fa fb : Env' → M D} {ρ : Env'} {S : Wd} {P : D → Wd → Prop} (h : Gd (fa ρ) S fun d S1 => ∃ b, d = .bool b ∧ (b = true → P (.bool true) S1) ∧ (b = false → Gd (fb ρ) S1 P)) : Gd (xOr fa fb ρ) S P :=
  gd_bind (gd_mono h fun d S1 ⟨b, e, q1, q2⟩ => by
    subst e
    refine gd_bind (gd_ret ?_)
    cases b with
    | true => exact gd_ret (q1 rfl)
    | false => exact q2 rfl)
end DL
end L2
namespace L2
namespace DL
theorem any_ng (m : List Int) (X : Int → Bool) : (ng m).any X = m.any fun o => X (-o) := by
  unfold ng
  rw [List.any_map, List.any_reverse]
  rfl
end DL
end L2

set_option Elab.async false
set_option linter.all false
set_option maxRecDepth 100000
/-! lists of masks; what joins behind a test -/
namespace L2
namespace DL
open PySem
class IsL (d : D) (ms : outParam (List (List Int))) : Prop where
  eq : d = .list (ms.map mkI)
instance isFs_map (ms : List (List Int)) : IsFs (ms.map mkI) ms := ⟨rfl⟩
instance isL_1 (ds : List D) (ms : List (List Int)) [h : IsFs ds ms] : IsL (.list ds) ms := ⟨by rw [h.eq]⟩
class Lm (ms : List (List Int)) (n : outParam Nat) : Prop where
  le : ms.length ≤ n
class Ms (ms : List (List Int)) (a b : outParam Int) : Prop where
  all : ∀ m, m ∈ ms → Mk m a b
  some : ms ≠ []
instance ms_fr (ms : List (List Int)) (a b : Int) [h : Fr ms a b] : Ms ms a b := ⟨fun m hm => ⟨h.mks.asc m hm, h.mks.full m hm, h.lo m hm, h.hi m hm⟩, h.mks.some⟩
instance ms_app (x y : List (List Int)) (a b c d : Int) [h : Ms x a b] [k : Ms y c d] : Ms (x ++ y) (min a c) (max b d) :=
  ⟨fun m hm => (List.mem_append.mp hm).elim (fun q => (h.all m q).le (by omega) (by omega)) (fun q => (k.all m q).le (by omega) (by omega)), fun e => h.some (List.append_eq_nil_iff.mp e).1⟩
instance ms_one (m : List Int) (a b : Int) [h : Mk m a b] : Ms [m] a b := ⟨fun x hx => by rw [List.mem_singleton.mp hx]; exact h, by simp⟩
theorem Ms.mks {ms : List (List Int)} {a b : Int} (h : Ms ms a b) : Mks ms := ⟨h.some, fun m hm => (h.all m hm).asc, fun m hm => (h.all m hm).some⟩
theorem Ms.near {ms : List (List Int)} {a b : Int} (h : Ms ms a b) : ∀ m, m ∈ ms → ∀ o, o ∈ m → a ≤ o ∧ o ≤ b := fun m hm o ho => ⟨(h.all m hm).lo o ho, (h.all m hm).hi o ho⟩
theorem Ms.span {ms : List (List Int)} {a b : Int} (h : Ms ms a b) : DL.span ms ≤ b - a := h.mks.span_le h.near
instance fr_mins (ms : List (List Int)) (a b : Int) [h : Ms ms a b] : Fr (mins ms) a b := Fr.of_form h.mks h.near
instance lm_app (x y : List (List Int)) (n m : Nat) [h : Lm x n] [k : Lm y m] : Lm (x ++ y) (n + m) := ⟨by rw [List.length_append]; have := h.le; have := k.le; omega⟩
instance lm_one (m : List Int) : Lm [m] 1 := ⟨Nat.le_refl _⟩
theorem mins_len (ms : List (List Int)) : (mins ms).length ≤ ms.length := Nat.le_trans (srtU_len _) (List.length_filter_le _ _)
instance lm_mins (x : List (List Int)) (n : Nat) [h : Lm x n] : Lm (mins x) n := ⟨Nat.le_trans (mins_len x) h.le⟩
instance lm_mvs (s : Int) (x : List (List Int)) (n : Nat) [h : Lm x n] : Lm (mvs s x) n := ⟨by unfold mvs; rw [List.length_map]; exact h.le⟩
theorem ev_minsM {ms : List (List Int)} {a b : Int} [h : Ms ms a b] (X : Int → Bool) : ev (mins ms) X = ev ms X := ev_mins h.mks.asc X
section
variable {S : Wd} {P : D → Wd → Prop} {d e : D}
theorem u_listF {x : List (List Int)} [a : IsF d x] (h : P (.list (x.map mkI)) S) : Gd (gO oListS [d]) S P := by
  rw [a.eq]
  exact gd_eq rfl h
theorem u_listI {x : List Int} [a : IsI d x] (h : P (.list (x.map .int)) S) : Gd (gO oListS [d]) S P := by
  rw [a.eq]
  exact gd_eq rfl h
theorem u_addL {x y : List (List Int)} {n m : Nat} [a : IsL d x] [b : IsL e y] [l : Lm x n] [k : Lm y m] (h : P (.list ((x ++ y).map mkI)) S) (z : n + m ≤ 1000 := by decide) : Gd (gAdd d e) S P := by
  rw [a.eq, b.eq]
  exact gd_eq (app_lF (by have := l.le; have := k.le; omega)) h
theorem u_tupL {x : List (List Int)} [a : IsL d x] (h : P (mkF x) S) : Gd (gO oTuple [d]) S P := by
  rw [a.eq]
  exact gd_eq rfl h
end
section
variable {ρ ρ' : Env'} {o : List Nat} {S : Wd} {Q : Fl × Ste → Wd → Prop} {f g : Ste → M (Fl × Ste)}
theorem q_set1 {i : Nat} {f : Env' → M (D × Bool)} (h : Gd (f ρ) S fun r S' => ∃ ρ', SetR ρ i (some r.1) ρ' ∧ Nx ρ' fun τ => Q (.nx, τ) S') : Gd (sSet i f (ρ, o)) S Q :=
  gd_lft (gd_mono h fun r S' ⟨ρ', s, k⟩ => by
    rw [if_pos (decide_eq_true s.lt)]
    refine gd_ret ?_
    unfold asg
    rw [s.eq]
    exact k _)
theorem q_asg2 {i j : Nat} {f : Env' → M (List D)} (h : Gd (f ρ) S fun ds S' => ∃ x y, ds = [x, y] ∧ (nd x && nd y) = true ∧ ∃ ρ1, SetR ρ i (some x) ρ1 ∧ ∃ ρ', SetR ρ1 j (some y) ρ' ∧ Nx ρ' fun τ => Gd (g τ) S' Q) : Gd (sSeq (sAsg (xTup f) (gN2 i j) [i, j]) g (ρ, o)) S Q := by
  refine gd_seq (gd_sAsg (gd_xTup (gd_mono h fun ds S' ⟨x, y, e, n, ρ1, s1, ρ', s2, k⟩ => ?_)))
  subst e
  refine ⟨by rw [List.all_cons, List.all_cons, ← Bool.and_assoc, n]; rfl, (ρ', if stb (.tuple [x, y]) = true then o.filter (fun j' => !([i, j] : List Nat).contains j') else []), ?_, k _⟩
  have e : gN2 i j (.tuple [x, y]) ρ = some ρ' := by
    show some ((ρ.set i (some x)).set j (some y)) = _
    rw [s1.eq, s2.eq]
  show (gN2 i j (.tuple [x, y]) ρ).map _ = _
  rw [e]
  rfl
theorem asg2_ok {x y : D} {i j : Nat} {ρ1 : Env'} {P : Ste → Prop} [n1 : Nd x] [n2 : Nd y] [s : SetR ρ i (some x) ρ1] [s' : SetR ρ1 j (some y) ρ'] (h : ∀ o, P (ρ', o)) : ∃ x' y', [x, y] = [x', y'] ∧ (nd x' && nd y') = true ∧ ∃ ρ1, SetR ρ i (some x') ρ1 ∧ ∃ ρ', SetR ρ1 j (some y') ρ' ∧ Nx ρ' P := ⟨x, y, rfl, by rw [n1.eq, n2.eq]; rfl, ρ1, s, ρ', s', h⟩
theorem q_asg3 {i j l : Nat} {f : Env' → M (List D)} (h : Gd (f ρ) S fun ds S' => ∃ x y z, ds = [x, y, z] ∧ (nd x && nd y && nd z) = true ∧ ∃ ρ1, SetR ρ i (some x) ρ1 ∧ ∃ ρ2, SetR ρ1 j (some y) ρ2 ∧ ∃ ρ', SetR ρ2 l (some z) ρ' ∧ Nx ρ' fun τ => Gd (g τ) S' Q) : Gd (sSeq (sAsg (xTup f) (gN3 i j l) [i, j, l]) g (ρ, o)) S Q := by
  refine gd_seq (gd_sAsg (gd_xTup (gd_mono h fun ds S' ⟨x, y, z, e, n, ρ1, s1, ρ2, s2, ρ', s3, k⟩ => ?_)))
  subst e
  simp only [Bool.and_eq_true] at n
  refine ⟨by rw [List.all_cons, List.all_cons, List.all_cons, n.1.1, n.1.2, n.2]; rfl, (ρ', if stb (.tuple [x, y, z]) = true then o.filter (fun j' => !([i, j, l] : List Nat).contains j') else []), ?_, k _⟩
  have e : gN3 i j l (.tuple [x, y, z]) ρ = some ρ' := by
    show some (((ρ.set i (some x)).set j (some y)).set l (some z)) = _
    rw [s1.eq, s2.eq, s3.eq]
  show (gN3 i j l (.tuple [x, y, z]) ρ).map _ = _
  rw [e]
  rfl
theorem asg3_ok {x y z : D} {i j l : Nat} {ρ1 ρ2 : Env'} {P : Ste → Prop} [n1 : Nd x] [n2 : Nd y] [n3 : Nd z] [s : SetR ρ i (some x) ρ1] [s' : SetR ρ1 j (some y) ρ2] [s'' : SetR ρ2 l (some z) ρ'] (h : ∀ o, P (ρ', o)) : ∃ x' y' z', [x, y, z] = [x', y', z'] ∧ (nd x' && nd y' && nd z') = true ∧ ∃ ρ1, SetR ρ i (some x') ρ1 ∧ ∃ ρ2, SetR ρ1 j (some y') ρ2 ∧ ∃ ρ', SetR ρ2 l (some z') ρ' ∧ Nx ρ' P := ⟨x, y, z, rfl, by rw [n1.eq, n2.eq, n3.eq]; rfl, ρ1, s, ρ2, s', ρ', s'', h⟩
/-- if c: f, and what holds behind it either way -/
theorem q_ifm {c : Env' → M Bool} (J : Env' → Wd → Prop) (h : Gd (c ρ) S fun b S1 => (b = true → Gd (f (ρ, o)) S1 fun p S2 => ∃ ρ' o', p = (.nx, (ρ', o')) ∧ J ρ' S2) ∧ (b = false → J ρ S1)) (k : ∀ ρ' o' S', J ρ' S' → Gd (g (ρ', o')) S' Q) : Gd (sSeq (sIf c f sPass) g (ρ, o)) S Q := by
  refine gd_seq (gd_if (gd_mono h fun b S1 q => ⟨fun z => gd_mono (q.1 z) ?_, fun z => gd_pass (k _ _ _ (q.2 z))⟩))
  rintro p S2 ⟨ρ', o', rfl, j⟩
  exact k _ _ _ j
theorem jn_ok {J : Env' → Wd → Prop} (h : J ρ S) : ∃ ρ' o', ((Fl.nx, (ρ, o)) : Fl × Ste) = (.nx, (ρ', o')) ∧ J ρ' S := ⟨ρ, o, rfl, h⟩
end
/-! all sets of the five offsets -/
abbrev five' : List Int := [-2, -1, 0, 1, 2]
theorem asc_five : Asc five' := by decide
theorem fr_in5 {ms : List (List Int)} (h : Fr ms (-2) 2) : ∀ m, m ∈ ms → m ∈ grow five' := fun m hm => mem_grow.mpr (asc_sublist (h.mks.asc m hm) asc_five fun x hx => five (h.lo m hm x hx) (h.hi m hm x hx))
theorem asc_in5 {M : List Int} (h : M ∈ grow five') : Asc M := asc_five.sublist (mem_grow.mp h)
theorem mk_in5 {M : List Int} (h : M ∈ grow five') (hn : M ≠ []) : Mk M (-2) 2 := ⟨asc_in5 h, hn, fun o ho => (by decide : ∀ x, x ∈ five' → (-2 : Int) ≤ x) o ((mem_grow.mp h).subset ho), fun o ho => (by decide : ∀ x, x ∈ five' → x ≤ (2 : Int)) o ((mem_grow.mp h).subset ho)⟩
/-- the sets that get a dot -/
def gets (ms : List (List Int)) : List (List Int) := (grow five').filter fun M => ms.any fun m => sub m M
theorem mem_gets {ms : List (List Int)} {M : List Int} : M ∈ gets ms ↔ M ∈ grow five' ∧ (ms.any fun m => sub m M) = true := List.mem_filter
theorem gets_self {ms : List (List Int)} (h : Fr ms (-2) 2) : ∀ m, m ∈ ms → m ∈ gets ms := fun m hm => mem_gets.mpr ⟨fr_in5 h m hm, List.any_eq_true.mpr ⟨m, hm, sub_refl m⟩⟩
theorem gets_full {ms : List (List Int)} (h : Fr ms (-2) 2) : ∀ M, M ∈ gets ms → M ≠ [] := fun M hM e => by
  obtain ⟨m, hm, s⟩ := List.any_eq_true.mp (mem_gets.mp hM).2
  obtain ⟨o, l, el⟩ := List.exists_cons_of_ne_nil (h.mks.full m hm)
  have := sub_iff.mp s o (by rw [el]; exact List.mem_cons_self)
  rw [e] at this
  cases this
theorem gets_ms {ms : List (List Int)} (h : Fr ms (-2) 2) : Ms (gets ms) (-2) 2 := ⟨fun M hM => mk_in5 (mem_gets.mp hM).1 (gets_full h M hM), fun e => by
  obtain ⟨m, l, el⟩ := List.exists_cons_of_ne_nil h.mks.some
  have := gets_self h m (by rw [el]; exact List.mem_cons_self)
  rw [e] at this
  exact absurd this List.not_mem_nil⟩
theorem gets_lm (ms : List (List Int)) : Lm (gets ms) 32 := ⟨Nat.le_trans (List.length_filter_le _ _) (by rw [grow_len]; decide)⟩
theorem ev_gets {ms : List (List Int)} (h : Fr ms (-2) 2) (X : Int → Bool) : ev (gets ms) X = ev ms X := by
  rw [Bool.eq_iff_iff, ev_iff, ev_iff]
  constructor
  · rintro ⟨M, hM, k⟩
    obtain ⟨m, hm, s⟩ := List.any_eq_true.mp (mem_gets.mp hM).2
    exact ⟨m, hm, fun o ho => k o (sub_iff.mp s o ho)⟩
  · rintro ⟨m, hm, k⟩
    exact ⟨m, gets_self h m hm, k⟩
theorem mins_gets {ms : List (List Int)} (h : Fr ms (-2) 2) : mins (gets ms) = ms := by
  have := gets_ms h
  exact fr_ext inferInstance h fun X => by rw [ev_minsM, ev_gets h]
theorem gets_inj {a b : List (List Int)} (h : Fr a (-2) 2) (k : Fr b (-2) 2) : gets a = gets b ↔ a = b :=
  ⟨fun e => by rw [← mins_gets h, e, mins_gets k], fun e => by rw [e]⟩
theorem gets_apart (a b : List (List Int)) : ((gets a).filter fun M => !(gets b).contains M) = apart a b (grow five') := by
  unfold gets apart
  rw [List.filter_filter]
  refine List.filter_congr fun M hM => ?_
  have : (((grow five').filter fun M => b.any fun m => sub m M).contains M) = b.any fun m => sub m M := by
    rw [Bool.eq_iff_iff, List.contains_iff_mem, List.mem_filter]
    exact ⟨fun q => q.2, fun q => ⟨hM, q⟩⟩
  rw [this, Bool.and_comm]
end DL
end L2

namespace L2
namespace DL
open PySem
theorem min_2 (n : Nat) : gO oMin [.int (n : Int), .int 2] = M.ret (.int ((min n 2 : Nat) : Int)) := by
  show M.ret (PyData.int (if (2 : Int) < (n : Int) then 2 else (n : Int))) = _
  congr 2
  split <;> omega
theorem min_3 (n : Nat) : gO oMin [.int (n : Int), .int 3] = M.ret (.int ((min n 3 : Nat) : Int)) := by
  show M.ret (PyData.int (if (3 : Int) < (n : Int) then 3 else (n : Int))) = _
  congr 2
  split <;> omega
theorem min_5 (n : Nat) : gO oMin [.int (n : Int), .int 5] = M.ret (.int ((min n 5 : Nat) : Int)) := by
  show M.ret (PyData.int (if (5 : Int) < (n : Int) then 5 else (n : Int))) = _
  congr 2
  split <;> omega
theorem min_6 (n : Nat) : gO oMin [.int (n : Int), .int 6] = M.ret (.int ((min n 6 : Nat) : Int)) := by
  show M.ret (PyData.int (if (6 : Int) < (n : Int) then 6 else (n : Int))) = _
  congr 2
  split <;> omega
theorem min_8 (n : Nat) : gO oMin [.int (n : Int), .int 8] = M.ret (.int ((min n 8 : Nat) : Int)) := by
  show M.ret (PyData.int (if (8 : Int) < (n : Int) then 8 else (n : Int))) = _
  congr 2
  split <;> omega
end DL
end L2

namespace L2
namespace DL
open PySem
theorem ms_dec {ms : List (List Int)} (a b : Int) (h : ∀ m, m ∈ ms → (Asc m ∧ m ≠ []) ∧ ∀ o, o ∈ m → a ≤ o ∧ o ≤ b) (hn : ms ≠ []) : Ms ms a b := ⟨fun m hm => mk_dec a b (h m hm).1 (h m hm).2, hn⟩
theorem nin_lF (m : List Int) (ms : List (List Int)) : gNotIn (mkI m) (.list (ms.map mkI)) = M.ret (.bool (!ms.contains m)) := by
  have h : gIn (mkI m) (.list (ms.map mkI)) = M.ret (.bool (ms.contains m)) := by
    have := in_mkF m ms
    show (if (SeqAt.shaped (mkI m) && SeqAt.shaped (.list (ms.map mkI))) = true then M.ret (PyData.bool ((ms.map mkI).any fun z => PyData.eqv z (mkI m))) else M.no) = _
    rw [sh_lF, sh_mkI]
    have h2 : ((ms.map mkI).any fun z => PyData.eqv z (mkI m)) = ms.contains m := by
      rw [List.any_map, List.contains_eq_any_beq]
      congr 1
      funext z
      show PyData.eqv (mkI z) (mkI m) = (m == z)
      rw [show PyData.eqv (mkI z) (mkI m) = decide (z = m) from eqv_ints z m]
      rw [Bool.eq_iff_iff, decide_eq_true_iff, beq_iff_eq]
      exact eq_comm
    rw [h2]
    rfl
  unfold gNotIn
  rw [h]
  rfl
theorem eq_lF (a b : List (List Int)) : gEq (.list (a.map mkI)) (.list (b.map mkI)) = M.ret (.bool (decide (a = b))) := by
  unfold gEq
  rw [sh_lF, sh_lF]
  show M.ret (PyData.bool (PyData.eqv (.list (a.map mkI)) (.list (b.map mkI)))) = _
  simp only [PyData.eqv]
  rw [eqvAll_mkI]
theorem rev_lF (a : List (List Int)) : gRev (.list (a.map mkI)) = M.ret (.list (a.reverse.map mkI)) := by
  show M.ret (PyData.list (a.map mkI).reverse) = _
  rw [List.map_reverse]
section
variable {S : Wd} {P : D → Wd → Prop} {d e : D}
theorem u_eqL {x y : List (List Int)} [a : IsL d x] [b : IsL e y] (h : P (.bool (decide (x = y))) S) : Gd (gEq d e) S P := by
  rw [a.eq, b.eq]
  exact gd_eq (eq_lF x y) h
theorem ne_lF (a b : List (List Int)) : gNe (.list (a.map mkI)) (.list (b.map mkI)) = M.ret (.bool (!decide (a = b))) := by
  unfold gNe
  rw [sh_lF, sh_lF]
  show M.ret (PyData.bool (!PyData.eqv (.list (a.map mkI)) (.list (b.map mkI)))) = _
  simp only [PyData.eqv]
  rw [eqvAll_mkI]
theorem u_neL {x y : List (List Int)} [a : IsL d x] [b : IsL e y] (h : P (.bool (!decide (x = y))) S) : Gd (gNe d e) S P := by
  rw [a.eq, b.eq]
  exact gd_eq (ne_lF x y) h
theorem u_ninL {m : List Int} {y : List (List Int)} [a : IsI d m] [b : IsL e y] (h : P (.bool (!y.contains m)) S) : Gd (gNotIn d e) S P := by
  rw [a.eq, b.eq]
  exact gd_eq (nin_lF m y) h
theorem u_revL {x : List (List Int)} [a : IsL d x] (h : P (.list (x.reverse.map mkI)) S) : Gd (gRev d) S P := by
  rw [a.eq]
  exact gd_eq (rev_lF x) h
theorem u_lenL {x : List (List Int)} [a : IsL d x] (h : P (.int x.length) S) : Gd (gO oLen [d]) S P := by
  rw [a.eq]
  exact gd_eq (by rw [len_ev, List.length_map]) h
end
end DL
end L2
namespace L2
namespace DL
open PySem
section
variable {ρ ρ' : Env'} {o : List Nat} {S : Wd} {Q : Fl × Ste → Wd → Prop} {f g : Ste → M (Fl × Ste)}
theorem q_ifck {c c2 : Env' → M Bool} (h : Gd (c ρ) S fun b S1 => Gd (g (ρ, o)) S1 Q ∧ (b = true → Gd (c2 ρ) S1 fun b S2 => Ck b (S2 = S1))) : Gd (sSeq (sIf c (sIf c2 (sRet (fE (xC (.bool false)))) sPass) sPass) g (ρ, o)) S Q := by
  refine gd_seq (gd_if (gd_mono h fun b S1 q => ⟨fun z => gd_check (gd_mono (q.2 z) fun b S2 k => ⟨k.1, ?_⟩), fun z => gd_pass q.1⟩))
  rw [k.2]
  exact q.1
end
instance isI_opt (d : List Int) : IsI (optD (some d)) d := ⟨rfl⟩
end DL
end L2
namespace L2
namespace DL
open PySem
theorem an_ok {P R : Prop} {b : Bool} (h : P) (k : b = true → R) : P ∧ (b = true → R) := ⟨h, k⟩
/-! an offset more in each mask -/
def inss (s : Int) (ms : List (List Int)) : List (List Int) := ms.map fun m => ins m s
theorem sset_ins {m : List Int} {s : Int} (h : m.length ≤ 1000) : gSortedSetA (.list ((m ++ [s]).map .int)) = M.ret (.list ((ins m s).map .int)) := by
  have e0 : intsD ((m ++ [s]).map PyData.int) = some (m ++ [s]) := ints_map _
  have l1 : (srtU ltI (m ++ [s])).length ≤ m.length + 1 := by
    have := srtU_len (lt := ltI) (m ++ [s])
    rw [List.length_append] at this
    exact this
  have e1 : oSortedSet (.list ((m ++ [s]).map PyData.int)) = some (.list ((ins m s).map PyData.int)) := by
    unfold oSortedSet
    simp only [e0]
    rw [if_pos (decide_eq_true (by omega))]
    rfl
  show ofO (oSortedSet (.list ((m ++ [s]).map PyData.int))) = _
  rw [e1]
  rfl
theorem add_lI {a b : List Int} (h : a.length + b.length ≤ 1000) : gAdd (.list (a.map .int)) (.list (b.map .int)) = M.ret (.list ((a ++ b).map .int)) := by
  rw [add_lst (by rw [List.length_map, List.length_map]; omega), ← List.map_append]
theorem ms_inss {s : Int} {ms : List (List Int)} {a b : Int} (h : Ms ms a b) (h1 : a ≤ s) (h2 : s ≤ b) : Ms (inss s ms) a b :=
  ⟨fun z hz => by
    obtain ⟨m, hm, rfl⟩ := List.mem_map.mp hz
    have q := h.all m hm
    refine ⟨asc_ins m s, fun e => ?_, fun o ho => ?_, fun o ho => ?_⟩
    · have : s ∈ ins m s := mem_ins.mpr (.inr rfl)
      rw [e] at this
      cases this
    · rcases mem_ins.mp ho with k | k
      · exact q.lo o k
      · omega
    · rcases mem_ins.mp ho with k | k
      · exact q.hi o k
      · omega, by have := h.some; simp [inss, this]⟩
instance lm_inss (s : Int) (ms : List (List Int)) (n : Nat) [h : Lm ms n] : Lm (inss s ms) n := ⟨by unfold inss; rw [List.length_map]; exact h.le⟩
theorem ev_inss (s : Int) (ms : List (List Int)) (X : Int → Bool) : ev (inss s ms) X = (ev ms X && X s) := by
  rw [Bool.eq_iff_iff, Bool.and_eq_true, ev_iff, ev_iff]
  constructor
  · rintro ⟨z, hz, k⟩
    obtain ⟨m, hm, rfl⟩ := List.mem_map.mp hz
    exact ⟨⟨m, hm, fun o ho => k o (mem_ins.mpr (.inl ho))⟩, k s (mem_ins.mpr (.inr rfl))⟩
  · rintro ⟨⟨m, hm, k⟩, h⟩
    refine ⟨_, List.mem_map.mpr ⟨m, hm, rfl⟩, fun o ho => ?_⟩
    rcases mem_ins.mp ho with e | e
    · exact k o e
    · rw [e]; exact h
/-! pairs of signs -/
theorem add_sg (a b : Bool) : gAdd (sgD a) (sgD b) = M.ret (rt [a, b]) := by
  rw [sg_rt, sg_rt, add_rt (by simp)]
  rfl
theorem sh_lR {α : Type} (f : α → List Bool) (l : List α) : SeqAt.shaped (.list (l.map fun p => rt (f p))) = true := by
  have key : ∀ l : List α, PyData.canLayAll0 (l.map fun p => rt (f p)) = true ∧ PyData.depthAll (l.map fun p => rt (f p)) ≤ 2 := by
    intro l
    induction l with
    | nil => exact ⟨rfl, by simp [PyData.depthAll]⟩
    | cons a l ih =>
      have h1 : (rt (f a)).canLay0 = true := by show PyData.canLay0 (.str (rs (f a))) = true; simp only [PyData.canLay0]; exact strOk_rs _
      have h2 : (rt (f a)).depth ≤ 2 := by show PyData.depth (.str (rs (f a))) ≤ 2; simp only [PyData.depth]; omega
      refine ⟨?_, ?_⟩
      · simp only [List.map_cons, PyData.canLayAll0, ih.1, h1]
        rfl
      · simp only [List.map_cons, PyData.depthAll]
        have := ih.2
        omega
  refine shaped_of ?_ ?_
  · simp only [PyData.canLay0]
    exact (key l).1
  · simp only [PyData.depth]
    have := (key l).2
    omega
theorem in_lR {α : Type} (f : α → List Bool) (l : List α) (a : List Bool) : gIn (rt a) (.list (l.map fun p => rt (f p))) = M.ret (.bool (l.any fun p => decide (f p = a))) := by
  show (if (SeqAt.shaped (rt a) && SeqAt.shaped (.list (l.map fun p => rt (f p)))) = true then M.ret (PyData.bool ((l.map fun p => rt (f p)).any fun z => PyData.eqv z (rt a))) else M.no) = _
  rw [sh_lR, sh_rt, List.any_map]
  show M.ret (PyData.bool (l.any fun p => PyData.eqv (rt (f p)) (rt a))) = _
  congr 3
  funext p
  exact eqv_rt _ _
theorem in_db (x y : List Bool) : gIn (.str "#.") (.list ((x.zip y).map fun p => rt [p.1, p.2])) = M.ret (.bool (!lies x y)) := by
  rw [sgs1, in_lR (fun p : Bool × Bool => [p.1, p.2])]
  congr 2
  unfold lies
  rw [not_all]
  congr 1
  funext p
  obtain ⟨u, v⟩ := p
  cases u <;> cases v <;> rfl
theorem sgs6 : (PyData.str ".#" : D) = rt [false, true] := congrArg PyData.str (by decide)
theorem in_bd (x y : List Bool) : gIn (.str ".#") (.list ((x.zip y).map fun p => rt [p.1, p.2])) = M.ret (.bool (!((x.zip y).all fun p => !p.2 || p.1))) := by
  rw [sgs6, in_lR (fun p : Bool × Bool => [p.1, p.2])]
  congr 2
  rw [not_all]
  congr 1
  funext p
  obtain ⟨u, v⟩ := p
  cases u <;> cases v <;> rfl
theorem lies_swap (x y : List Bool) : ((x.zip y).all fun p => !p.2 || p.1) = lies y x := by
  unfold lies
  induction x generalizing y with
  | nil => cases y <;> rfl
  | cons a x ih =>
    cases y with
    | nil => rfl
    | cons b y => simp only [List.zip_cons_cons, List.all_cons, ih]
theorem lies_app {a b : List (List Int)} {bs : List Bool} (hn : 0 < bs.length) (h : blw a b = true) : lies (app a bs) (app b bs) = true := by
  rw [lies_iff (by rw [app_len, app_len]) (by rw [app_len]; exact hn)]
  intro i hi
  rw [cyc_app' hn] at hi ⊢
  exact blw_ev.mp h _ hi
theorem blw_mvs (s : Int) (a b : List (List Int)) : blw (mvs s a) (mvs s b) = blw a b := by
  rw [Bool.eq_iff_iff, blw_ev, blw_ev]
  constructor
  · intro h X e
    have := h (fun o => X (o - s)) (by
      rw [ev_mvs]
      simp only [Int.add_sub_cancel]
      exact e)
    rw [ev_mvs] at this
    simp only [Int.add_sub_cancel] at this
    exact this
  · intro h X e
    rw [ev_mvs] at e ⊢
    exact h _ e
end DL
end L2

set_option Elab.async false
set_option linter.all false
set_option maxRecDepth 100000
/-! try: return .. / except X as e: return isinstance(e, Y) -/
namespace L2
namespace DL
open PySem PySem.Spec PyProof.Rows
/-- what a class x of errors says, and that it is under the class y -/
def ExcH (K : PySem.W.Frag) (mg : Str → Option Value) (x y : Str) : Prop := ∃ C B, mg x = some (.ref C) ∧ mg y = some (.ref B) ∧ PySem.W.exmOne K (.ref C) (.ref C) = some true ∧ ExcC K C ∧ PySem.W.kitOne K (.ref C) (.ref B) = some true
def sTryIs (i : Nat) (f : Ste → M (Fl × Ste)) (x : Str) : Ste → M (Fl × Ste) := fun τ S => match f τ S with
  | .ok (.exc e, τ') S' => if (decide (e.cls = x) && e.fs.isEmpty && decide (i < τ'.1.length)) = true then .ok (.ret (.bool true) false, τ') S' else .no
  | r => r
section
variable {X : Cx} {W : WX} {pos : Pos}
theorem sj_tryIs {i : Nat} {n x y : Str} {body : List Stmt} {np p1 p2 p3 p4 p5 pos' : Pos} {f : Ste → M (Fl × Ste)} (hN : X.N.Nodup) (tk : Takes X W) (ex : ExcH X.K X.mg x y) (hI : X.mg "isinstance" = none)
    (hb : ∀ (W' : WX) (pn : List (Addr × Obj)) (xe : Value → Shared → Prop), Takes (X.tr pn xe) W' → PassesOwn (model X.prog X.w) X.A X.env xe → SsJ (X.tr pn xe) W' body f)
    (hs : X.stack = X.env :: X.outer := by rfl) (hf : X.env.frame = some X.env.locals := by rfl) (hi : X.N[i]? = some n := by rfl) (hln : X.env.kindOf n = some .local := by rfl) (hg : Gl X x := by rfl) (hdx : (x == ("__debug__" : Str)) = false := by decide) (hg2 : Gl X y := by rfl) (hd2 : (y == ("__debug__" : Str)) = false := by decide)
    (hgI : Gl X "isinstance" := by rfl) (hv : Vis X.env.scope n := by first | exact Or.inl rfl | exact Or.inr (Or.inl rfl) | exact Or.inr (Or.inr rfl)) (hdn : (n == ("__debug__" : Str)) = false := by decide) (hcd : (n == ("__classdict__" : Str)) = false := by decide)
    (he : starEach (.Name n p2 :: [.Name y p3]) X.env = (false, eval (.Name n p2) X.env) :: starEach [.Name y p3] X.env := by rfl) (he2 : starEach (.Name y p3 :: []) X.env = (false, eval (.Name y p3) X.env) :: starEach [] X.env := by rfl) (hpl : (backTo p4 (starEach [.Name y p3] X.env)).any (·.1) = false := by rfl) :
    SJ X W (.Try body [.ExceptHandler (some (.Name x np)) (some n) [.Return (some (.Call (.Name "isinstance" p1) [.Name n p2, .Name y p3] [] p4)) p5] pos'] [] [] pos) (sTryIs i f x) := by
  obtain ⟨C, B, hC, hB, hm, hE, hk⟩ := ex
  have hsu : ∀ (a : Addr) (oe : Obj) (cls : Value) (d : Option Addr) (pn : List (Addr × Obj)), Zc cls d oe → (∃ vs, oe.data = .fields vs) →
      PSs (X.suite a ((a, oe) :: pn)) [.Return (some (.Call (.Name "isinstance" p1) [.Name n p2, .Name y p3] [] p4)) p5] (fun D σ H => cls = .ref C ∧ d = none ∧ σ[i]? = some (some (.ref a)) ∧ D.rt (.bl true) H) := by
    intro a oe cls d pn hz hfv
    refine ⟨fun pins s σ H D I h => ?_⟩
    obtain ⟨rfl, rfl, hσ, hr⟩ := h
    have pe := pe_callB (X := X.suite a ((a, oe) :: pn)) (pos := p4) (p := p1) (call_isE hE hz hfv) hgI hI (by decide +kernel) (pa_cons (pe_var (pos := p2) hi hv hdn hcd) (pa_cons (pe_glob (v := .ref B) (pos := p3) hg2 hB rfl hd2) pa_nil he2) he) (by decide) (by decide) he hpl
    refine (pss_one (ps_ret (pos := p5) pe)).run pins s σ H D I ?_
    exact ⟨.ref a, hσ, .ref B, .ref B, true, rfl, fun u q => q, hk, hr⟩
  refine ps_imp (ps_try_as (tb := fun W' => tS X.K X.mg W' f) hs hf hN hi hln ⟨hg, hdx, .inl hC⟩ tk hb hsu) fun Dn σ H h => ?_
  obtain ⟨μ0, S0, H0, μ, S, τ, hs', h⟩ := h
  refine ⟨μ0, S0, H0, μ, S, τ, hs', ?_⟩
  unfold sTryIs at h
  cases e : f τ S with
  | ok p S' =>
    obtain ⟨fl, τ'⟩ := p
    rw [e] at h
    cases fl with
    | nx => exact h
    | ret d fr => exact h
    | brk => exact h
    | cnt => exact h
    | exc er =>
      simp only at h
      split at h
      · rename_i q
        simp only [Bool.and_eq_true, decide_eq_true_iff, List.isEmpty_iff] at q
        obtain ⟨⟨q1, q2⟩, q3⟩ := q
        intro μ' σ' H' hk' c dx hcls hfs
        have ec : c = .ref C := by
          rcases hcls with z | ⟨z, _⟩
          · rw [q1, hC] at z; exact (Option.some.inj z).symm
          · rw [q1, hC] at z; cases z
        have ed : dx = none := by
          rcases hfs with ⟨z, _⟩ | ⟨_, _, z, _⟩
          · exact z
          · exact absurd q2 z
        subst ec ed
        refine ⟨true, hm, fun _ a ha => ⟨rfl, rfl, List.getElem?_set_self (by rw [← hk'.len]; exact q3), h μ' (.bl true) H' hk'.st hk'.w ⟨.inr (.bl true), fun z => by cases z⟩⟩, fun z => by cases z⟩
      · exact h.elim
  | ex er S' => rw [e] at h; exact h.elim
  | no => rw [e] at h; exact h.elim
end
end DL
end L2
namespace L2
namespace DL
open PySem
theorem kit_ref {K : PySem.W.Frag} {C : Value} {B : Addr} (hd : PySem.W.hasDictIn K B = true) (ht : PySem.W.typeIn K (.ref B) = some (.type "type")) (h : PySem.W.subIn K C (.ref B) = some true) : PySem.W.kitOne K C (.ref B) = some true := by
  obtain ⟨cd, hc, _⟩ := PySem.W.any_some hd
  have e2 : ((PySem.W.clsIn K B).isSome && PySem.W.typeIn K (.ref B) == some (.type "type")) = true := by rw [hc, ht] <;> rfl
  unfold PySem.W.kitOne
  split
  · rfl
  · show (if ((PySem.W.clsIn K B).isSome && PySem.W.typeIn K (.ref B) == some (.type "type")) = true then PySem.W.subIn K C (.ref B) else none) = some true
    rw [if_pos e2]
    exact h
end DL
end L2

set_option Elab.async false
set_option linter.all false
set_option maxRecDepth 100000
/-! errors that are raised and caught -/
namespace L2
namespace DL
open PySem
def M.exc {α : Type} (e : Ex) : M α := fun S => .ex e S
section
variable {α β : Type} {e : Ex} {τ τ' : Ste} {i : Nat} {f : Ste → M (Fl × Ste)} {x : Str} {d : D} {fr : Bool}
theorem bind_exc {k : α → M β} : M.bind (M.exc e) k = M.exc e := rfl
theorem lft_exc {k : α → M (Fl × Ste)} : lft (M.exc e) τ k = M.ret (.exc e, τ) := rfl
theorem fn_exc {n : Nat} {fb : Ste → M (Fl × Ste)} {ds : List D} (h : fb (ds.map some ++ List.replicate (n - ds.length) none, []) = M.ret (.exc e, τ)) : fnM n fb ds = M.exc e := by
  funext S
  unfold fnM
  rw [h]
  rfl
theorem tryIs_exc (h : f τ = M.ret (.exc ⟨x, []⟩, τ')) (hi : i < τ'.1.length) : sTryIs i f x τ = M.ret (.ret (.bool true) false, τ') := by
  funext S
  unfold sTryIs
  rw [h]
  show (if (decide (x = x) && true && decide (i < τ'.1.length)) = true then _ else _) = _
  rw [decide_eq_true rfl, decide_eq_true hi]
  rfl
theorem tryIs_ret (h : f τ = M.ret (.ret d fr, τ')) : sTryIs i f x τ = M.ret (.ret d fr, τ') := by
  funext S
  unfold sTryIs
  rw [h]
  rfl
end
/-- no number within the bounds -/
def badNum (lo hi : Int) : D → Bool
  | .int i => !(decide (lo ≤ i) && decide (i ≤ hi))
  | .none => true
  | .bool _ => true
  | .str _ => true
  | _ => false
theorem mod_pos {i : Int} {n : Nat} (h : 0 < n) : ∃ k : Nat, k < n ∧ i % (n : Int) = (k : Int) := by
  have h0 := Int.emod_nonneg i (show (n : Int) ≠ 0 by omega)
  have h1 := Int.emod_lt_of_pos i (show (0 : Int) < n by omega)
  exact ⟨(i % (n : Int)).toNat, by omega, by omega⟩
theorem app_mvs {x : List (List Int)} {bs : List Bool} {s : Int} {a : Nat} (hn : 0 < bs.length) (ha : a < bs.length) (e : s % (bs.length : Int) = (a : Int)) : app (mvs s x) bs = (app x bs).drop a ++ (app x bs).take a := by
  refine cyc_ext ?_ fun i => ?_
  · rw [app_len, List.length_append, List.length_drop, List.length_take, app_len]; omega
  · rw [cyc_app' hn, cyc_rot (by rw [app_len]; omega) (by rw [app_len]; exact hn), cyc_app' hn, ev_mvs]
    congr 1
    funext o
    refine cyc_congr ?_
    have : i + (o + s) = (i + o) + s := by omega
    rw [this, Int.add_emod, e, ← Int.add_emod_emod, show i + (a : Int) + o = (i + o) + a by omega, ← Int.add_emod]
theorem mins_form {x : List (List Int)} {a b : Int} (h : Fr x a b) : mins x = x := h.form
theorem mins_ng {x : List (List Int)} {a b : Int} (h : Fr x a b) : mins (x.map ng) = mir x :=
  fr_ext (Fr.of_form (a := -b) (b := -a) ⟨by simp [h.mks.some], fun m hm => by
    obtain ⟨m', h', rfl⟩ := List.mem_map.mp hm
    exact asc_ng (h.mks.asc m' h'), fun m hm => by
    obtain ⟨m', h', rfl⟩ := List.mem_map.mp hm
    have := h.mks.full m' h'
    unfold ng
    simp [this]⟩ fun m hm o ho => by
    obtain ⟨m', h', rfl⟩ := List.mem_map.mp hm
    have q := mem_ng.mp ho
    have := h.lo m' h' _ q
    have := h.hi m' h' _ q
    omega) (fr_mir x a b) fun X => by
    rw [ev_mins (fun m hm => by
      obtain ⟨m', h', rfl⟩ := List.mem_map.mp hm
      exact asc_ng (h.mks.asc m' h')), ev_mir]
    unfold ev
    rw [List.any_map]
    congr 1
    funext m
    exact all_ng m X
instance ms_ng (x : List (List Int)) (a b : Int) [h : Fr x a b] : Ms (x.map ng) (-b) (-a) := ⟨fun m hm => by
    obtain ⟨m', h', rfl⟩ := List.mem_map.mp hm
    have := (ms_fr x a b).all m' h'
    exact mk_ng m' a b, by have := h.mks.some; simp [this]⟩
instance lm_ng (x : List (List Int)) (n : Nat) [h : Lm x n] : Lm (x.map ng) n := ⟨by rw [List.length_map]; exact h.le⟩
section
variable {S : Wd} {P : D → Wd → Prop} {d e : D}
theorem u_modR {i : Int} {bs : List Bool} {n : Nat} [r : Rn bs n] (h : P (.int (i % (bs.length : Int))) S) : Gd (gMod (.int i) (.int (bs.length : Int))) S P := gd_eq (mod_len r.pos i) h
theorem u_dropR {x : List Bool} {k n : Nat} [a : IsR d x] [r : Rn x n] (h : P (rt (x.drop k)) S) (hk : k ≤ x.length) (hn : n ≤ 1000 := by decide) : Gd (gSl d (some (k : Int)) none) S P := by
  rw [a.eq]
  exact gd_eq (drop_rt (by have := r.le; omega) hk) h
theorem u_takeR {x : List Bool} {k n : Nat} [a : IsR d x] [r : Rn x n] (h : P (rt (x.take k)) S) (hk : k ≤ x.length) (hn : n ≤ 1000 := by decide) : Gd (gSl d none (some (k : Int))) S P := by
  rw [a.eq]
  exact gd_eq (take_rt (by have := r.le; omega) hk) h
theorem u_addR {x y : List Bool} [a : IsR d x] [b : IsR e y] (h : P (rt (x ++ y)) S) (hl : x.length + y.length ≤ 1000) : Gd (gAdd d e) S P := by
  rw [a.eq, b.eq]
  exact gd_eq (add_rt hl) h
end
end DL
end L2
namespace L2
namespace DL
theorem rg_ok {o : List D → Option (List D)} {ds es : List D} {P : List D → Prop} (e : o ds = some es) (h : P es) : ∃ es', o ds = some es' ∧ P es' := ⟨es, e, h⟩
end DL
end L2

set_option Elab.async false
set_option linter.all false
set_option maxRecDepth 100000
/-! openings -/
namespace L2
namespace DL
open PySem
def nrm (m : List Int) : List Int := mv (-(m.headD 0)) m
def opns (F : List (List Int)) : List (List Int) := srtU HT.lexLt (F.map nrm)
/-- the greatest one of some filters -/
def gst (fs : List (List (List Int))) : List (List Int) := (fs.drop 1).foldl join (fs.headD [])
theorem gst_snoc {fs : List (List (List Int))} (h : fs ≠ []) (f : List (List Int)) : gst (fs ++ [f]) = join (gst fs) f := by
  obtain ⟨x, l, rfl⟩ := List.exists_cons_of_ne_nil h
  unfold gst
  simp
theorem gst_ok {a b : Int} : ∀ (fs : List (List (List Int))), fs ≠ [] → (∀ f, f ∈ fs → Fr f a b) → Fr (gst fs) a b ∧ ∀ X, ev (gst fs) X = fs.any fun f => ev f X := by
  intro fs
  induction fs using snoc_ind with
  | h0 => intro h; exact absurd rfl h
  | h l f ih =>
    intro _ hf
    by_cases c : l = []
    · subst c
      have := hf f (by simp)
      refine ⟨this, fun X => ?_⟩
      simp [gst]
    · obtain ⟨h1, h2⟩ := ih c fun g hg => hf g (List.mem_append_left _ hg)
      have h3 := hf f (by simp)
      rw [gst_snoc c]
      refine ⟨(fr_join (gst l) f a b a b).le (by omega) (by omega), fun X => ?_⟩
      rw [ev_joinF, h2, List.any_append]
      simp
theorem gst_mem : ∀ (fs : List (List (List Int))), fs ≠ [] → ∀ m, m ∈ gst fs → ∃ f, f ∈ fs ∧ m ∈ f := by
  intro fs
  induction fs using snoc_ind with
  | h0 => intro h; exact absurd rfl h
  | h l f ih =>
    intro _ m hm
    by_cases c : l = []
    · subst c
      exact ⟨f, by simp, by simpa [gst] using hm⟩
    · rw [gst_snoc c] at hm
      rcases List.mem_append.mp (mins_mem.mp hm).1 with q | q
      · obtain ⟨g, hg, h2⟩ := ih c m q
        exact ⟨g, List.mem_append_left _ hg, h2⟩
      · exact ⟨f, by simp, q⟩
theorem mk_mv (s : Int) {m : List Int} {a b : Int} (h : Mk m a b) : Mk (mv s m) (a + s) (b + s) :=
  ⟨asc_mv h.asc, by have := h.some; unfold mv; simp [this], fun o ho => by have := h.lo _ (mem_mv.mp ho); omega, fun o ho => by have := h.hi _ (mem_mv.mp ho); omega⟩
theorem opn_mv (s : Int) {m : List Int} {a b : Int} (h : Mk m a b) : opn (mv s m) = opn m := by
  have h2 := mk_mv s h
  refine fr_ext (fr_opn (mv s m) _ _) (fr_opn m a b) fun X => ?_
  rw [ev_opnF, ev_opnF]
  unfold mv
  rw [List.any_map]
  congr 1
  funext e
  show (m.map (· + s)).all _ = _
  rw [List.all_map]
  congr 1
  funext o
  show X (o + s + -(e + s)) = X (o + -e)
  congr 1
  omega
theorem mk_of {m : List Int} (h : Asc m) (hn : m ≠ []) : Mk m (m.headD 0) (m.getLastD 0) := ⟨h, hn, fun o ho => asc_head h ho, fun o ho => asc_last h ho⟩
/-- openings only take away, and are done once -/
theorem opn_thin {m : List Int} {a b : Int} [h : Mk m a b] : blw (opn m) [[0]] = true := blw_ev.mpr fun X e => by
  rw [ev_opnF, List.any_eq_true] at e
  obtain ⟨p, hp, q⟩ := e
  rw [ev_still]
  have := List.all_eq_true.mp q p hp
  rw [Int.add_right_neg] at this
  exact this
theorem opn_again {m : List Int} {a b : Int} [h : Mk m a b] : blw (opn m) (aft (opn m) (opn m)) = true := blw_ev.mpr fun X e => by
  rw [ev_opnF, List.any_eq_true] at e
  obtain ⟨p, hp, q⟩ := e
  rw [ev_aft, ev_opnF, List.any_eq_true]
  refine ⟨p, hp, List.all_eq_true.mpr fun o ho => ?_⟩
  rw [ev_opnF, List.any_eq_true]
  refine ⟨o, ho, List.all_eq_true.mpr fun o' ho' => ?_⟩
  have := List.all_eq_true.mp q o' ho'
  have e2 : o' + -o + (o + -p) = o' + -p := by omega
  rw [e2]
  exact this
theorem blw_gst {a b : Int} {fs : List (List (List Int))} (h : fs ≠ []) (hf : ∀ f, f ∈ fs → Fr f a b) {f : List (List Int)} (q : f ∈ fs) : blw f (gst fs) = true := blw_ev.mpr fun X e => by
  rw [(gst_ok fs h hf).2]
  exact List.any_eq_true.mpr ⟨f, q, e⟩
theorem gst_blw {a b : Int} {fs : List (List (List Int))} (h : fs ≠ []) (hf : ∀ f, f ∈ fs → Fr f a b) {g : List (List Int)} (k : ∀ f, f ∈ fs → blw f g = true) : blw (gst fs) g = true := blw_ev.mpr fun X e => by
  rw [(gst_ok fs h hf).2] at e
  obtain ⟨f, hf', e'⟩ := List.any_eq_true.mp e
  exact blw_ev.mp (k f hf') X e'
/-- a filter that opens -/
structure Opens (F : List (List Int)) : Prop where
  thin : blw F [[0]] = true
  done : aft F F = F
theorem Opens.zero {F : List (List Int)} (h : Opens F) : ∀ m, m ∈ F → (0 : Int) ∈ m := fun m hm => by
  obtain ⟨l, hl, s⟩ := blw_iff.mp h.thin m hm
  rw [List.mem_singleton.mp hl] at s
  exact sub_iff.mp s 0 List.mem_cons_self
/-- the opening by a mask of it is below it -/
theorem Opens.mask {F : List (List Int)} {a b : Int} (h : Opens F) (hF : Fr F a b) {m : List Int} (hm : m ∈ F) : blw (opn m) F = true := by
  have mm := mk_of (hF.mks.asc m hm) (hF.mks.full m hm)
  -- the mask as a row: each of its dots is kept
  have keep : ∀ e, e ∈ m → ev F (fun p => m.contains (p + e)) = true := by
    intro e he
    have h0 : ev F (fun p => m.contains p) = true := by
      rw [ev_contains]
      exact List.any_eq_true.mpr ⟨m, hm, sub_refl m⟩
    have h1 := h0
    rw [← h.done, ev_aft] at h1
    obtain ⟨m', hm', q⟩ := ev_iff.mp h1
    have le : sub m' m = true := sub_iff.mpr fun o ho => by
      have := q o ho
      have t := blw_ev.mp h.thin _ this
      rw [ev_still, Int.zero_add] at t
      exact List.contains_iff_mem.mp t
    have em := (form_iff.mp hF.form).2 m hm m' hm' le
    rw [em] at q
    exact q e he
  refine blw_ev.mpr fun X e => ?_
  rw [ev_opnF, List.any_eq_true] at e
  obtain ⟨p, hp, q⟩ := e
  refine ev_up (fun o ho => ?_) (keep p hp)
  have := List.all_eq_true.mp q (o + p) (List.contains_iff_mem.mp ho)
  have e2 : o + p + -p = o := by omega
  rw [e2] at this
  exact this
theorem mem_opns {F : List (List Int)} {z : List Int} : z ∈ opns F ↔ ∃ m, m ∈ F ∧ nrm m = z := by
  unfold opns
  rw [srtU_mem tot_lex, List.mem_map]
theorem mk_nrm {m : List Int} {a b : Int} (h : Mk m a b) : Mk (nrm m) 0 (b - a) := by
  have := mk_mv (-(m.headD 0)) h
  have h1 := h.lo _ (head_mem h.some)
  refine ⟨this.asc, this.some, fun o ho => ?_, fun o ho => ?_⟩
  · have := asc_head h.asc (mem_mv.mp ho)
    omega
  · have := h.hi _ (mem_mv.mp ho)
    omega
theorem opn_nrm {m : List Int} {a b : Int} (h : Mk m a b) : opn (nrm m) = opn m := opn_mv _ h
theorem fr_opns {F : List (List Int)} {a b : Int} (hF : Fr F a b) : ∀ f, f ∈ (opns F).map opn → Fr f (a - b) (b - a) := fun f hf => by
  obtain ⟨z, hz, rfl⟩ := List.mem_map.mp hf
  obtain ⟨m, hm, rfl⟩ := mem_opns.mp hz
  have hm' := (ms_fr F a b).all m hm
  rw [opn_nrm hm']
  exact fr_opn m a b
theorem opns_ne {F : List (List Int)} (h : F ≠ []) : opns F ≠ [] := by
  obtain ⟨m, l, rfl⟩ := List.exists_cons_of_ne_nil h
  intro e
  have : nrm m ∈ opns (m :: l) := mem_opns.mpr ⟨m, List.mem_cons_self, rfl⟩
  rw [e] at this
  cases this
/-- it is the greatest one of opening with its masks -/
theorem Opens.is {F : List (List Int)} {a b : Int} (h : Opens F) (hF : Fr F a b) : gst ((opns F).map opn) = F := by
  have hne : (opns F).map opn ≠ [] := by simp [opns_ne hF.mks.some]
  have hfs := fr_opns hF
  refine blw_eqF (gst_ok _ hne hfs).1 hF (gst_blw hne hfs fun f hf => ?_) (blw_ev.mpr fun X e => ?_)
  · obtain ⟨z, hz, rfl⟩ := List.mem_map.mp hf
    obtain ⟨m, hm, rfl⟩ := mem_opns.mp hz
    rw [opn_nrm ((ms_fr F a b).all m hm)]
    exact h.mask hF hm
  · obtain ⟨m, hm, q⟩ := ev_iff.mp e
    have hm' := (ms_fr F a b).all m hm
    rw [(gst_ok _ hne hfs).2]
    refine List.any_eq_true.mpr ⟨opn m, List.mem_map.mpr ⟨nrm m, mem_opns.mpr ⟨m, hm, rfl⟩, opn_nrm hm'⟩, ?_⟩
    rw [ev_opnF, List.any_eq_true]
    refine ⟨0, h.zero m hm, List.all_eq_true.mpr fun o ho => ?_⟩
    have e2 : o + -(0 : Int) = o := by omega
    rw [e2]
    exact q o ho
/-- without one of them it is another one -/
theorem Opens.need {F : List (List Int)} {a b : Int} (h : Opens F) (hF : Fr F a b) {ls : List (List Int)} {z : List Int} (hz : z ∈ opns F) (hl : ∀ s, s ∈ ls → s ∈ opns F ∧ s ≠ z) (hne : ls ≠ []) : gst (ls.map opn) ≠ F := by
  intro e
  obtain ⟨m, hm, rfl⟩ := mem_opns.mp hz
  have hne' : ls.map opn ≠ [] := by simp [hne]
  have hfs : ∀ f, f ∈ ls.map opn → Fr f (a - b) (b - a) := fun f hf => by
    obtain ⟨s, hs, rfl⟩ := List.mem_map.mp hf
    exact fr_opns hF _ (List.mem_map.mpr ⟨s, (hl s hs).1, rfl⟩)
  have h0 : ev F (fun p => m.contains p) = true := by
    rw [ev_contains]
    exact List.any_eq_true.mpr ⟨m, hm, sub_refl m⟩
  rw [← e, (gst_ok _ hne' hfs).2] at h0
  obtain ⟨f, hf, q⟩ := List.any_eq_true.mp h0
  obtain ⟨s, hs, rfl⟩ := List.mem_map.mp hf
  obtain ⟨⟨m1, hm1, em1⟩, hne1⟩ := And.intro (mem_opns.mp (hl s hs).1) (hl s hs).2
  have mk1 := (ms_fr F a b).all m1 hm1
  have mks : Mk s 0 (b - a) := by rw [← em1]; exact mk_nrm mk1
  rw [ev_opnF, List.any_eq_true] at q
  obtain ⟨p, hp, q⟩ := q
  -- the moved mask t lies in m; the opening keeps it all, so a mask lies in it
  have ht : ∀ o, o ∈ mv (-p) s → o ∈ m := fun o ho => by
    have := List.all_eq_true.mp q (o + p) (by have := mem_mv.mp ho; rwa [show o - -p = o + p by omega] at this)
    rw [show o + p + -p = o by omega] at this
    exact List.contains_iff_mem.mp this
  have h1 : ev F (fun o => (mv (-p) s).contains o) = true := by
    refine blw_ev.mp (h.mask hF hm1) _ ?_
    rw [← opn_nrm mk1, em1, ev_opnF, List.any_eq_true]
    refine ⟨p, hp, List.all_eq_true.mpr fun o ho => List.contains_iff_mem.mpr (mem_mv.mpr ?_)⟩
    rw [show o + -p - -p = o by omega]
    exact ho
  rw [ev_contains] at h1
  obtain ⟨m2, hm2, s2⟩ := List.any_eq_true.mp h1
  have e2 : m2 = m := (form_iff.mp hF.form).2 m hm m2 hm2 (sub_iff.mpr fun o ho => ht o (sub_iff.mp s2 o ho))
  subst e2
  have e3 : mv (-p) s = m2 := asc_ext (asc_mv mks.asc) (hF.mks.asc m2 hm) fun o => ⟨ht o, fun ho => sub_iff.mp s2 o ho⟩
  refine hne1 ?_
  rw [← e3, ← em1]
  -- both are moved to 0
  have n2 : ∀ (t : Int) (u : List Int), u ≠ [] → nrm (mv t u) = nrm u := fun t u hu => by
    obtain ⟨x, l, rfl⟩ := List.exists_cons_of_ne_nil hu
    unfold nrm mv
    simp only [List.map_cons, List.headD_cons, List.map_map]
    congr 1
    · omega
    · refine List.map_congr_left fun o _ => ?_
      show o + t + -(x + t) = o + -x
      omega
  have n3 : nrm (nrm m1) = nrm m1 := n2 _ m1 mk1.some
  rw [n2 _ _ (by rw [em1]; exact mks.some), n3]
/-- the greatest one of openings opens -/
theorem opens_gst {ms : List (List Int)} {a b : Int} (hn : ms ≠ []) (hm : ∀ m, m ∈ ms → Mk m a b) : Opens (gst (ms.map opn)) := by
  have hne : ms.map opn ≠ [] := by simp [hn]
  have hfs : ∀ f, f ∈ ms.map opn → Fr f (a - b) (b - a) := fun f hf => by
    obtain ⟨s, hs, rfl⟩ := List.mem_map.mp hf
    have := hm s hs
    exact fr_opn s a b
  have hG := (gst_ok _ hne hfs).1
  have th : blw (gst (ms.map opn)) [[0]] = true := gst_blw hne hfs fun f hf => by
    obtain ⟨s, hs, rfl⟩ := List.mem_map.mp hf
    have := hm s hs
    exact opn_thin
  refine ⟨th, blw_eqF inferInstance hG ?_ (gst_blw hne hfs fun f hf => ?_)⟩
  · refine blw_tr (blw_aftL th) (blw_ev.mpr fun X e => ?_)
    rw [ev_aft, ev_still] at e
    simpa using e
  · obtain ⟨s, hs, rfl⟩ := List.mem_map.mp hf
    have := hm s hs
    have le : blw (opn s) (gst (ms.map opn)) = true := blw_gst hne hfs (List.mem_map.mpr ⟨s, hs, rfl⟩)
    exact blw_tr opn_again (blw_tr (blw_aftL le) (blw_aftR le))
theorem opns_few {ms : List (List Int)} {a b : Int} (hn : ms ≠ []) (hm : ∀ m, m ∈ ms → Mk m a b) : (opns (gst (ms.map opn))).length ≤ ms.length := by
  have hne : ms.map opn ≠ [] := by simp [hn]
  have : (opns (gst (ms.map opn))).length ≤ (ms.map nrm).length := nodup_len _ _ (strict_nodup tot_lex (srtU_sorted tot_lex _)) fun z hz => by
    obtain ⟨m, hm', rfl⟩ := mem_opns.mp hz
    obtain ⟨f, hf, hmf⟩ := gst_mem _ hne m hm'
    obtain ⟨s, hs, rfl⟩ := List.mem_map.mp hf
    obtain ⟨e, he, rfl⟩ := List.mem_map.mp (mins_mem.mp hmf).1
    refine List.mem_map.mpr ⟨s, hs, ?_⟩
    obtain ⟨x, l, rfl⟩ := List.exists_cons_of_ne_nil (hm s hs).some
    unfold nrm mv
    simp only [List.map_cons, List.headD_cons, List.map_map]
    congr 1
    · omega
    · refine List.map_congr_left fun o _ => ?_
      show o + -x = o + -e + -(x + -e)
      omega
  rw [List.length_map] at this
  exact this
end DL
end L2
namespace L2
namespace DL
open PySem
theorem take_lst {ds : List D} {k : Nat} (hk : k ≤ ds.length) : gSl (.list ds) none (some (k : Int)) = M.ret (.list (ds.take k)) := by
  show M.ret (PyData.list (cutD ds none (some (k : Int)))) = _
  unfold cutD
  have e1 : HT.sIx ds.length ds.length (some (k : Int)) = k := by
    rw [HT.sIx_nat]; omega
  have e0 : HT.sIx ds.length 0 none = 0 := rfl
  rw [e1, e0, List.drop_zero, Nat.sub_zero]
theorem drop_lst {ds : List D} {k : Nat} (hk : k ≤ ds.length) : gSl (.list ds) (some (k : Int)) none = M.ret (.list (ds.drop k)) := by
  show M.ret (PyData.list (cutD ds (some (k : Int)) none)) = _
  unfold cutD
  have e1 : HT.sIx ds.length 0 (some (k : Int)) = k := by
    rw [HT.sIx_nat]; omega
  have e0 : HT.sIx ds.length ds.length none = ds.length := rfl
  rw [e1, e0, List.take_of_length_le (by rw [List.length_drop]; omega)]
/-- a filter that openings_in takes -/
def good (F : List (List Int)) : Bool := decide (span F ≤ 4) && ((F.all fun m => m.contains 0) && decide (aft F F = F))
theorem opens_thin (F : List (List Int)) : (F.all fun m => m.contains 0) = blw F [[0]] := by
  unfold blw
  congr 1
  funext m
  simp [sub]
theorem good_iff {F : List (List Int)} (hs : span F ≤ 4) : good F = true ↔ Opens F := by
  unfold good
  rw [decide_eq_true hs, Bool.true_and, Bool.and_eq_true, decide_eq_true_iff, opens_thin]
  exact ⟨fun h => ⟨h.1, h.2⟩, fun h => ⟨h.thin, h.done⟩⟩
theorem small_few {F : List (List Int)} (h : FOk F) (hs : span F ≤ 4) : F.length ≤ 32 := by
  have h1 : ∀ m, m ∈ F → ∀ o, o ∈ m → lowL F ≤ o ∧ o ≤ lowL F + 4 := fun m hm o ho => by
    have := h.mks.near hm ho
    omega
  have ha : Asc ((List.range 5).map fun i : Nat => lowL F + (i : Int)) := asc_range _ _
  have := nodup_len F (grow ((List.range 5).map fun i : Nat => lowL F + (i : Int))) (form_nodup h.form) fun m hm => mem_grow.mpr (asc_sublist (h.mks.asc m hm) ha fun o ho => by
    have := h1 m hm o ho
    exact List.mem_map.mpr ⟨(o - lowL F).toNat, List.mem_range.mpr (by omega), by omega⟩)
  rw [grow_len, List.length_map, List.length_range] at this
  exact this
theorem opns_len (F : List (List Int)) : (opns F).length ≤ F.length := by
  have := srtU_len (lt := HT.lexLt) (F.map nrm)
  rw [List.length_map] at this
  exact this
theorem opns_full {F : List (List Int)} (h : Mks F) : ∀ z, z ∈ opns F → z ≠ [] := fun z hz e => by
  obtain ⟨m, hm, rfl⟩ := mem_opns.mp hz
  have := h.full m hm
  unfold nrm mv at e
  simp [this] at e
theorem eq_lF_none (ms : List (List Int)) : gEq (.list (ms.map mkI)) (.str "none") = M.ret (.bool false) := by
  unfold gEq
  rw [sh_lF, show SeqAt.shaped (.str "none") = true by decide +kernel]
  rfl
theorem ix0_lst {f : List (List Int)} {l : List (List (List Int))} : gIx (.list ((f :: l).map mkF)) (.int 0) = M.ret (mkF f) := ix_cons _ _
end DL
end L2
namespace L2
namespace DL
theorem ck_dec {p : Prop} [Decidable p] {P : Prop} (h : P) (k : ¬p) : Ck (decide p) P := ⟨decide_eq_false k, h⟩
end DL
end L2

set_option Elab.async false
set_option linter.all false
set_option maxRecDepth 100000
/-! filters told from what was seen -/
namespace L2
namespace DL
open PySem
abbrev Pr := List Bool × List Bool
def win (w : List Int) (bs : List Bool) (p : Nat) : List Int := w.filter fun o => cyc bs ((p : Int) + o)
def winsR (w : List Int) (s : Pr) (b : Bool) : List (List Int) := ((List.range s.1.length).filter fun p : Nat => cyc s.2 (p : Int) == b).map (win w s.1)
def wins (w : List Int) (ss : List Pr) (b : Bool) : List (List Int) := ss.flatMap fun s => winsR w s b
def dots (w : List Int) (ss : List Pr) : List (List Int) := wins w ss true ++ [w]
def blanks (w : List Int) (ss : List Pr) : List (List Int) := wins w ss false ++ [[]]
def clash (w : List Int) (ss : List Pr) : Bool := (dots w ss).any fun d => (blanks w ss).any fun b => sub d b
def gap (w b : List Int) : List Int := w.filter fun o => !b.contains o
def gaps (w : List Int) (ss : List Pr) : List (List Int) := (blanks w ss).map (gap w)
def low (w : List Int) (ss : List Pr) : List (List Int) := mins (dots w ss)
def high (w : List Int) (ss : List Pr) : List (List Int) := opp (mins (gaps w ss))
def shows (ms : List (List Int)) (ss : List Pr) : Bool := ss.all fun s => decide (app ms s.1 = s.2)
/-- pairs of rings with as many places -/
class Sn (ss : List Pr) : Prop where
  same : ∀ s, s ∈ ss → s.1.length = s.2.length
  pos : ∀ s, s ∈ ss → 0 < s.1.length
  le : ∀ s, s ∈ ss → s.1.length ≤ 24
  few : ss.length ≤ 8
/-- masks within a window -/
def Ins (ms : List (List Int)) (w : List Int) : Prop := ms ≠ [] ∧ ∀ m, m ∈ ms → m ≠ [] ∧ ∀ o, o ∈ m → o ∈ w
theorem mem_wins {w : List Int} {ss : List Pr} {b : Bool} {z : List Int} : z ∈ wins w ss b ↔ ∃ s, s ∈ ss ∧ ∃ p, p < s.1.length ∧ cyc s.2 (p : Int) = b ∧ z = win w s.1 p := by
  simp only [wins, winsR, List.mem_flatMap, List.mem_map, List.mem_filter, List.mem_range, beq_iff_eq]
  constructor
  · rintro ⟨s, hs, p, ⟨h1, h2⟩, rfl⟩
    exact ⟨s, hs, p, h1, h2, rfl⟩
  · rintro ⟨s, hs, p, h1, h2, rfl⟩
    exact ⟨s, hs, p, ⟨h1, h2⟩, rfl⟩
theorem win_in {w : List Int} {bs : List Bool} {p : Nat} : ∀ o, o ∈ win w bs p → o ∈ w := fun o h => (List.mem_filter.mp h).1
theorem dots_in {w : List Int} {ss : List Pr} {d : List Int} (h : d ∈ dots w ss) : ∀ o, o ∈ d → o ∈ w := by
  rcases List.mem_append.mp h with h | h
  · obtain ⟨s, _, p, _, _, rfl⟩ := mem_wins.mp h
    exact win_in
  · rw [List.mem_singleton.mp h]
    exact fun _ h => h
theorem ev_win {ms : List (List Int)} {w : List Int} (h : Ins ms w) (bs : List Bool) (p : Nat) : ev ms (fun o => cyc bs ((p : Int) + o)) = ev ms (fun o => (win w bs p).contains o) := by
  have key : ∀ o, o ∈ w → (win w bs p).contains o = cyc bs ((p : Int) + o) := fun o ho => by
    rw [Bool.eq_iff_iff, List.contains_iff_mem, win, List.mem_filter]
    exact ⟨fun q => q.2, fun q => ⟨ho, q⟩⟩
  rw [Bool.eq_iff_iff, ev_iff, ev_iff]
  constructor
  · rintro ⟨m, hm, q⟩
    exact ⟨m, hm, fun o ho => by rw [key o ((h.2 m hm).2 o ho)]; exact q o ho⟩
  · rintro ⟨m, hm, q⟩
    exact ⟨m, hm, fun o ho => by rw [← key o ((h.2 m hm).2 o ho)]; exact q o ho⟩
theorem shows_iff {ms : List (List Int)} {ss : List Pr} (k : Sn ss) : shows ms ss = true ↔ ∀ s, s ∈ ss → ∀ p : Nat, p < s.1.length → ev ms (fun o => cyc s.1 ((p : Int) + o)) = cyc s.2 (p : Int) := by
  unfold shows
  rw [List.all_eq_true]
  refine forall_congr' fun s => ?_
  refine forall_congr' fun hs => ?_
  rw [decide_eq_true_iff]
  have e := k.same s hs
  have n := k.pos s hs
  constructor
  · intro q p hp
    rw [← q, cyc_app' n]
  · intro q
    apply List.ext_getElem (by rw [app_len, e])
    intro p h1 h2
    have hp : p < s.1.length := by rw [e]; exact h2
    rw [← cyc_nat h1, ← cyc_nat h2, cyc_app' n]
    exact q p hp
theorem shows_wins {ms : List (List Int)} {w : List Int} {ss : List Pr} (k : Sn ss) (h : Ins ms w) : shows ms ss = true ↔ (∀ z, z ∈ dots w ss → ev ms (fun o => z.contains o) = true) ∧ (∀ z, z ∈ blanks w ss → ev ms (fun o => z.contains o) = false) := by
  rw [shows_iff k]
  constructor
  · intro q
    refine ⟨fun z hz => ?_, fun z hz => ?_⟩
    · rcases List.mem_append.mp hz with hz | hz
      · obtain ⟨s, hs, p, hp, e, rfl⟩ := mem_wins.mp hz
        rw [← ev_win h, q s hs p hp, e]
      · rw [List.mem_singleton.mp hz, ev_iff]
        obtain ⟨m, hm⟩ := List.exists_mem_of_ne_nil _ h.1
        exact ⟨m, hm, fun o ho => List.contains_iff_mem.mpr ((h.2 m hm).2 o ho)⟩
    · rcases List.mem_append.mp hz with hz | hz
      · obtain ⟨s, hs, p, hp, e, rfl⟩ := mem_wins.mp hz
        rw [← ev_win h, q s hs p hp, e]
      · rw [List.mem_singleton.mp hz, Bool.eq_false_iff]
        intro q
        obtain ⟨m, hm, q⟩ := ev_iff.mp q
        obtain ⟨o, ho⟩ := List.exists_mem_of_ne_nil _ (h.2 m hm).1
        have := q o ho
        simp at this
  · rintro ⟨q1, q2⟩ s hs p hp
    rw [ev_win h]
    cases e : cyc s.2 (p : Int) with
    | true => exact q1 _ (List.mem_append_left _ (mem_wins.mpr ⟨s, hs, p, hp, e, rfl⟩))
    | false => exact q2 _ (List.mem_append_left _ (mem_wins.mpr ⟨s, hs, p, hp, e, rfl⟩))
theorem clash_not {ms : List (List Int)} {w : List Int} {ss : List Pr} (k : Sn ss) (h : Ins ms w) (c : clash w ss = true) : shows ms ss = false := by
  rw [Bool.eq_false_iff]
  intro q
  obtain ⟨q1, q2⟩ := (shows_wins k h).mp q
  obtain ⟨d, hd, c⟩ := List.any_eq_true.mp c
  obtain ⟨b, hb, c⟩ := List.any_eq_true.mp c
  have := ev_up (Y := fun o => b.contains o) (fun o ho => List.contains_iff_mem.mpr (sub_iff.mp c o (List.contains_iff_mem.mp ho))) (q1 d hd)
  rw [q2 b hb] at this
  cases this
theorem no_clash {w : List Int} {ss : List Pr} (c : clash w ss = false) {d b : List Int} (hd : d ∈ dots w ss) (hb : b ∈ blanks w ss) : sub d b = false := by
  rw [Bool.eq_false_iff]
  intro q
  rw [show clash w ss = true from List.any_eq_true.mpr ⟨d, hd, List.any_eq_true.mpr ⟨b, hb, q⟩⟩] at c
  cases c
theorem not_sub {d b : List Int} (h : sub d b = false) : ∃ o, o ∈ d ∧ o ∉ b := by
  unfold sub at h
  obtain ⟨o, h1, h2⟩ := List.all_eq_false.mp h
  exact ⟨o, h1, fun z => h2 (List.contains_iff_mem.mpr z)⟩
theorem mem_gap {w b : List Int} {o : Int} : o ∈ gap w b ↔ o ∈ w ∧ o ∉ b := by
  simp [gap]
section
variable {w : List Int} {a b : Int} {ss : List Pr}
theorem dots_asc (h : Mk w a b) : ∀ d, d ∈ dots w ss → Asc d := fun d hd => by
  rcases List.mem_append.mp hd with hd | hd
  · obtain ⟨s, _, p, _, _, rfl⟩ := mem_wins.mp hd
    exact h.asc.filter _
  · rw [List.mem_singleton.mp hd]; exact h.asc
theorem dots_mks (h : Mk w a b) (c : clash w ss = false) : Mks (dots w ss) :=
  ⟨by simp [dots], dots_asc h, fun d hd z => by
    obtain ⟨o, ho, _⟩ := not_sub (no_clash c hd (List.mem_append_right _ (List.mem_singleton.mpr rfl)))
    rw [z] at ho
    cases ho⟩
theorem gaps_asc (h : Mk w a b) : ∀ d, d ∈ gaps w ss → Asc d := fun d hd => by
  obtain ⟨z, _, rfl⟩ := List.mem_map.mp hd
  exact h.asc.filter _
theorem gaps_mks (h : Mk w a b) (c : clash w ss = false) : Mks (gaps w ss) :=
  ⟨by simp [gaps, blanks], gaps_asc h, fun d hd z => by
    obtain ⟨y, hy, rfl⟩ := List.mem_map.mp hd
    obtain ⟨o, h1, h2⟩ := not_sub (no_clash c (List.mem_append_right _ (List.mem_singleton.mpr rfl)) hy)
    have : o ∈ gap w y := mem_gap.mpr ⟨h1, h2⟩
    rw [z] at this
    cases this⟩
theorem gaps_in {d : List Int} (hd : d ∈ gaps w ss) : ∀ o, o ∈ d → o ∈ w := fun o ho => by
  obtain ⟨z, _, rfl⟩ := List.mem_map.mp hd
  exact (mem_gap.mp ho).1
theorem low_fr (h : Mk w a b) (c : clash w ss = false) : Fr (low w ss) a b :=
  Fr.of_form (dots_mks h c) fun m hm o ho => ⟨h.lo o (dots_in hm o ho), h.hi o (dots_in hm o ho)⟩
theorem cop_fr (h : Mk w a b) (c : clash w ss = false) : Fr (mins (gaps w ss)) a b :=
  Fr.of_form (gaps_mks h c) fun m hm o ho => ⟨h.lo o (gaps_in hm o ho), h.hi o (gaps_in hm o ho)⟩
theorem high_fr (h : Mk w a b) (c : clash w ss = false) : Fr (high w ss) a b := @fr_opp _ _ _ (cop_fr h c)
theorem ev_low (h : Mk w a b) (X : Int → Bool) : ev (low w ss) X = true ↔ ∃ d, d ∈ dots w ss ∧ ∀ o, o ∈ d → X o = true := by
  unfold low
  rw [ev_mins (dots_asc h), ev_iff]
theorem ev_high (h : Mk w a b) (X : Int → Bool) : ev (high w ss) X = true ↔ ∀ z, z ∈ blanks w ss → ∃ o, o ∈ w ∧ o ∉ z ∧ X o = true := by
  unfold high
  rw [ev_opp, ev_mins (gaps_asc h), Bool.not_eq_true', Bool.eq_false_iff, ne_eq, ev_iff]
  constructor
  · intro q z hz
    refine Classical.byContradiction fun n => q ⟨gap w z, List.mem_map.mpr ⟨z, hz, rfl⟩, fun o ho => ?_⟩
    obtain ⟨h1, h2⟩ := mem_gap.mp ho
    cases e : X o with
    | false => rfl
    | true => exact absurd ⟨o, h1, h2, e⟩ n
  · rintro q ⟨m, hm, r⟩
    obtain ⟨z, hz, rfl⟩ := List.mem_map.mp hm
    obtain ⟨o, h1, h2, h3⟩ := q z hz
    have := r o (mem_gap.mpr ⟨h1, h2⟩)
    rw [h3] at this
    cases this
theorem low_ins (h : Mk w a b) (c : clash w ss = false) : Ins (low w ss) w :=
  ⟨(low_fr h c).mks.some, fun m hm => ⟨(low_fr h c).mks.full m hm, dots_in (mins_mem.mp hm).1⟩⟩
theorem high_ins (h : Mk w a b) (c : clash w ss = false) : Ins (high w ss) w :=
  ⟨(high_fr h c).mks.some, fun m hm => ⟨(high_fr h c).mks.full m hm, fun o ho => by
    obtain ⟨z, hz, q⟩ := opp_in (opp_of _) m hm o ho
    exact gaps_in (mins_mem.mp hz).1 o q⟩⟩
theorem low_shows (k : Sn ss) (h : Mk w a b) (c : clash w ss = false) : shows (low w ss) ss = true := by
  refine (shows_wins k (low_ins h c)).mpr ⟨fun z hz => ?_, fun z hz => ?_⟩
  · exact (ev_low h _).mpr ⟨z, hz, fun o ho => List.contains_iff_mem.mpr ho⟩
  · rw [Bool.eq_false_iff]
    intro q
    obtain ⟨d, hd, q⟩ := (ev_low h _).mp q
    obtain ⟨o, h1, h2⟩ := not_sub (no_clash c hd hz)
    exact h2 (List.contains_iff_mem.mp (q o h1))
theorem high_shows (k : Sn ss) (h : Mk w a b) (c : clash w ss = false) : shows (high w ss) ss = true := by
  refine (shows_wins k (high_ins h c)).mpr ⟨fun d hd => ?_, fun z hz => ?_⟩
  · refine (ev_high h _).mpr fun z hz => ?_
    obtain ⟨o, h1, h2⟩ := not_sub (no_clash c hd hz)
    exact ⟨o, dots_in hd o h1, h2, List.contains_iff_mem.mpr h1⟩
  · rw [Bool.eq_false_iff]
    intro q
    obtain ⟨o, _, h1, h2⟩ := (ev_high h _).mp q z hz
    exact h1 (List.contains_iff_mem.mp h2)
theorem low_high (h : Mk w a b) (c : clash w ss = false) : blw (low w ss) (high w ss) = true := by
  refine blw_ev.mpr fun X q => ?_
  obtain ⟨d, hd, q⟩ := (ev_low h _).mp q
  refine (ev_high h _).mpr fun z hz => ?_
  obtain ⟨o, h1, h2⟩ := not_sub (no_clash c hd hz)
  exact ⟨o, dots_in hd o h1, h2, q o h1⟩
theorem low_blw (k : Sn ss) (h : Mk w a b) {one : List (List Int)} (i : Ins one w) (s : shows one ss = true) : blw (low w ss) one = true := by
  refine blw_ev.mpr fun X q => ?_
  obtain ⟨d, hd, q⟩ := (ev_low h _).mp q
  exact ev_up (fun o ho => q o (List.contains_iff_mem.mp ho)) (((shows_wins k i).mp s).1 d hd)
theorem blw_high (k : Sn ss) (h : Mk w a b) {one : List (List Int)} (i : Ins one w) (s : shows one ss = true) : blw one (high w ss) = true := by
  refine blw_ev.mpr fun X q => ?_
  refine (ev_high h _).mpr fun z hz => ?_
  have e := ((shows_wins k i).mp s).2 z hz
  obtain ⟨m, hm, q⟩ := ev_iff.mp q
  refine Classical.byContradiction fun n => ?_
  rw [show ev one (fun o => z.contains o) = true from ev_iff.mpr ⟨m, hm, fun o ho => List.contains_iff_mem.mpr (Classical.byContradiction fun t => n ⟨o, (i.2 m hm).2 o ho, t, q o ho⟩)⟩] at e
  cases e
theorem shows_blw (k : Sn ss) (h : Mk w a b) (c : clash w ss = false) {one : List (List Int)} (i : Ins one w) : shows one ss = (blw (low w ss) one && blw one (high w ss)) := by
  rw [Bool.eq_iff_iff, Bool.and_eq_true]
  refine ⟨fun s => ⟨low_blw k h i s, blw_high k h i s⟩, fun ⟨q1, q2⟩ => (shows_iff k).mpr fun s hs p hp => ?_⟩
  have e1 := (shows_iff k).mp (low_shows k h c) s hs p hp
  have e2 := (shows_iff k).mp (high_shows k h c) s hs p hp
  cases e : cyc s.2 (p : Int) with
  | true =>
    rw [e] at e1
    exact blw_ev.mp q1 _ e1
  | false =>
    rw [e] at e2
    rw [Bool.eq_false_iff]
    intro q
    rw [blw_ev.mp q2 _ q] at e2
    cases e2
theorem near_shows (k : Sn ss) (h : Mk w a b) (c : clash w ss = false) {one : List (List Int)} (i : ∀ m, m ∈ one → Asc m) : shows (meet (join (low w ss) one) (high w ss)) ss = true := by
  refine (shows_iff k).mpr fun s hs p hp => ?_
  rw [ev_meet, ev_join (low_fr h c).mks.asc i, (shows_iff k).mp (low_shows k h c) s hs p hp, (shows_iff k).mp (high_shows k h c) s hs p hp]
  cases cyc s.2 (p : Int) <;> simp
end
/-! as data -/
def mkQ (s : Pr) : D := .tuple [rt s.1, rt s.2]
def mkS (ss : List Pr) : D := .tuple (ss.map mkQ)
theorem flat_mkQ (s : Pr) : flat (mkQ s) = true := by
  simp [mkQ, rt, flat, flatAll]
theorem flatAll_mkQ (ss : List Pr) : flatAll (ss.map mkQ) = true := by
  induction ss with
  | nil => simp [flatAll]
  | cons s ss ih => simp only [List.map_cons, flatAll, flat_mkQ, ih, Bool.and_self]
theorem flat_mkS (ss : List Pr) : flat (mkS ss) = true := by
  unfold mkS flat
  exact flatAll_mkQ ss
theorem stb_mkS (ss : List Pr) : stb (mkS ss) = true := by
  unfold stb
  rw [flat_mkS]
  rfl
theorem stb_mkQ (s : Pr) : stb (mkQ s) = true := by
  unfold stb
  rw [flat_mkQ]
  rfl
theorem paired_subI : ∀ {as : List Int} {os : List (Option D)}, Paired (fun a o => o = none ∨ o = some (PyData.int a)) as os → ∃ m : List Int, os.filterMap id = m.map .int ∧ m.Sublist as
  | _, _, .nil => ⟨[], rfl, List.Sublist.refl _⟩
  | _, _, .cons h t => by
    obtain ⟨m, e, s⟩ := paired_subI t
    rcases h with rfl | rfl
    · exact ⟨m, e, s.cons _⟩
    · exact ⟨_ :: m, by rw [List.filterMap_cons]; exact congrArg (_ :: ·) e, s.cons_cons _⟩
theorem ix_rtN {bs : List Bool} {p : Nat} (h : bs.length ≤ 1000) (hp : p < bs.length) : gIx (rt bs) (.int (p : Int)) = M.ret (sgD (cyc bs (p : Int))) := by
  have := ix_rt h (by omega) (p : Int)
  rwa [Int.emod_eq_of_lt (by omega) (by omega)] at this
theorem eq_sgs (a b : Bool) : gEq (sgD a) (sgD b) = M.ret (.bool (a == b)) := by
  rw [sg_rt, sg_rt, eq_rt]
  cases a <;> cases b <;> rfl
theorem winsR_len (w : List Int) (s : Pr) (b : Bool) : (winsR w s b).length ≤ s.1.length := by
  unfold winsR
  rw [List.length_map]
  have := List.length_filter_le (fun p : Nat => cyc s.2 (p : Int) == b) (List.range s.1.length)
  rwa [List.length_range] at this
theorem wins_len {w : List Int} {ss : List Pr} {b : Bool} (h : ∀ s, s ∈ ss → s.1.length ≤ 24) : (wins w ss b).length ≤ 24 * ss.length := by
  induction ss with
  | nil => exact Nat.zero_le _
  | cons s ss ih =>
    have e : wins w (s :: ss) b = winsR w s b ++ wins w ss b := by simp [wins]
    have h1 := winsR_len w s b
    have h2 := h s List.mem_cons_self
    have h3 := ih fun s q => h s (List.mem_cons_of_mem _ q)
    rw [e, List.length_append, List.length_cons]
    omega
theorem wins_snoc (w : List Int) (pre : List Pr) (s : Pr) (b : Bool) : wins w (pre ++ [s]) b = wins w pre b ++ winsR w s b := by
  simp [wins]
end DL
end L2

set_option Elab.async false
set_option linter.all false
set_option maxRecDepth 100000
/-! the least of some filters; no more than ten sets of five offsets, none of which holds another one -/
namespace L2
namespace DL
open PySem
def lwt (fs : List (List (List Int))) : List (List Int) := (fs.drop 1).foldl meet (fs.headD [])
theorem lwt_snoc {fs : List (List (List Int))} (h : fs ≠ []) (f : List (List Int)) : lwt (fs ++ [f]) = meet (lwt fs) f := by
  obtain ⟨x, l, rfl⟩ := List.exists_cons_of_ne_nil h
  unfold lwt
  simp
theorem lwt_ok {a b : Int} : ∀ (fs : List (List (List Int))), fs ≠ [] → (∀ f, f ∈ fs → Fr f a b) → Fr (lwt fs) a b ∧ ∀ X, ev (lwt fs) X = fs.all fun f => ev f X := by
  intro fs
  induction fs using snoc_ind with
  | h0 => intro h; exact absurd rfl h
  | h l f ih =>
    intro _ hf
    by_cases c : l = []
    · subst c
      have := hf f (by simp)
      refine ⟨this, fun X => ?_⟩
      simp [lwt]
    · obtain ⟨h1, h2⟩ := ih c fun g hg => hf g (List.mem_append_left _ hg)
      have h3 := hf f (by simp)
      rw [lwt_snoc c]
      refine ⟨(fr_meet (lwt l) f a b a b).le (by omega) (by omega), fun X => ?_⟩
      rw [ev_meet, h2, List.all_append]
      simp
def chains5 : List (List Nat) := [[0, 1, 3, 7, 15, 31], [2, 6, 14, 30], [4, 5, 13, 29], [8, 9, 11, 27], [10, 26], [12, 28], [16, 17, 19, 23], [18, 22], [20, 21], [24, 25]]
theorem chains5_ok : chains5.all pairsOk = true := by decide +kernel
theorem chains5_all : ((List.range 32).all fun n => chains5.any fun c => c.any fun k => Nat.beq k n) = true := by decide +kernel
theorem chains5_len : chains5.length = 10 := by decide +kernel
theorem sperner5 {ys : List Nat} (nd : ys.Nodup) (lt : ∀ y, y ∈ ys → y < 32) (an : ∀ x, x ∈ ys → ∀ y, y ∈ ys → x &&& y = x → x = y) : ys.length ≤ 10 := by
  rw [← chains5_len]
  refine chains_few (fun c hc => pairsOk_pw (List.all_eq_true.mp chains5_ok c hc)) nd an fun y hy => ?_
  have := List.all_eq_true.mp chains5_all y (List.mem_range.mpr (lt y hy))
  obtain ⟨c, hc, q⟩ := List.any_eq_true.mp this
  obtain ⟨k, hk, e⟩ := List.any_eq_true.mp q
  exact ⟨c, hc, (Nat.eq_of_beq_eq_true e) ▸ hk⟩
theorem enc_32 {low : Int} {m : List Int} (ha : Asc m) (hl : ∀ o, o ∈ m → low ≤ o ∧ o ≤ low + 4) : enc low m < 32 := by
  have i : In10 low m := ⟨ha, fun o ho => (hl o ho).1, fun o ho => by have := (hl o ho).2; omega⟩
  have := enc_bits i
  refine Nat.lt_pow_two_of_testBit (n := 5) _ fun k hk => ?_
  rw [this.2 k]
  refine decide_eq_false fun z => ?_
  have := (hl _ z).2
  omega
/-- few least masks of five offsets -/
theorem near5_few {low : Int} {xs : List (List Int)} (nd : xs.Nodup) (ha : ∀ x, x ∈ xs → Asc x) (hl : ∀ x, x ∈ xs → ∀ o, o ∈ x → low ≤ o ∧ o ≤ low + 4)
    (hp : ∀ x, x ∈ xs → ∀ y, y ∈ xs → sub y x = true → y = x) : xs.length ≤ 10 := by
  have i : ∀ x, x ∈ xs → In10 low x := fun x hx => ⟨ha x hx, fun o ho => (hl x hx o ho).1, fun o ho => by have := (hl x hx o ho).2; omega⟩
  rw [← List.length_map (f := enc low)]
  refine sperner5 ?_ (fun y hy => ?_) fun a h1 b h2 e => ?_
  · have : ∀ l : List (List Int), (∀ x, x ∈ l → In10 low x) → l.Nodup → (l.map (enc low)).Nodup := by
      intro l
      induction l with
      | nil => intro _ _; exact List.nodup_nil
      | cons x l ih =>
        intro hi hn
        rw [List.nodup_cons] at hn
        rw [List.map_cons, List.nodup_cons]
        refine ⟨fun q => ?_, ih (fun y hy => hi y (List.mem_cons_of_mem _ hy)) hn.2⟩
        obtain ⟨y, hy, e⟩ := List.mem_map.mp q
        have := enc_inj (hi y (List.mem_cons_of_mem _ hy)) (hi x List.mem_cons_self) e
        exact hn.1 (this ▸ hy)
    exact this xs i nd
  · obtain ⟨x, hx, rfl⟩ := List.mem_map.mp hy
    exact enc_32 (ha x hx) (hl x hx)
  · obtain ⟨x, hx, rfl⟩ := List.mem_map.mp h1
    obtain ⟨y, hy, rfl⟩ := List.mem_map.mp h2
    have : sub x y = true := by rw [← enc_sub (i x hx) (i y hy)]; exact decide_eq_true e
    rw [hp y hy x hx this]
end DL
end L2

set_option Elab.async false
set_option linter.all false
set_option maxRecDepth 100000
/-! fewest thinnings and thickenings -/
namespace L2
namespace DL
open PySem
section
variable {ms : List (List Int)} {a b : Int}
theorem fr_one (h : Fr ms a b) {m : List Int} (hm : m ∈ ms) : Fr [m] a b :=
  @fr_thin m a b ⟨h.mks.asc m hm, h.mks.full m hm, h.lo m hm, h.hi m hm⟩
theorem thins_fr (h : Fr ms a b) : ∀ f, f ∈ ms.map (fun m => [m]) → Fr f a b := fun f hf => by
  obtain ⟨m, hm, rfl⟩ := List.mem_map.mp hf
  exact fr_one h hm
theorem gst_thin (h : Fr ms a b) : gst (ms.map fun m => [m]) = ms := by
  obtain ⟨h1, h2⟩ := gst_ok (ms.map fun m => [m]) (by simpa using h.mks.some) (thins_fr h)
  refine fr_ext h1 h fun X => ?_
  rw [h2, List.any_map]
  unfold ev
  congr 1
  funext m
  simp
theorem thicks_fr (h : Fr ms a b) : ∀ f, f ∈ (opp ms).map thick → Fr f a b := fun f hf => by
  have ho : Fr (opp ms) a b := inferInstance
  obtain ⟨m, hm, rfl⟩ := List.mem_map.mp hf
  exact @fr_thick m a b ⟨ho.mks.asc m hm, ho.mks.full m hm, ho.lo m hm, ho.hi m hm⟩
theorem lwt_thick (h : Fr ms a b) : lwt ((opp ms).map thick) = ms := by
  have ho : Fr (opp ms) a b := inferInstance
  have hf : ∀ f, f ∈ (opp ms).map thick → Fr f a b := fun f hf => by
    obtain ⟨m, hm, rfl⟩ := List.mem_map.mp hf
    exact @fr_thick m a b ⟨ho.mks.asc m hm, ho.mks.full m hm, ho.lo m hm, ho.hi m hm⟩
  obtain ⟨h1, h2⟩ := lwt_ok ((opp ms).map thick) (by simpa using ho.mks.some) hf
  refine fr_ext h1 h fun X => ?_
  rw [h2, List.all_map]
  have e : ev ms X = !ev (opp ms) (fun o => !X o) := by
    rw [ev_opp]
    simp
  rw [e, Bool.eq_iff_iff, List.all_eq_true, Bool.not_eq_true', Bool.eq_false_iff, ne_eq, ev_iff]
  constructor
  · rintro q ⟨m, hm, z⟩
    have := q m hm
    rw [Function.comp_apply, ev_thick] at this
    obtain ⟨o, ho, e⟩ := List.any_eq_true.mp this
    have := z o ho
    rw [e] at this
    cases this
  · intro q m hm
    rw [Function.comp_apply, ev_thick, List.any_eq_true]
    refine Classical.byContradiction fun n => q ⟨m, hm, fun o ho => ?_⟩
    cases e : X o with
    | false => rfl
    | true => exact absurd ⟨o, ho, e⟩ n
/-- what a joined thinning has is one of the masks -/
theorem gst_from {ls : List (List Int)} (hn : ls ≠ []) {z : List Int} (hz : z ∈ gst (ls.map fun m => [m])) : z ∈ ls := by
  obtain ⟨f, hf, q⟩ := gst_mem _ (by simpa using hn) z hz
  obtain ⟨m, hm, rfl⟩ := List.mem_map.mp hf
  rw [List.mem_singleton.mp q]
  exact hm
theorem gst_less {ls : List (List Int)} (hn : ls ≠ []) {z : List Int} (hz : z ∈ ms) (n : z ∉ ls) : gst (ls.map fun m => [m]) ≠ ms := fun e => n (gst_from hn (by rw [e]; exact hz))
theorem gst_fewer (h : Fr ms a b) {ls : List (List Int)} (hn : ls ≠ []) (hl : ls.length < ms.length) : gst (ls.map fun m => [m]) ≠ ms := fun e => by
  have := nodup_len ms ls (form_nodup h.form) fun z hz => gst_from hn (by rw [e]; exact hz)
  omega
theorem lwt_less (h : Fr ms a b) {ls : List (List Int)} (hn : ls ≠ []) {z : List Int} (hz : z ∈ opp ms) (hl : ∀ l, l ∈ ls → l ∈ opp ms ∧ l ≠ z) : lwt (ls.map thick) ≠ ms := fun e => by
  have ho : Fr (opp ms) a b := inferInstance
  have hf : ∀ f, f ∈ ls.map thick → Fr f a b := fun f hf => by
    obtain ⟨m, hm, rfl⟩ := List.mem_map.mp hf
    have hm := (hl m hm).1
    exact @fr_thick m a b ⟨ho.mks.asc m hm, ho.mks.full m hm, ho.lo m hm, ho.hi m hm⟩
  have h2 := (lwt_ok (ls.map thick) (by simpa using hn) hf).2 (fun o => !z.contains o)
  have e1 : ev ms (fun o => !z.contains o) = !ev (opp ms) (fun o => z.contains o) := by
    rw [ev_opp]
    simp
  have e2 : ev (opp ms) (fun o => z.contains o) = true := ev_iff.mpr ⟨z, hz, fun o ho => List.contains_iff_mem.mpr ho⟩
  rw [e, e1, e2] at h2
  have h3 := h2.symm
  rw [Bool.not_true, List.all_eq_false] at h3
  obtain ⟨f, hf, q⟩ := h3
  obtain ⟨l, hll, rfl⟩ := List.mem_map.mp hf
  obtain ⟨hl1, hl2⟩ := hl l hll
  rw [ev_thick] at q
  refine hl2 ((form_iff.mp ho.form).2 z hz l hl1 (sub_iff.mpr fun o ho' => ?_))
  refine Classical.byContradiction fun n => q ?_
  refine List.any_eq_true.mpr ⟨o, ho', ?_⟩
  simp [n]
end
end DL
end L2

set_option Elab.async false
set_option linter.all false
set_option maxRecDepth 100000
/-! steps that keep an owned list -/
namespace L2
namespace DL
open PySem
/-- data that an assignment lets the others keep -/
class Kp (d : D) (fr : Bool) : Prop where
  eq : ((fr && flatL d) || stb d) = true
theorem stb_flat {d : D} (h : flat d = true) : stb d = true := by unfold stb; rw [h]; rfl
class Flt (d : D) : Prop where
  eq : flat d = true
class FltL (ds : List D) : Prop where
  eq : flatAll ds = true
instance flt_1 (i : Int) : Flt (.int i) := ⟨rfl⟩
instance flt_2 (i : Bool) : Flt (.bool i) := ⟨rfl⟩
instance flt_3 (i : Str) : Flt (.str i) := ⟨rfl⟩
instance flt_4 : Flt .none := ⟨rfl⟩
instance flt_5 (i : List Int) : Flt (mkI i) := ⟨flat_mkI i⟩
instance flt_6 (i : List (List Int)) : Flt (mkF i) := ⟨by
  show flatAll (i.map mkI) = true
  induction i with
  | nil => rfl
  | cons m ms ih => simp only [List.map_cons, flatAll, flat_mkI, ih, Bool.and_self]⟩
instance flt_7 (i : List Bool) : Flt (rt i) := ⟨rfl⟩
instance flt_8 (i : Bool) : Flt (sgD i) := ⟨rfl⟩
instance flt_9 (ds : List D) [h : FltL ds] : Flt (.tuple ds) := ⟨by simpa [flat] using h.eq⟩
instance fltL_0 : FltL [] := ⟨rfl⟩
instance fltL_s (d : D) (ds : List D) [h : Flt d] [k : FltL ds] : FltL (d :: ds) := ⟨by simp only [flatAll, h.eq, k.eq, Bool.and_self]⟩
theorem fltL_map {α : Type} (f : α → D) (h : ∀ a, flat (f a) = true) (l : List α) : flatAll (l.map f) = true := by
  induction l with
  | nil => rfl
  | cons m ms ih => simp only [List.map_cons, flatAll, h m, ih, Bool.and_self]
instance fltL_1 (i : List Int) : FltL (i.map .int) := ⟨fltL_map _ (fun _ => rfl) i⟩
instance fltL_2 (i : List (List Int)) : FltL (i.map mkI) := ⟨fltL_map _ flat_mkI i⟩
instance fltL_3 (i : List (List (List Int))) : FltL (i.map mkF) := ⟨fltL_map _ (fun m => (flt_6 m).eq) i⟩
instance fltL_4 (i : List (List Bool)) : FltL (i.map rt) := ⟨fltL_map _ (fun _ => rfl) i⟩
instance kp_1 (d : D) (fr : Bool) [h : Flt d] : Kp d fr := ⟨by rw [stb_flat h.eq, Bool.or_true]⟩
instance kp_2 (ds : List D) [h : FltL ds] : Kp (.list ds) true := ⟨by rw [show flatL (.list ds) = true from h.eq]; rfl⟩
theorem asg_keep {i j : Nat} {r : D × Bool} {ρ : Env'} {o : List Nat} (h : j ∈ o) (ne : j ≠ i) (s : ((r.2 && flatL r.1) || stb r.1) = true) : j ∈ (asg i r (ρ, o)).2 := by
  have m : j ∈ o.filter (fun x => x != i) := List.mem_filter.mpr ⟨h, by simpa using ne⟩
  show j ∈ (if (r.2 && flatL r.1) = true then i :: o.filter (fun x => x != i) else if stb r.1 = true then o.filter (fun x => x != i) else [])
  split
  · exact List.mem_cons_of_mem _ m
  · rename_i q
    rw [Bool.not_eq_true] at q
    rw [q, Bool.false_or] at s
    rw [if_pos s]
    exact m
/-- what is left behind a step that keeps j -/
def NxK (i j : Nat) (r : D × Bool) (ρ : Env') (P : Ste → Prop) : Prop := j ≠ i ∧ ((r.2 && flatL r.1) || stb r.1) = true ∧ ∀ o, j ∈ o → P (ρ, o)
section
variable {ρ ρ' : Env'} {o : List Nat} {S : Wd} {Q : Fl × Ste → Wd → Prop} {g : Ste → M (Fl × Ste)}
theorem q_setK {i j : Nat} {f : Env' → M (D × Bool)} (hj : j ∈ o) (h : Gd (f ρ) S fun r S' => ∃ ρ', SetR ρ i (some r.1) ρ' ∧ NxK i j r ρ' fun τ => Gd (g τ) S' Q) : Gd (sSeq (sSet i f) g (ρ, o)) S Q :=
  gd_seq (gd_lft (gd_mono h fun r S' ⟨ρ', s, k⟩ => by
    rw [if_pos (decide_eq_true s.lt)]
    refine gd_ret ?_
    show Gd (g _) S' Q
    have m := asg_keep (ρ := ρ) hj k.1 k.2.1
    have e : asg i r (ρ, o) = (ρ', (asg i r (ρ, o)).2) := by
      unfold asg
      rw [← s.eq]
    rw [e]
    exact k.2.2 _ m))
theorem stK_ok {i j : Nat} {d : D} {fr : Bool} {P : Ste → Prop} [s : SetR ρ i (some d) ρ'] [k : Kp d fr] (h : ∀ o, j ∈ o → P (ρ', o)) (ne : j ≠ i := by decide) : ∃ ρ', SetR ρ i (some (d, fr).1) ρ' ∧ NxK i j (d, fr) ρ' P := ⟨ρ', s, ne, k.eq, h⟩
/-- the owned list itself -/
def NxO (i : Nat) (r : D × Bool) (ρ : Env') (P : Ste → Prop) : Prop := (r.2 && flatL r.1) = true ∧ ∀ o, i ∈ o → P (ρ, o)
theorem q_setO {i : Nat} {f : Env' → M (D × Bool)} (h : Gd (f ρ) S fun r S' => ∃ ρ', SetR ρ i (some r.1) ρ' ∧ NxO i r ρ' fun τ => Gd (g τ) S' Q) : Gd (sSeq (sSet i f) g (ρ, o)) S Q :=
  gd_seq (gd_lft (gd_mono h fun r S' ⟨ρ', s, k⟩ => by
    rw [if_pos (decide_eq_true s.lt)]
    refine gd_ret ?_
    show Gd (g _) S' Q
    have m : i ∈ (asg i r (ρ, o)).2 := by
      show i ∈ (if (r.2 && flatL r.1) = true then i :: o.filter (fun x => x != i) else if stb r.1 = true then o.filter (fun x => x != i) else [])
      rw [if_pos k.1]
      exact List.mem_cons_self
    have e : asg i r (ρ, o) = (ρ', (asg i r (ρ, o)).2) := by
      unfold asg
      rw [← s.eq]
    rw [e]
    exact k.2 _ m))
theorem stO_ok {i : Nat} {ds : List D} {P : Ste → Prop} [s : SetR ρ i (some (.list ds)) ρ'] [k : FltL ds] (h : ∀ o, i ∈ o → P (ρ', o)) : ∃ ρ', SetR ρ i (some ((PyData.list ds, true) : D × Bool).1) ρ' ∧ NxO i (.list ds, true) ρ' P := ⟨ρ', s, k.eq, h⟩
/-- x.append(e) -/
theorem q_app {i : Nat} {es : List D} {f : Env' → M D} (hi : i ∈ o) [e : GetR ρ i (.list es)] (h : Gd (f ρ) S fun d S' => flat d = true ∧ ∃ ρ', SetR ρ i (some (.list (es ++ [d]))) ρ' ∧ ∀ o, Gd (g (ρ', o)) S' Q) (hz : szOk (es.length + 1) = true) : Gd (sSeq (sApp i f) g (ρ, o)) S Q :=
  gd_seq (gd_app (es := es) hi e.eq hz (gd_mono h fun d S' ⟨h1, ρ', s, k⟩ => ⟨h1, by
    show Gd (g _) S' Q
    rw [s.eq]
    exact k _⟩))
theorem e_fLc {fi : Env' → M (List D)} {gt : D → Env' → Option Env'} {vs : List Nat} {ft : Env' → M Bool} {fe : Env' → M D} {P : D × Bool → Wd → Prop} (h : Gd (xLc fi gt vs ft fe ρ) S fun d S1 => P (d, true) S1) : Gd (fLc fi gt vs ft fe ρ) S P := gd_bind (gd_mono h fun r S1 q => gd_ret q)
/-- for t in range: the body keeps what is owned -/
theorem q_forR {f : Env' → M (List D)} {gt : D → Env' → Option Env'} {is : List Nat} {body : Ste → M (Fl × Ste)} {k : Nat → D} {n : Nat} (I : Nat → Ste → Wd → Prop) (h : Gd (f ρ) S fun ds S' => ds = (List.range n).map k ∧ I 0 (ρ, o) S')
    (step : ∀ i τ S, i < n → I i τ S → ∃ τ1, asgT gt is (k i) τ = some τ1 ∧ Gd (body τ1) S (LpQ (fun τ2 S2 => I (i + 1) τ2 S2) (SqQ g Q))) (fin : ∀ τ S, I n τ S → Gd (g τ) S Q) : Gd (sSeq (sForR f gt is body) g (ρ, o)) S Q := by
  refine gd_seq (gd_forR (gd_mono h fun ds S' ⟨e, i0⟩ => ?_))
  subst e
  refine gd_loop (List.range n) (fun pre τ S => I pre.length τ S) i0 (fun pre a post τ S e h => ?_) fun τ S h => ?_
  · have ea : a = pre.length ∧ pre.length < n := by
      have l := congrArg List.length e
      rw [List.length_range, List.length_append, List.length_cons] at l
      refine ⟨?_, by omega⟩
      have g := congrArg (fun x => x[pre.length]?) e
      simp only [List.getElem?_append_right (Nat.le_refl _), Nat.sub_self, List.getElem?_cons_zero] at g
      rw [List.getElem?_range (by omega)] at g
      exact (Option.some.inj g).symm
    obtain ⟨rfl, hl⟩ := ea
    obtain ⟨τ1, e1, g⟩ := step _ τ S hl h
    refine ⟨τ1, e1, ?_⟩
    rw [show (pre ++ [pre.length]).length = pre.length + 1 from by simp]
    exact g
  · rw [List.length_range] at h
    exact fin τ S h
end
end DL
end L2

set_option Elab.async false
set_option linter.all false
set_option maxRecDepth 100000
/-! data that stands for something else: equal just if that is equal -/
namespace L2
namespace DL
open PySem
structure Cod {α : Type} [DecidableEq α] (f : α → D) (n : Nat) : Prop where
  eqv : ∀ a b, PyData.eqv (f a) (f b) = decide (a = b)
  can : ∀ a, (f a).canLay0 = true
  dep : ∀ a, (f a).depth ≤ n
section
variable {α : Type} [DecidableEq α] {f : α → D} {n : Nat}
theorem Cod.all (h : Cod f n) : ∀ a b : List α, PyData.eqvAll (a.map f) (b.map f) = decide (a = b)
  | [], [] => by simp [PyData.eqvAll]
  | [], _ :: _ => by simp [PyData.eqvAll]
  | _ :: _, [] => by simp [PyData.eqvAll]
  | x :: a, y :: b => by
    simp only [List.map_cons, PyData.eqvAll, h.all a b, h.eqv x y]
    by_cases e : x = y <;> by_cases e2 : a = b <;> simp [e, e2]
theorem Cod.canAll (h : Cod f n) : ∀ a : List α, PyData.canLayAll0 (a.map f) = true
  | [] => rfl
  | x :: a => by
    simp only [List.map_cons, PyData.canLayAll0, h.canAll a, h.can x]
    rfl
theorem Cod.depAll (h : Cod f n) : ∀ a : List α, PyData.depthAll (a.map f) ≤ n
  | [] => by simp [PyData.depthAll]
  | x :: a => by
    have h1 := h.depAll a
    have h2 := h.dep x
    simp only [List.map_cons, PyData.depthAll]
    omega
theorem Cod.list (h : Cod f n) : Cod (fun l : List α => PyData.list (l.map f)) (n + 1) :=
  ⟨fun a b => by simp only [PyData.eqv]; exact h.all a b, fun a => by simp only [PyData.canLay0]; exact h.canAll a, fun a => by
    simp only [PyData.depth]
    have := h.depAll a
    omega⟩
theorem Cod.tup (h : Cod f n) : Cod (fun l : List α => PyData.tuple (l.map f)) (n + 1) :=
  ⟨fun a b => by simp only [PyData.eqv]; exact h.all a b, fun a => by simp only [PyData.canLay0]; exact h.canAll a, fun a => by
    simp only [PyData.depth]
    have := h.depAll a
    omega⟩
theorem Cod.sh (h : Cod f n) (hn : n ≤ 64) (a : α) : SeqAt.shaped (f a) = true := shaped_of (h.can a) (Nat.le_trans (h.dep a) hn)
theorem Cod.eq (h : Cod f n) (hn : n ≤ 64) (a b : α) : gEq (f a) (f b) = M.ret (.bool (decide (a = b))) := by
  unfold gEq
  rw [h.sh hn, h.sh hn, h.eqv]
  rfl
theorem Cod.ne (h : Cod f n) (hn : n ≤ 64) (a b : α) : gNe (f a) (f b) = M.ret (.bool (!decide (a = b))) := by
  unfold gNe
  rw [h.sh hn, h.sh hn, h.eqv]
  rfl
theorem Cod.anyEq [BEq α] [LawfulBEq α] (h : Cod f n) (a : α) (l : List α) : ((l.map f).any fun z => PyData.eqv z (f a)) = l.contains a := by
  rw [List.any_map, List.contains_eq_any_beq]
  congr 1
  funext z
  rw [Function.comp_apply, h.eqv, Bool.eq_iff_iff, decide_eq_true_iff, beq_iff_eq]
  exact eq_comm
theorem gIn_list (d : D) (es : List D) : gIn d (.list es) = if (SeqAt.shaped d && SeqAt.shaped (.list es)) = true then M.ret (.bool (es.any fun z => PyData.eqv z d)) else M.no := by cases d <;> rfl
theorem gIn_tup (d : D) (es : List D) : gIn d (.tuple es) = if (SeqAt.shaped d && SeqAt.shaped (.tuple es)) = true then M.ret (.bool (es.any fun z => PyData.eqv z d)) else M.no := by cases d <;> rfl
theorem Cod.inL [BEq α] [LawfulBEq α] (h : Cod f n) (hn : n ≤ 63) (a : α) (l : List α) : gIn (f a) (.list (l.map f)) = M.ret (.bool (l.contains a)) := by
  rw [gIn_list, h.sh (by omega), h.list.sh (by omega) l, h.anyEq]
  rfl
theorem Cod.inT [BEq α] [LawfulBEq α] (h : Cod f n) (hn : n ≤ 63) (a : α) (l : List α) : gIn (f a) (.tuple (l.map f)) = M.ret (.bool (l.contains a)) := by
  rw [gIn_tup, h.sh (by omega), h.tup.sh (by omega) l, h.anyEq]
  rfl
theorem Cod.ninL [BEq α] [LawfulBEq α] (h : Cod f n) (hn : n ≤ 63) (a : α) (l : List α) : gNotIn (f a) (.list (l.map f)) = M.ret (.bool (!l.contains a)) := by
  unfold gNotIn
  rw [h.inL hn]
  rfl
theorem Cod.ninT [BEq α] [LawfulBEq α] (h : Cod f n) (hn : n ≤ 63) (a : α) (l : List α) : gNotIn (f a) (.tuple (l.map f)) = M.ret (.bool (!l.contains a)) := by
  unfold gNotIn
  rw [h.inT hn]
  rfl
theorem Cod.eqL (h : Cod f n) (hn : n ≤ 63) (a b : List α) : gEq (.list (a.map f)) (.list (b.map f)) = M.ret (.bool (decide (a = b))) := h.list.eq (by omega) a b
theorem Cod.neL (h : Cod f n) (hn : n ≤ 63) (a b : List α) : gNe (.list (a.map f)) (.list (b.map f)) = M.ret (.bool (!decide (a = b))) := h.list.ne (by omega) a b
theorem Cod.eqT (h : Cod f n) (hn : n ≤ 63) (a b : List α) : gEq (.tuple (a.map f)) (.tuple (b.map f)) = M.ret (.bool (decide (a = b))) := h.tup.eq (by omega) a b
theorem Cod.neT (h : Cod f n) (hn : n ≤ 63) (a b : List α) : gNe (.tuple (a.map f)) (.tuple (b.map f)) = M.ret (.bool (!decide (a = b))) := h.tup.ne (by omega) a b
theorem Cod.eqN (h : Cod f n) (hn : n ≤ 63) (a : List α) : gEq (.list (a.map f)) (.list []) = M.ret (.bool a.isEmpty) := by
  rw [show (PyData.list [] : D) = .list (([] : List α).map f) from rfl, h.eqL hn]
  cases a <;> rfl
theorem Cod.neN (h : Cod f n) (hn : n ≤ 63) (a : List α) : gNe (.list (a.map f)) (.list []) = M.ret (.bool !a.isEmpty) := by
  rw [show (PyData.list [] : D) = .list (([] : List α).map f) from rfl, h.neL hn]
  cases a <;> rfl
end
theorem cod_int : Cod PyData.int 1 := ⟨fun a b => by
  simp only [PyData.eqv]
  rw [Bool.eq_iff_iff, decide_eq_true_iff, beq_iff_eq], fun a => rfl, fun a => by simp [PyData.depth]⟩
theorem cod_mkI : Cod mkI 2 := cod_int.tup
theorem cod_mkF : Cod mkF 3 := cod_mkI.tup
theorem cod_rt : Cod rt 1 := ⟨eqv_rt, fun a => by show PyData.canLay0 (.str (rs a)) = true; simp only [PyData.canLay0]; exact strOk_rs a, fun a => by show PyData.depth (.str (rs a)) ≤ 1; simp [PyData.depth]⟩
end DL
end L2

set_option Elab.async false
set_option linter.all false
set_option maxRecDepth 100000
/-! levels -/
namespace L2
namespace DL
open PySem
/-- the dots of levels: where there is at least t -/
def cut (t : Int) (ls : List Int) : List Bool := ls.map fun x => decide (t ≤ x)
theorem cut_len (t : Int) (ls : List Int) : (cut t ls).length = ls.length := List.length_map ..
theorem cut_ext {a b : List Int} (hl : a.length = b.length) (h : ∀ t, cut t a = cut t b) : a = b := by
  apply List.ext_getElem hl
  intro i h1 h2
  have key : ∀ t : Int, decide (t ≤ a[i]) = decide (t ≤ b[i]) := fun t => by
    have := congrArg (fun l : List Bool => l[i]?) (h t)
    simp only [cut, List.getElem?_map, List.getElem?_eq_getElem h1, List.getElem?_eq_getElem h2, Option.map_some] at this
    exact Option.some.inj this
  have k1 := key a[i]
  have k2 := key b[i]
  rw [decide_eq_true (Int.le_refl _)] at k1 k2
  have := of_decide_eq_true k1.symm
  have := of_decide_eq_true k2
  omega
/-- a level at any number -/
def cyi (ls : List Int) (i : Int) : Int := ls.getD (i % (ls.length : Int)).toNat 0
theorem cyi_mem {ls : List Int} (hn : 0 < ls.length) (i : Int) : cyi ls i ∈ ls := by
  have h0 := Int.emod_nonneg i (show (ls.length : Int) ≠ 0 by omega)
  have h1 := Int.emod_lt_of_pos i (show (0 : Int) < ls.length by omega)
  unfold cyi
  rw [List.getD_eq_getElem?_getD, List.getElem?_eq_getElem (by omega)]
  exact List.getElem_mem _
theorem cyc_cut {ls : List Int} (hn : 0 < ls.length) (t i : Int) : cyc (cut t ls) i = decide (t ≤ cyi ls i) := by
  have h0 := Int.emod_nonneg i (show (ls.length : Int) ≠ 0 by omega)
  have h1 := Int.emod_lt_of_pos i (show (0 : Int) < ls.length by omega)
  unfold cyc cyi
  rw [cut_len]
  generalize hk : (i % (ls.length : Int)).toNat = k
  have hkl : k < ls.length := by omega
  unfold cut
  rw [List.getD_eq_getElem?_getD, List.getD_eq_getElem?_getD, List.getElem?_map, List.getElem?_eq_getElem hkl]
  rfl
theorem ix_cyi {ls : List Int} (hn : 0 < ls.length) (x : Int) : gIx (mkI ls) (.int (x % (ls.length : Int))) = M.ret (.int (cyi ls x)) := by
  have h0 := Int.emod_nonneg x (show (ls.length : Int) ≠ 0 by omega)
  have h1 := Int.emod_lt_of_pos x (show (0 : Int) < ls.length by omega)
  show ofO (atI (ls.map PyData.int) (x % (ls.length : Int))) = _
  unfold atI ixN
  rw [List.length_map, if_pos h0, if_pos h1]
  show ofO ((ls.map PyData.int)[(x % (ls.length : Int)).toNat]?) = _
  rw [List.getElem?_map, List.getElem?_eq_getElem (by omega)]
  unfold cyi
  rw [List.getD_eq_getElem?_getD, List.getElem?_eq_getElem (by omega)]
  rfl
/-- the level that a filter gives -/
def lvv (ms : List (List Int)) (f : Int → Int) : Int := maxL (ms.map fun m => minL (m.map f))
def lev (ms : List (List Int)) (ls : List Int) : List Int := (List.range ls.length).map fun p : Nat => lvv ms fun o => cyi ls ((p : Int) + o)
theorem lev_len (ms : List (List Int)) (ls : List Int) : (lev ms ls).length = ls.length := by unfold lev; rw [List.length_map, List.length_range]
theorem le_minL {m : List Int} (hn : m ≠ []) (f : Int → Int) (t : Int) : t ≤ minL (m.map f) ↔ ∀ o, o ∈ m → t ≤ f o := by
  have hl : 0 < (m.map f).length := by rw [List.length_map]; exact List.length_pos_iff.mpr hn
  obtain ⟨h1, h2⟩ := minL_is hl
  constructor
  · intro h o ho
    exact Int.le_trans h (h2 _ (List.mem_map.mpr ⟨o, ho, rfl⟩))
  · intro h
    obtain ⟨o, ho, e⟩ := List.mem_map.mp h1
    rw [← e]
    exact h o ho
theorem le_lvv {ms : List (List Int)} (h : Mks ms) (f : Int → Int) (t : Int) : t ≤ lvv ms f ↔ ev ms (fun o => decide (t ≤ f o)) = true := by
  have hl : 0 < (ms.map fun m => minL (m.map f)).length := by rw [List.length_map]; exact List.length_pos_iff.mpr h.some
  obtain ⟨h1, h2⟩ := maxL_is hl
  rw [ev_iff]
  constructor
  · intro q
    obtain ⟨m, hm, e⟩ := List.mem_map.mp h1
    refine ⟨m, hm, fun o ho => decide_eq_true ((le_minL (h.full m hm) f t).mp ?_ o ho)⟩
    rw [show minL (m.map f) = lvv ms f from e]
    exact q
  · rintro ⟨m, hm, q⟩
    exact Int.le_trans ((le_minL (h.full m hm) f t).mpr fun o ho => of_decide_eq_true (q o ho)) (h2 _ (List.mem_map.mpr ⟨m, hm, rfl⟩))
theorem lvv_mem {ms : List (List Int)} (h : Mks ms) (f : Int → Int) : ∃ o, lvv ms f = f o := by
  have hl : 0 < (ms.map fun m => minL (m.map f)).length := by rw [List.length_map]; exact List.length_pos_iff.mpr h.some
  obtain ⟨m, hm, e⟩ := List.mem_map.mp (maxL_is hl).1
  have hl2 : 0 < (m.map f).length := by rw [List.length_map]; exact List.length_pos_iff.mpr (h.full m hm)
  obtain ⟨o, _, e2⟩ := List.mem_map.mp (minL_is hl2).1
  exact ⟨o, e.symm.trans e2.symm⟩
theorem lev_mem {ms : List (List Int)} (h : Mks ms) {ls : List Int} : ∀ x, x ∈ lev ms ls → x ∈ ls := fun x hx => by
  obtain ⟨p, hp, rfl⟩ := List.mem_map.mp hx
  obtain ⟨o, e⟩ := lvv_mem h fun o => cyi ls ((p : Int) + o)
  rw [e]
  exact cyi_mem (by have := List.mem_range.mp hp; omega) _
/-- cuts are what the filter makes of cuts -/
theorem cut_lev {ms : List (List Int)} (h : Mks ms) (t : Int) (ls : List Int) : cut t (lev ms ls) = app ms (cut t ls) := by
  unfold lev app
  rw [cut_len]
  unfold cut
  rw [List.map_map]
  refine List.map_congr_left fun p hp => ?_
  have hn : 0 < ls.length := by have := List.mem_range.mp hp; omega
  show decide (t ≤ lvv ms fun o => cyi ls ((p : Int) + o)) = hd ms (cut t ls) (p : Int)
  rw [hd_ev, Bool.eq_iff_iff, decide_eq_true_iff, le_lvv h]
  have : (fun o : Int => decide (t ≤ cyi ls ((p : Int) + o))) = fun o => cyc (cut t ls) ((p : Int) + o) := funext fun o => (cyc_cut hn t _).symm
  rw [this]
theorem lev_eq {ms : List (List Int)} {ls ks : List Int} (h : Mks ms) (hl : ls.length = ks.length) (e : ∀ t, app ms (cut t ls) = cut t ks) : lev ms ls = ks :=
  cut_ext (by rw [lev_len, hl]) fun t => by rw [cut_lev h, e]
/-! what is done to all levels -/
theorem cut_map {g : Int → Int} {t u : Int} (h : ∀ x, t ≤ g x ↔ u ≤ x) (ls : List Int) : cut t (ls.map g) = cut u ls := by
  unfold cut
  rw [List.map_map]
  exact List.map_congr_left fun x _ => decide_eq_decide.mpr (h x)
theorem lev_aff {ms : List (List Int)} (h : Mks ms) (ls : List Int) : lev ms (ls.map fun x => 3 * x + 7) = (lev ms ls).map fun x => 3 * x + 7 := by
  refine lev_eq h (by rw [List.length_map, List.length_map, lev_len]) fun t => ?_
  have k : ∀ x : Int, t ≤ 3 * x + 7 ↔ -((7 - t) / 3) ≤ x := fun x => by omega
  rw [cut_map k, cut_map k, cut_lev h]
def neg (ls : List Int) : List Int := ls.map fun x => -x
theorem neg_len (ls : List Int) : (neg ls).length = ls.length := List.length_map ..
theorem neg_neg' (ls : List Int) : neg (neg ls) = ls := by
  unfold neg
  rw [List.map_map]
  have : ((fun x : Int => -x) ∘ fun x => -x) = id := by funext b; simp
  rw [this, List.map_id]
theorem cut_neg (t : Int) (ls : List Int) : cut t (neg ls) = swp (cut (1 - t) ls) := by
  unfold cut neg swp
  rw [List.map_map, List.map_map]
  refine List.map_congr_left fun x _ => ?_
  show decide (t ≤ -x) = !decide (1 - t ≤ x)
  by_cases c : t ≤ -x
  · rw [decide_eq_true c, decide_eq_false (by omega)]; rfl
  · rw [decide_eq_false c, decide_eq_true (by omega)]; rfl
theorem lev_opp {ms : List (List Int)} {a b : Int} (h : Fr ms a b) {ls : List Int} (hn : 0 < ls.length) : lev (opp ms) (neg ls) = neg (lev ms ls) := by
  have ho : Fr (opp ms) a b := inferInstance
  refine lev_eq ho.mks (by rw [neg_len, neg_len, lev_len]) fun t => ?_
  rw [cut_neg, cut_neg, app_opp (by rw [cut_len]; exact hn), cut_lev h.mks]
end DL
end L2
namespace L2
namespace DL
open PySem
/-- levels of at most n places -/
class Ln (ls : List Int) (n : outParam Nat) : Prop where
  pos : 0 < ls.length
  le : ls.length ≤ n
instance ln_lev (ms : List (List Int)) (ls : List Int) (n : Nat) [h : Ln ls n] : Ln (lev ms ls) n := ⟨by rw [lev_len]; exact h.pos, by rw [lev_len]; exact h.le⟩
instance ln_map (g : Int → Int) (ls : List Int) (n : Nat) [h : Ln ls n] : Ln (ls.map g) n := ⟨by rw [List.length_map]; exact h.pos, by rw [List.length_map]; exact h.le⟩
instance ln_neg (ls : List Int) (n : Nat) [h : Ln ls n] : Ln (neg ls) n := ⟨by rw [neg_len]; exact h.pos, by rw [neg_len]; exact h.le⟩
instance ln_rev (ls : List Int) (n : Nat) [h : Ln ls n] : Ln ls.reverse n := ⟨by rw [List.length_reverse]; exact h.pos, by rw [List.length_reverse]; exact h.le⟩
instance rn_cut (t : Int) (ls : List Int) (n : Nat) [h : Ln ls n] : Rn (cut t ls) n := ⟨by rw [cut_len]; exact h.pos, by rw [cut_len]; exact h.le⟩
theorem ln_dec {ls : List Int} (n : Nat) (h : 0 < ls.length ∧ ls.length ≤ n) : Ln ls n := ⟨h.1, h.2⟩
theorem gd_asg2F {i j : Nat} {fa : Env' → M D} {fb : Env' → M (D × Bool)} {τ : Ste} {S : Wd} {Q : Fl × Ste → Wd → Prop} (hi : i < τ.1.length ∧ j < τ.1.length) (h : Gd (fa τ.1) S fun x S1 => Gd (fb τ.1) S1 fun r S2 => Q (.nx, asg i (x, false) (asg j r τ)) S2) : Gd (sAsg2F i j fa fb τ) S Q :=
  gd_lft (gd_bind (gd_mono h fun x S1 h => gd_bind (gd_mono h fun r S2 q => gd_ret (by
    show Gd (if decide (i < τ.1.length ∧ j < τ.1.length) = true then M.ret (.nx, asg i (x, false) (asg j r τ)) else M.no) S2 Q
    rw [if_pos (decide_eq_true hi)]
    exact gd_ret q))))
/-- a new list in j, something stable in i -/
theorem q_asg2F {ρ : Env'} {o : List Nat} {S : Wd} {Q : Fl × Ste → Wd → Prop} {g : Ste → M (Fl × Ste)} {i j : Nat} {fa : Env' → M D} {fb : Env' → M (D × Bool)} (h : Gd (fa ρ) S fun x S1 => Gd (fb ρ) S1 fun r S2 => ((r.2 && flatL r.1) = true ∧ stb x = true ∧ j ≠ i) ∧ ∃ ρ1, SetR ρ j (some r.1) ρ1 ∧ ∃ ρ', SetR ρ1 i (some x) ρ' ∧ ∀ o, j ∈ o → Gd (g (ρ', o)) S2 Q) : Gd (sSeq (sAsg2F i j fa fb) g (ρ, o)) S Q := by
  refine gd_seq (gd_lft (gd_bind (gd_mono h fun x S1 h => gd_bind (gd_mono h fun r S2 q => gd_ret ?_))))
  obtain ⟨⟨f1, f2, ne⟩, ρ1, s1, ρ', s2, k⟩ := q
  have hi : i < ρ.length := by
    have := s2.lt
    rw [← s1.eq, List.length_set] at this
    exact this
  show Gd (if decide (i < ρ.length ∧ j < ρ.length) = true then M.ret (Fl.nx, asg i (x, false) (asg j r (ρ, o))) else M.no) S2 _
  rw [if_pos (decide_eq_true ⟨hi, s1.lt⟩)]
  refine gd_ret ?_
  show Gd (g _) S2 Q
  have m1 : j ∈ (asg j r (ρ, o)).2 := by
    show j ∈ (if (r.2 && flatL r.1) = true then j :: o.filter (fun x => x != j) else if stb r.1 = true then o.filter (fun x => x != j) else [])
    rw [if_pos f1]
    exact List.mem_cons_self
  have m2 := asg_keep (i := i) (r := (x, false)) (ρ := (asg j r (ρ, o)).1) m1 ne (by rw [show ((x, false) : D × Bool).1 = x from rfl, f2, Bool.or_true])
  have e : asg i (x, false) (asg j r (ρ, o)) = (ρ', (asg i (x, false) (asg j r (ρ, o))).2) := by
    have e1 : (asg i (x, false) (asg j r (ρ, o))).1 = ρ' := by
      show (ρ.set j (some r.1)).set i (some x) = _
      rw [s1.eq, s2.eq]
    rw [← e1]
  rw [e]
  exact k _ m2
theorem gd_retO {i : Nat} {τ : Ste} {S : Wd} {Q : Fl × Ste → Wd → Prop} {d : D} (e : τ.1[i]? = some (some d)) (m : i ∈ τ.2) (h : Q (.ret d true, τ) S) : Gd (sRetV i τ) S Q := by
  unfold sRetV
  rw [e, List.contains_iff_mem.mpr m]
  exact gd_ret h
end DL
end L2
namespace L2
namespace DL
open PySem
/-- for t in a new list: what is owned stays -/
theorem q_forF {α : Type} {ρ : Env'} {o : List Nat} {S : Wd} {Q : Fl × Ste → Wd → Prop} {g : Ste → M (Fl × Ste)} {f : Env' → M (D × Bool)} {gt : D → Env' → Option Env'} {is : List Nat} {body : Ste → M (Fl × Ste)} (k : α → D) (as : List α) (I : Ste → Wd → Prop) (h : Gd (f ρ) S fun r S' => r = (.list (as.map k), true) ∧ flatAll (as.map k) = true ∧ I (ρ, o) S')
    (step : ∀ a τ S, a ∈ as → I τ S → ∃ τ1, asgT gt is (k a) τ = some τ1 ∧ Gd (body τ1) S (LpQ (fun τ2 S2 => I τ2 S2) (SqQ g Q))) (fin : ∀ τ S, I τ S → Gd (g τ) S Q) : Gd (sSeq (sFor f gt is body) g (ρ, o)) S Q := by
  refine gd_seq (gd_for (gd_mono h fun r S' ⟨e, fl, i0⟩ => ?_))
  subst e
  refine ⟨_, rfl, ?_⟩
  have e : (if ((true && flatL (.list (as.map k))) || stb (.list (as.map k))) = true then o else []) = o := by
    rw [show flatL (.list (as.map k)) = true from fl]
    rfl
  show Gd (sLoop gt is body (as.map k) (ρ, if ((true && flatL (.list (as.map k))) || stb (.list (as.map k))) = true then o else [])) S' _
  rw [e]
  exact gd_loop as (fun _ τ S => I τ S) i0 (fun pre a post τ S e h => step a τ S (by rw [e]; simp) h) fun τ S h => fin τ S h
theorem isList (ds : List D) : gIsi tList (.list ds) = M.ret (.bool true) := rfl
theorem neLI (a b : List Int) : gNe (.list (a.map .int)) (.list (b.map .int)) = M.ret (.bool (!decide (a = b))) := cod_int.neL (by decide) a b
theorem eqLI (a b : List Int) : gEq (.list (a.map .int)) (.list (b.map .int)) = M.ret (.bool (decide (a = b))) := cod_int.eqL (by decide) a b
/-- a list of ints -/
class IsLI (d : D) (m : outParam (List Int)) : Prop where
  eq : d = .list (m.map .int)
instance isLI_0 (m : List Int) : IsLI (.list (m.map .int)) m := ⟨rfl⟩
instance isLI_1 (ds : List D) (m : List Int) [h : IsIs ds m] : IsLI (.list ds) m := ⟨by rw [h.eq]⟩
section
variable {S : Wd} {P : D → Wd → Prop} {d e : D}
theorem u_neLI {x y : List Int} [a : IsLI d x] [b : IsLI e y] (h : P (.bool (!decide (x = y))) S) : Gd (gNe d e) S P := by
  rw [a.eq, b.eq]
  exact gd_eq (neLI x y) h
theorem u_eqLI {x y : List Int} [a : IsLI d x] [b : IsLI e y] (h : P (.bool (decide (x = y))) S) : Gd (gEq d e) S P := by
  rw [a.eq, b.eq]
  exact gd_eq (eqLI x y) h
theorem u_lenLI {x : List Int} [a : IsLI d x] (h : P (.int x.length) S) : Gd (gO oLen [d]) S P := by
  rw [a.eq]
  exact gd_eq (by rw [len_ev, List.length_map]) h
theorem u_tupLI {x : List Int} [a : IsLI d x] (h : P (mkI x) S) : Gd (gO oTuple [d]) S P := by
  rw [a.eq]
  exact gd_eq rfl h
theorem u_isL {ds : List D} (h : P (.bool true) S) : Gd (gIsi tList (.list ds)) S P := gd_eq rfl h
end
end DL
end L2

set_option Elab.async false
set_option linter.all false
set_option maxRecDepth 100000
/-! levels of what is made of filters -/
namespace L2
namespace DL
open PySem
theorem le_ext {a b : Int} (h : ∀ t, t ≤ a ↔ t ≤ b) : a = b := by
  have h1 := (h a).mp (Int.le_refl a)
  have h2 := (h b).mpr (Int.le_refl b)
  omega
section
variable {x y : List (List Int)} {a b c d : Int}
theorem lvv_join (h : Fr x a b) (k : Fr y c d) (f : Int → Int) : lvv (join x y) f = if lvv y f > lvv x f then lvv y f else lvv x f := by
  refine le_ext fun t => ?_
  have e : t ≤ lvv (join x y) f ↔ t ≤ lvv x f ∨ t ≤ lvv y f := by
    rw [le_lvv (fr_join x y a b c d).mks, ev_join h.mks.asc k.mks.asc, Bool.or_eq_true, le_lvv h.mks, le_lvv k.mks]
  rw [e]
  split <;> omega
theorem lvv_meet (h : Fr x a b) (k : Fr y c d) (f : Int → Int) : lvv (meet x y) f = if lvv y f < lvv x f then lvv y f else lvv x f := by
  refine le_ext fun t => ?_
  have e : t ≤ lvv (meet x y) f ↔ t ≤ lvv x f ∧ t ≤ lvv y f := by
    rw [le_lvv (fr_meet x y a b c d).mks, ev_meet, Bool.and_eq_true, le_lvv h.mks, le_lvv k.mks]
  rw [e]
  split <;> omega
theorem lev_zip (ls : List Int) : (lev x ls).zip (lev y ls) = (List.range ls.length).map fun p : Nat => (lvv x (fun o => cyi ls ((p : Int) + o)), lvv y (fun o => cyi ls ((p : Int) + o))) := by
  unfold lev
  rw [List.zip_map']
theorem lev_join (h : Fr x a b) (k : Fr y c d) (ls : List Int) : lev (join x y) ls = ((lev x ls).zip (lev y ls)).map fun p => if p.2 > p.1 then p.2 else p.1 := by
  rw [lev_zip, List.map_map]
  exact List.map_congr_left fun p _ => lvv_join h k _
theorem lev_meet (h : Fr x a b) (k : Fr y c d) (ls : List Int) : lev (meet x y) ls = ((lev x ls).zip (lev y ls)).map fun p => if p.2 < p.1 then p.2 else p.1 := by
  rw [lev_zip, List.map_map]
  exact List.map_congr_left fun p _ => lvv_meet h k _
theorem lev_aft (h : Fr x a b) (k : Fr y c d) {ls : List Int} (hn : 0 < ls.length) : lev (aft x y) ls = lev x (lev y ls) :=
  lev_eq (fr_aft x y a b c d).mks (by rw [lev_len, lev_len]) fun t => by
    rw [cut_lev h.mks, cut_lev k.mks, app_aft (by rw [cut_len]; exact hn)]
theorem lev_blw (h : Fr x a b) (k : Fr y c d) (e : blw x y = true) (ls : List Int) : ((lev x ls).zip (lev y ls)).filter (fun p => decide (p.2 < p.1)) = [] := by
  rw [lev_zip]
  refine List.filter_eq_nil_iff.mpr fun p hp => ?_
  obtain ⟨i, _, rfl⟩ := List.mem_map.mp hp
  generalize (fun o => cyi ls ((i : Int) + o)) = f
  have : lvv x f ≤ lvv y f := (le_lvv k.mks f _).mpr (blw_ev.mp e _ ((le_lvv h.mks f _).mp (Int.le_refl _)))
  simp only [decide_eq_true_eq]
  omega
theorem cut_drop (t : Int) (k : Nat) (ls : List Int) : cut t (ls.drop k ++ ls.take k) = (cut t ls).drop k ++ (cut t ls).take k := by
  unfold cut
  rw [List.map_append, List.map_drop, List.map_take]
theorem lev_rot (h : Fr x a b) {ls : List Int} {k : Nat} (hk : k ≤ ls.length) (hn : 0 < ls.length) : lev x (ls.drop k ++ ls.take k) = (lev x ls).drop k ++ (lev x ls).take k :=
  lev_eq h.mks (by rw [List.length_append, List.length_append, List.length_drop, List.length_take, List.length_drop, List.length_take, lev_len]) fun t => by
    rw [cut_drop, cut_drop, cut_lev h.mks, app_rot (by rw [cut_len]; exact hk) (by rw [cut_len]; exact hn)]
theorem cut_rev (t : Int) (ls : List Int) : cut t ls.reverse = (cut t ls).reverse := by
  unfold cut
  rw [List.map_reverse]
theorem lev_mir (h : Fr x a b) {ls : List Int} (hn : 0 < ls.length) : lev (mir x) ls.reverse = (lev x ls).reverse :=
  lev_eq (fr_mir x a b).mks (by rw [List.length_reverse, List.length_reverse, lev_len]) fun t => by
    rw [cut_rev, cut_rev, cut_lev h.mks]
    exact app_mirror (by rw [cut_len]; exact hn) fun m => by
      rw [mem_mir]
      exact ⟨fun ⟨m', h1, h2⟩ => ⟨m', h1, h2.symm⟩, fun ⟨m', h1, h2⟩ => ⟨m', h1, h2.symm⟩⟩
theorem lev_same (h : Fr x a b) (n : Nat) (v : Int) : lev x (List.replicate n v) = List.replicate n v := by
  refine List.eq_replicate_iff.mpr ⟨by rw [lev_len, List.length_replicate], fun z hz => ?_⟩
  exact (List.mem_replicate.mp (lev_mem h.mks z hz)).2
/-! a ring as levels -/
def nums (bs : List Bool) : List Int := bs.map fun b => if b then 7 else -2
theorem nums_len (bs : List Bool) : (nums bs).length = bs.length := List.length_map ..
theorem cut_nums (bs : List Bool) : cut 7 (nums bs) = bs := by
  unfold cut nums
  rw [List.map_map]
  have : ((fun x : Int => decide (7 ≤ x)) ∘ fun b : Bool => if b = true then (7 : Int) else -2) = id := by
    funext b
    cases b <;> decide
  rw [this, List.map_id]
theorem lev_nums (h : Fr x a b) (bs : List Bool) : (lev x (nums bs)).map (fun v => decide (v = 7)) = app x bs := by
  have e : (lev x (nums bs)).map (fun v => decide (v = 7)) = cut 7 (lev x (nums bs)) := List.map_congr_left fun v hv => by
    obtain ⟨b, _, rfl⟩ := List.mem_map.mp (lev_mem h.mks v hv)
    cases b <;> decide
  rw [e, cut_lev h.mks, cut_nums]
instance ln_nums (bs : List Bool) (n : Nat) [h : Rn bs n] : Ln (nums bs) n := ⟨by rw [nums_len]; exact h.pos, by rw [nums_len]; exact h.le⟩
/-! more -/
theorem lev_mono (h : Fr x a b) {ls ks : List Int} (hl : ls.length = ks.length) (hn : 0 < ls.length) (e : ∀ i, cyi ls i ≤ cyi ks i) : ((lev x ls).zip (lev x ks)).filter (fun p => decide (p.2 < p.1)) = [] := by
  unfold lev
  rw [← hl, List.zip_map']
  refine List.filter_eq_nil_iff.mpr fun p hp => ?_
  obtain ⟨i, _, rfl⟩ := List.mem_map.mp hp
  have e1 : ∀ o, cyi ls ((i : Int) + o) ≤ cyi ks ((i : Int) + o) := fun o => e _
  have key : ∀ f g : Int → Int, (∀ o, f o ≤ g o) → lvv x f ≤ lvv x g := fun f g q => (le_lvv h.mks _ _).mpr (ev_up (fun o ho => by
    have := of_decide_eq_true ho
    have := q o
    exact decide_eq_true (by omega)) ((le_lvv h.mks f _).mp (Int.le_refl _)))
  have := key _ _ e1
  simp only [decide_eq_true_eq]
  omega
end
/-! lists and tuples of ints -/
theorem drop_lI {ls : List Int} {k : Nat} (h : k ≤ ls.length) : gSl (.list (ls.map .int)) (some (k : Int)) none = M.ret (.list ((ls.drop k).map .int)) := by
  have := drop_lst (ds := ls.map PyData.int) (k := k) (by rw [List.length_map]; exact h)
  rw [← List.map_drop] at this
  exact this
theorem take_lI {ls : List Int} {k : Nat} (h : k ≤ ls.length) : gSl (.list (ls.map .int)) none (some (k : Int)) = M.ret (.list ((ls.take k).map .int)) := by
  rw [take_lst (by rw [List.length_map]; exact h), List.map_take]
theorem rev_lI (ls : List Int) : gRev (.list (ls.map .int)) = M.ret (.list (ls.reverse.map .int)) := by
  show M.ret (PyData.list (ls.map PyData.int).reverse) = _
  rw [List.map_reverse]
theorem rep_lI {n : Nat} (v : Int) (h : n ≤ 1000) : gRepF (.list [.int v], true) (.int (n : Int)) = M.ret (.list ((List.replicate n v).map .int)) := by
  show (if decide (0 ≤ (n : Int) ∧ (n : Int) ≤ 1000 ∧ [PyData.int v].length ≤ 1000) = true then M.ret (PyData.list (List.replicate (n : Int).toNat [PyData.int v]).flatten) else M.no) = _
  rw [if_pos (decide_eq_true ⟨by omega, by omega, by simp⟩)]
  congr 2
  rw [Int.toNat_natCast]
  induction n with
  | zero => rfl
  | succ n ih => rw [List.replicate_succ, List.flatten_cons, ih (by omega)]; rfl
theorem rep_tI {n : Nat} (v : Int) (h0 : 0 < n) (h : n ≤ 1000) : gMulT (.tuple [.int v]) (.int (n : Int)) = M.ret (mkI (List.replicate n v)) := by
  show (if decide ([PyData.int v] ≠ [] ∧ 1 ≤ (n : Int) ∧ (n : Int) ≤ 1000 ∧ [PyData.int v].length ≤ 1000) = true then M.ret (PyData.tuple (List.replicate (n : Int).toNat [PyData.int v]).flatten) else M.no) = _
  rw [if_pos (decide_eq_true ⟨by simp, by omega, by omega, by simp⟩)]
  show M.ret (PyData.tuple _) = M.ret (PyData.tuple ((List.replicate n v).map .int))
  congr 2
  rw [Int.toNat_natCast]
  clear h0
  induction n with
  | zero => rfl
  | succ n ih => rw [List.replicate_succ, List.flatten_cons, ih (by omega)]; rfl
instance ln_rep (n : Nat) (v : Int) (m : Nat) [h : Ln (List.replicate n (0 : Int)) m] : Ln (List.replicate n v) m := ⟨by have := h.pos; rw [List.length_replicate] at *; exact this, by have := h.le; rw [List.length_replicate] at *; exact this⟩
theorem ln_rot {ls : List Int} {k n : Nat} (h : Ln ls n) (hk : k ≤ ls.length) : Ln (ls.drop k ++ ls.take k) n := by
  have l : (ls.drop k ++ ls.take k).length = ls.length := by rw [List.length_append, List.length_drop, List.length_take]; omega
  exact ⟨by rw [l]; exact h.pos, by rw [l]; exact h.le⟩
theorem zip_lI (as bs : List Int) : oZip [.list (as.map .int), .list (bs.map .int)] = some ((as.zip bs).map fun p => .tuple [.int p.1, .int p.2]) := by
  show some (((as.map PyData.int).zip (bs.map PyData.int)).map fun p => PyData.tuple [p.1, p.2]) = _
  rw [List.zip_map, List.map_map]
  rfl
end DL
end L2
namespace L2
namespace DL
open PySem
theorem take_tup {ds : List D} {k : Nat} (hk : k ≤ ds.length) : gSl (.tuple ds) none (some (k : Int)) = M.ret (.tuple (ds.take k)) := by
  show M.ret (PyData.tuple (cutD ds none (some (k : Int)))) = _
  unfold cutD
  have e1 : HT.sIx ds.length ds.length (some (k : Int)) = k := by
    rw [HT.sIx_nat]; omega
  have e0 : HT.sIx ds.length 0 none = 0 := rfl
  rw [e1, e0, List.drop_zero, Nat.sub_zero]
theorem drop_tup {ds : List D} {k : Nat} (hk : k ≤ ds.length) : gSl (.tuple ds) (some (k : Int)) none = M.ret (.tuple (ds.drop k)) := by
  show M.ret (PyData.tuple (cutD ds (some (k : Int)) none)) = _
  unfold cutD
  have e1 : HT.sIx ds.length 0 (some (k : Int)) = k := by
    rw [HT.sIx_nat]; omega
  have e0 : HT.sIx ds.length ds.length none = ds.length := rfl
  rw [e1, e0, List.take_of_length_le (by rw [List.length_drop]; omega)]
theorem take_mkI {ls : List Int} {k : Nat} (h : k ≤ ls.length) : gSl (mkI ls) none (some (k : Int)) = M.ret (mkI (ls.take k)) := by
  have := take_tup (ds := ls.map PyData.int) (k := k) (by rw [List.length_map]; exact h)
  rw [← List.map_take] at this
  exact this
theorem drop_mkI {ls : List Int} {k : Nat} (h : k ≤ ls.length) : gSl (mkI ls) (some (k : Int)) none = M.ret (mkI (ls.drop k)) := by
  have := drop_tup (ds := ls.map PyData.int) (k := k) (by rw [List.length_map]; exact h)
  rw [← List.map_drop] at this
  exact this
end DL
end L2
namespace L2
namespace DL
open PySem
/-! the dots of two rings, the shared ones -/
def por (a b : List Bool) : List Bool := (a.zip b).map fun p => p.1 || p.2
def pand (a b : List Bool) : List Bool := (a.zip b).map fun p => p.1 && p.2
theorem por_len (a b : List Bool) : (por a b).length = min a.length b.length := by unfold por; rw [List.length_map, List.length_zip]
theorem pand_len (a b : List Bool) : (pand a b).length = min a.length b.length := by unfold pand; rw [List.length_map, List.length_zip]
theorem cyc_zip (f : Bool → Bool → Bool) {a b : List Bool} (hl : a.length = b.length) (hn : 0 < a.length) (i : Int) : cyc ((a.zip b).map fun p => f p.1 p.2) i = f (cyc a i) (cyc b i) := by
  have h0 := Int.emod_nonneg i (show (a.length : Int) ≠ 0 by omega)
  have h1 := Int.emod_lt_of_pos i (show (0 : Int) < a.length by omega)
  unfold cyc
  rw [List.length_map, List.length_zip, ← hl, Nat.min_self]
  generalize hk : (i % (a.length : Int)).toNat = k
  have ha : k < a.length := by omega
  have hb : k < b.length := by omega
  rw [List.getD_eq_getElem?_getD, List.getD_eq_getElem?_getD, List.getD_eq_getElem?_getD, List.getElem?_map, List.getElem?_eq_getElem ha, List.getElem?_eq_getElem hb, List.getElem?_eq_getElem (by rw [List.length_zip]; omega)]
  simp
theorem cyc_por {a b : List Bool} (hl : a.length = b.length) (hn : 0 < a.length) (i : Int) : cyc (por a b) i = (cyc a i || cyc b i) := cyc_zip (fun x y => x || y) hl hn i
theorem cyc_pand {a b : List Bool} (hl : a.length = b.length) (hn : 0 < a.length) (i : Int) : cyc (pand a b) i = (cyc a i && cyc b i) := cyc_zip (fun x y => x && y) hl hn i
instance rn_por (a b : List Bool) (n : Nat) [h : Rn a n] [k : Rn b n] : Rn (por a b) n := ⟨by rw [por_len]; have := h.pos; have := k.pos; omega, by rw [por_len]; have := h.le; omega⟩
instance rn_pand (a b : List Bool) (n : Nat) [h : Rn a n] [k : Rn b n] : Rn (pand a b) n := ⟨by rw [pand_len]; have := h.pos; have := k.pos; omega, by rw [pand_len]; have := h.le; omega⟩
section
variable {ms : List (List Int)} {a b : List Bool}
theorem app_up (hl : a.length = b.length) (hn : 0 < a.length) (h : ∀ i, cyc a i = true → cyc b i = true) : lies (app ms a) (app ms b) = true := by
  rw [lies_iff (by rw [app_len, app_len, hl]) (by rw [app_len]; exact hn)]
  intro i hi
  rw [cyc_app' hn] at hi
  rw [cyc_app' (by omega)]
  exact ev_up (fun o ho => h _ ho) hi
theorem lies_more (hl : a.length = b.length) (hn : 0 < a.length) : lies (app ms a) (app ms (por a b)) = true :=
  app_up (by rw [por_len]; omega) hn fun i hi => by rw [cyc_por hl hn, hi]; rfl
theorem lies_less (hl : a.length = b.length) (hn : 0 < a.length) : lies (app ms (pand a b)) (app ms a) = true :=
  app_up (by rw [pand_len]; omega) (by rw [pand_len]; omega) fun i hi => by
    rw [cyc_pand hl hn, Bool.and_eq_true] at hi
    exact hi.1
theorem lies_joined (hl : a.length = b.length) (hn : 0 < a.length) : lies (por (app ms a) (app ms b)) (app ms (por a b)) = true := by
  have l1 : (app ms a).length = (app ms b).length := by rw [app_len, app_len, hl]
  have n1 : 0 < (app ms a).length := by rw [app_len]; exact hn
  rw [lies_iff (by rw [por_len, app_len, app_len, app_len, por_len]) (by rw [por_len]; omega)]
  intro i hi
  rw [cyc_por l1 n1, Bool.or_eq_true, cyc_app' hn, cyc_app' (by omega)] at hi
  rw [cyc_app' (by rw [por_len]; omega)]
  rcases hi with hi | hi
  · exact ev_up (fun o ho => by rw [cyc_por hl hn, ho]; rfl) hi
  · exact ev_up (fun o ho => by rw [cyc_por hl hn, ho, Bool.or_true]) hi
theorem lies_shared (hl : a.length = b.length) (hn : 0 < a.length) : lies (app ms (pand a b)) (pand (app ms a) (app ms b)) = true := by
  have l1 : (app ms a).length = (app ms b).length := by rw [app_len, app_len, hl]
  have n1 : 0 < (app ms a).length := by rw [app_len]; exact hn
  rw [lies_iff (by rw [pand_len, app_len, app_len, app_len, pand_len]) (by rw [app_len, pand_len]; omega)]
  intro i hi
  rw [cyc_app' (by rw [pand_len]; omega)] at hi
  rw [cyc_pand l1 n1, cyc_app' hn, cyc_app' (by omega), Bool.and_eq_true]
  exact ⟨ev_up (fun o ho => by rw [cyc_pand hl hn, Bool.and_eq_true] at ho; exact ho.1) hi, ev_up (fun o ho => by rw [cyc_pand hl hn, Bool.and_eq_true] at ho; exact ho.2) hi⟩
theorem thin_pand (m : List Int) (hl : a.length = b.length) (hn : 0 < a.length) : app [m] (pand a b) = pand (app [m] a) (app [m] b) := by
  have l1 : (app [m] a).length = (app [m] b).length := by rw [app_len, app_len, hl]
  have n1 : 0 < (app [m] a).length := by rw [app_len]; exact hn
  refine cyc_ext (by rw [pand_len, app_len, app_len, app_len, pand_len]) fun i => ?_
  rw [cyc_pand l1 n1, cyc_app' (by rw [pand_len]; omega), cyc_app' hn, cyc_app' (by omega), ev_one, ev_one, ev_one]
  simp only [cyc_pand hl hn]
  clear l1 n1
  induction m with
  | nil => rfl
  | cons o m ih =>
    simp only [List.all_cons, ih]
    cases cyc a (i + o) <;> cases cyc b (i + o) <;> simp
theorem thick_por (m : List Int) (hl : a.length = b.length) (hn : 0 < a.length) : app (thick m) (por a b) = por (app (thick m) a) (app (thick m) b) := by
  have l1 : (app (thick m) a).length = (app (thick m) b).length := by rw [app_len, app_len, hl]
  have n1 : 0 < (app (thick m) a).length := by rw [app_len]; exact hn
  refine cyc_ext (by rw [por_len, app_len, app_len, app_len, por_len]) fun i => ?_
  rw [cyc_por l1 n1, cyc_app' (by rw [por_len]; omega), cyc_app' hn, cyc_app' (by omega), ev_thick, ev_thick, ev_thick]
  simp only [cyc_por hl hn]
  clear l1 n1
  induction m with
  | nil => rfl
  | cons o m ih =>
    simp only [List.any_cons, ih]
    cases cyc a (i + o) <;> cases cyc b (i + o) <;> simp
end
end DL
end L2

set_option Elab.async false
set_option linter.all false
set_option maxRecDepth 100000
set_option maxHeartbeats 4000000
namespace L2
namespace DL
namespace Lw
open PySem PySem.Spec PyProof.Rows
theorem v_is_integer (i : Int) : F_is_integer [.int i] = M.ret (.bool true, false) := rfl
theorem v_is_offsets {m : List Int} (ha : Asc m) (hn : m ≠ []) : F_is_offsets [mkI m] = M.ret (.bool true, false) := by
  have c1 : xLc (iD (xVar 0)) (gN 1) [1] fYes (eF (fFn F_is_integer 1 (aCons (xVar 1) aNil))) [some (mkI m), none, none, none] = M.ret (.list (m.map fun _ => .bool true)) :=
    xLc_map PyData.int (fun _ => .bool true) rfl fun x _ => rfl
  have c2 : xLc (iA oZip (aCons (xVar 0) (aCons (xSl (xVar 0) (fO (xC (.int 1))) fNo) aNil))) (gN2 2 3) [2, 3] fYes (x2 gLt (xVar 2) (xVar 3)) [some (mkI m), none, none, none] = M.ret (.list ((m.zip (m.drop 1)).map fun p => .bool (decide (p.1 < p.2)))) :=
    xLc_map (fun p : Int × Int => .tuple [.int p.1, .int p.2]) (fun p => .bool (decide (p.1 < p.2))) (by simp only [M.ret_bind, lft_ret, quiet_ret, ofO_some, sSeq, sRet, sPass, sIf, sSet, sRetN, sDrop, x1, x2, x3, xVar, xC, xIf, xAnd, xOr, xNot, bV, bAnd, bOr, bNot, fYes, aNil, aCons, xTup, xLst, xCall, gO, fE, eF, fFn, fLst, fSorted, iD, iA, fO, fNo, xSl, lcItem, gN, gN2, wipeE, lt_int, le_int, gt_int, ge_int, tInt_int, tBool_int, tTuple_mkI, tTuple_mkF, szOk_0, szOk_1, szOk_2, toB_bool, gIsi_ev, nd_int, nd_bool, nd_str, nd_mkI, nd_mkF, nd_tuple, nd_list, itD_mkI, itD_mkF, itD_list, itD_tuple, add_int, sub_int, neg_int, sum_map, all_map, any_map, sl_mkI, sl_mkF, len_mkF, len_mkI, len_list, oInt, oTuple, List.length_map, List.length_cons, List.length_nil, List.map_nil, List.map_cons, List.cons_append, List.nil_append, List.replicate_succ, List.replicate_zero, List.set_cons_zero, List.set_cons_succ, List.getElem?_cons_zero, List.getElem?_cons_succ, List.all_cons, List.all_nil, Bool.and_true, Bool.true_and, Bool.and_false, Bool.false_and, Bool.not_true, Bool.not_false, if_true, if_false, ite_true, ite_false, Bool.false_eq_true, decide_true, decide_false, reduceIte, Nat.reduceLT, Nat.reduceSub, Nat.reduceAdd, Nat.zero_add, List.append_nil, Option.map_some, Option.map_none, zip_ints]) fun x _ => rfl
  have a2 : ((m.zip (m.drop 1)).all fun p => decide (p.1 < p.2)) = true := List.all_eq_true.mpr fun p hp => decide_eq_true (asc_zip ha p hp)
  have a1 : (m.all fun _ => true) = true := List.all_eq_true.mpr fun _ _ => rfl
  refine fn_ret (τ := ([some (mkI m), none, none, none], [])) ?_
  show b_is_offsets ([some (mkI m), none, none, none], []) = _
  unfold b_is_offsets
  simp only [M.ret_bind, lft_ret, quiet_ret, ofO_some, sSeq, sRet, sPass, sIf, sSet, sRetN, sDrop, x1, x2, x3, xVar, xC, xIf, xAnd, xOr, xNot, bV, bAnd, bOr, bNot, fYes, aNil, aCons, xTup, xLst, xCall, gO, fE, eF, fFn, fLst, fSorted, iD, iA, fO, fNo, xSl, lcItem, gN, gN2, wipeE, lt_int, le_int, gt_int, ge_int, tInt_int, tBool_int, tTuple_mkI, tTuple_mkF, szOk_0, szOk_1, szOk_2, toB_bool, gIsi_ev, nd_int, nd_bool, nd_str, nd_mkI, nd_mkF, nd_tuple, nd_list, itD_mkI, itD_mkF, itD_list, itD_tuple, add_int, sub_int, neg_int, sum_map, all_map, any_map, sl_mkI, sl_mkF, len_mkF, len_mkI, len_list, oInt, oTuple, List.length_map, List.length_cons, List.length_nil, List.map_nil, List.map_cons, List.cons_append, List.nil_append, List.replicate_succ, List.replicate_zero, List.set_cons_zero, List.set_cons_succ, List.getElem?_cons_zero, List.getElem?_cons_succ, List.all_cons, List.all_nil, Bool.and_true, Bool.true_and, Bool.and_false, Bool.false_and, Bool.not_true, Bool.not_false, if_true, if_false, ite_true, ite_false, Bool.false_eq_true, decide_true, decide_false, reduceIte, Nat.reduceLT, Nat.reduceSub, Nat.reduceAdd, Nat.zero_add, List.append_nil, Option.map_some, Option.map_none, c1, c2, eq_nilI hn, a1, a2]
theorem v_spread {ms : List (List Int)} (h : ∀ m, m ∈ ms → m ≠ []) (hn : ms ≠ []) : F_spread [mkF ms] = M.ret (.int (maxL (ms.map fun m => m.getLastD 0) - minL (ms.map fun m => m.headD 0)), false) := by
  have c1 : xLc (iD (xVar 0)) (gN 1) [1] fYes (x2 gIx (xVar 1) (x1 gNeg (xC (.int 1)))) [some (mkF ms), none] = M.ret (.list (ms.map fun m => .int (m.getLastD 0))) :=
    xLc_map mkI (fun m => .int (m.getLastD 0)) rfl fun m hm => by simp only [M.ret_bind, lft_ret, quiet_ret, ofO_some, sSeq, sRet, sPass, sIf, sSet, sRetN, sDrop, x1, x2, x3, xVar, xC, xIf, xAnd, xOr, xNot, bV, bAnd, bOr, bNot, fYes, aNil, aCons, xTup, xLst, xCall, gO, fE, eF, fFn, fLst, fSorted, iD, iA, fO, fNo, xSl, lcItem, gN, gN2, wipeE, lt_int, le_int, gt_int, ge_int, tInt_int, tBool_int, tTuple_mkI, tTuple_mkF, szOk_0, szOk_1, szOk_2, toB_bool, gIsi_ev, nd_int, nd_bool, nd_str, nd_mkI, nd_mkF, nd_tuple, nd_list, itD_mkI, itD_mkF, itD_list, itD_tuple, add_int, sub_int, neg_int, sum_map, all_map, any_map, sl_mkI, sl_mkF, len_mkF, len_mkI, len_list, oInt, oTuple, List.length_map, List.length_cons, List.length_nil, List.map_nil, List.map_cons, List.cons_append, List.nil_append, List.replicate_succ, List.replicate_zero, List.set_cons_zero, List.set_cons_succ, List.getElem?_cons_zero, List.getElem?_cons_succ, List.all_cons, List.all_nil, Bool.and_true, Bool.true_and, Bool.and_false, Bool.false_and, Bool.not_true, Bool.not_false, if_true, if_false, ite_true, ite_false, Bool.false_eq_true, decide_true, decide_false, reduceIte, Nat.reduceLT, Nat.reduceSub, Nat.reduceAdd, Nat.zero_add, List.append_nil, Option.map_some, Option.map_none, ix_last (h m hm)]
  have c2 : xLc (iD (xVar 0)) (gN 1) [1] fYes (x2 gIx (xVar 1) (xC (.int 0))) [some (mkF ms), none] = M.ret (.list (ms.map fun m => .int (m.headD 0))) :=
    xLc_map mkI (fun m => .int (m.headD 0)) rfl fun m hm => by simp only [M.ret_bind, lft_ret, quiet_ret, ofO_some, sSeq, sRet, sPass, sIf, sSet, sRetN, sDrop, x1, x2, x3, xVar, xC, xIf, xAnd, xOr, xNot, bV, bAnd, bOr, bNot, fYes, aNil, aCons, xTup, xLst, xCall, gO, fE, eF, fFn, fLst, fSorted, iD, iA, fO, fNo, xSl, lcItem, gN, gN2, wipeE, lt_int, le_int, gt_int, ge_int, tInt_int, tBool_int, tTuple_mkI, tTuple_mkF, szOk_0, szOk_1, szOk_2, toB_bool, gIsi_ev, nd_int, nd_bool, nd_str, nd_mkI, nd_mkF, nd_tuple, nd_list, itD_mkI, itD_mkF, itD_list, itD_tuple, add_int, sub_int, neg_int, sum_map, all_map, any_map, sl_mkI, sl_mkF, len_mkF, len_mkI, len_list, oInt, oTuple, List.length_map, List.length_cons, List.length_nil, List.map_nil, List.map_cons, List.cons_append, List.nil_append, List.replicate_succ, List.replicate_zero, List.set_cons_zero, List.set_cons_succ, List.getElem?_cons_zero, List.getElem?_cons_succ, List.all_cons, List.all_nil, Bool.and_true, Bool.true_and, Bool.and_false, Bool.false_and, Bool.not_true, Bool.not_false, if_true, if_false, ite_true, ite_false, Bool.false_eq_true, decide_true, decide_false, reduceIte, Nat.reduceLT, Nat.reduceSub, Nat.reduceAdd, Nat.zero_add, List.append_nil, Option.map_some, Option.map_none, ix_first (h m hm)]
  refine fn_ret (τ := ([some (mkF ms), none], [])) ?_
  show b_spread ([some (mkF ms), none], []) = _
  unfold b_spread
  simp only [M.ret_bind, lft_ret, quiet_ret, ofO_some, sSeq, sRet, sPass, sIf, sSet, sRetN, sDrop, x1, x2, x3, xVar, xC, xIf, xAnd, xOr, xNot, bV, bAnd, bOr, bNot, fYes, aNil, aCons, xTup, xLst, xCall, gO, fE, eF, fFn, fLst, fSorted, iD, iA, fO, fNo, xSl, lcItem, gN, gN2, wipeE, lt_int, le_int, gt_int, ge_int, tInt_int, tBool_int, tTuple_mkI, tTuple_mkF, szOk_0, szOk_1, szOk_2, toB_bool, gIsi_ev, nd_int, nd_bool, nd_str, nd_mkI, nd_mkF, nd_tuple, nd_list, itD_mkI, itD_mkF, itD_list, itD_tuple, add_int, sub_int, neg_int, sum_map, all_map, any_map, sl_mkI, sl_mkF, len_mkF, len_mkI, len_list, oInt, oTuple, List.length_map, List.length_cons, List.length_nil, List.map_nil, List.map_cons, List.cons_append, List.nil_append, List.replicate_succ, List.replicate_zero, List.set_cons_zero, List.set_cons_succ, List.getElem?_cons_zero, List.getElem?_cons_succ, List.all_cons, List.all_nil, Bool.and_true, Bool.true_and, Bool.and_false, Bool.false_and, Bool.not_true, Bool.not_false, if_true, if_false, ite_true, ite_false, Bool.false_eq_true, decide_true, decide_false, reduceIte, Nat.reduceLT, Nat.reduceSub, Nat.reduceAdd, Nat.zero_add, List.append_nil, Option.map_some, Option.map_none, c1, c2, max_map _ hn, min_map _ hn]
theorem v_is_masks {ms : List (List Int)} (h : Mks ms) : F_is_masks [mkF ms] = M.ret (.bool (decide (span ms ≤ 8)), false) := by
  have c1 : xLc (iD (xVar 0)) (gN 1) [1] fYes (eF (fFn F_is_offsets 1 (aCons (xVar 1) aNil))) [some (mkF ms), none] = M.ret (.list (ms.map fun _ => .bool true)) :=
    xLc_map mkI (fun _ => .bool true) rfl fun m hm => by simp only [M.ret_bind, lft_ret, quiet_ret, ofO_some, sSeq, sRet, sPass, sIf, sSet, sRetN, sDrop, x1, x2, x3, xVar, xC, xIf, xAnd, xOr, xNot, bV, bAnd, bOr, bNot, fYes, aNil, aCons, xTup, xLst, xCall, gO, fE, eF, fFn, fLst, fSorted, iD, iA, fO, fNo, xSl, lcItem, gN, gN2, wipeE, lt_int, le_int, gt_int, ge_int, tInt_int, tBool_int, tTuple_mkI, tTuple_mkF, szOk_0, szOk_1, szOk_2, toB_bool, gIsi_ev, nd_int, nd_bool, nd_str, nd_mkI, nd_mkF, nd_tuple, nd_list, itD_mkI, itD_mkF, itD_list, itD_tuple, add_int, sub_int, neg_int, sum_map, all_map, any_map, sl_mkI, sl_mkF, len_mkF, len_mkI, len_list, oInt, oTuple, List.length_map, List.length_cons, List.length_nil, List.map_nil, List.map_cons, List.cons_append, List.nil_append, List.replicate_succ, List.replicate_zero, List.set_cons_zero, List.set_cons_succ, List.getElem?_cons_zero, List.getElem?_cons_succ, List.all_cons, List.all_nil, Bool.and_true, Bool.true_and, Bool.and_false, Bool.false_and, Bool.not_true, Bool.not_false, if_true, if_false, ite_true, ite_false, Bool.false_eq_true, decide_true, decide_false, reduceIte, Nat.reduceLT, Nat.reduceSub, Nat.reduceAdd, Nat.zero_add, List.append_nil, Option.map_some, Option.map_none, v_is_offsets (h.asc m hm) (h.full m hm)]
  have a1 : (ms.all fun _ => true) = true := List.all_eq_true.mpr fun _ _ => rfl
  refine fn_ret (τ := ([some (mkF ms), none], [])) ?_
  show b_is_masks ([some (mkF ms), none], []) = _
  unfold b_is_masks
  simp only [M.ret_bind, lft_ret, quiet_ret, ofO_some, sSeq, sRet, sPass, sIf, sSet, sRetN, sDrop, x1, x2, x3, xVar, xC, xIf, xAnd, xOr, xNot, bV, bAnd, bOr, bNot, fYes, aNil, aCons, xTup, xLst, xCall, gO, fE, eF, fFn, fLst, fSorted, iD, iA, fO, fNo, xSl, lcItem, gN, gN2, wipeE, lt_int, le_int, gt_int, ge_int, tInt_int, tBool_int, tTuple_mkI, tTuple_mkF, szOk_0, szOk_1, szOk_2, toB_bool, gIsi_ev, nd_int, nd_bool, nd_str, nd_mkI, nd_mkF, nd_tuple, nd_list, itD_mkI, itD_mkF, itD_list, itD_tuple, add_int, sub_int, neg_int, sum_map, all_map, any_map, sl_mkI, sl_mkF, len_mkF, len_mkI, len_list, oInt, oTuple, List.length_map, List.length_cons, List.length_nil, List.map_nil, List.map_cons, List.cons_append, List.nil_append, List.replicate_succ, List.replicate_zero, List.set_cons_zero, List.set_cons_succ, List.getElem?_cons_zero, List.getElem?_cons_succ, List.all_cons, List.all_nil, Bool.and_true, Bool.true_and, Bool.and_false, Bool.false_and, Bool.not_true, Bool.not_false, if_true, if_false, ite_true, ite_false, Bool.false_eq_true, decide_true, decide_false, reduceIte, Nat.reduceLT, Nat.reduceSub, Nat.reduceAdd, Nat.zero_add, List.append_nil, Option.map_some, Option.map_none, c1, eq_nilF h.some, a1, v_spread h.full h.some, C_MOST_SPAN, span]
  rfl
theorem v_number_of {low : Int} {m : List Int} (h : In10 low m) : F_number_of [mkI m, .int low] = M.ret (.int (enc low m), false) := by
  have c1 : xLc (iD (xVar 0)) (gN 2) [2] fYes (x2 gIx (xC C_BITS) (x2 gSub (xVar 2) (xVar 1))) [some (mkI m), some (.int low), none] = M.ret (.list (m.map fun o => .int ((2 ^ (o - low).toNat : Nat) : Int))) :=
    xLc_map PyData.int (fun o => .int ((2 ^ (o - low).toNat : Nat) : Int)) rfl fun o ho => by simp only [M.ret_bind, lft_ret, quiet_ret, ofO_some, sSeq, sRet, sPass, sIf, sSet, sRetN, sDrop, x1, x2, x3, xVar, xC, xIf, xAnd, xOr, xNot, bV, bAnd, bOr, bNot, fYes, aNil, aCons, xTup, xLst, xCall, gO, fE, eF, fFn, fLst, fSorted, iD, iA, fO, fNo, xSl, lcItem, gN, gN2, wipeE, lt_int, le_int, gt_int, ge_int, tInt_int, tBool_int, tTuple_mkI, tTuple_mkF, szOk_0, szOk_1, szOk_2, toB_bool, gIsi_ev, nd_int, nd_bool, nd_str, nd_mkI, nd_mkF, nd_tuple, nd_list, itD_mkI, itD_mkF, itD_list, itD_tuple, add_int, sub_int, neg_int, sum_map, all_map, any_map, sl_mkI, sl_mkF, len_mkF, len_mkI, len_list, oInt, oTuple, List.length_map, List.length_cons, List.length_nil, List.map_nil, List.map_cons, List.cons_append, List.nil_append, List.replicate_succ, List.replicate_zero, List.set_cons_zero, List.set_cons_succ, List.getElem?_cons_zero, List.getElem?_cons_succ, List.all_cons, List.all_nil, Bool.and_true, Bool.true_and, Bool.and_false, Bool.false_and, Bool.not_true, Bool.not_false, if_true, if_false, ite_true, ite_false, Bool.false_eq_true, decide_true, decide_false, reduceIte, Nat.reduceLT, Nat.reduceSub, Nat.reduceAdd, Nat.zero_add, List.append_nil, Option.map_some, Option.map_none, C_BITS, ix_bits (h.lo o ho) (h.hi o ho)]
  refine fn_ret (τ := ([some (mkI m), some (.int low), none], [])) ?_
  show b_number_of ([some (mkI m), some (.int low), none], []) = _
  unfold b_number_of
  simp only [M.ret_bind, lft_ret, quiet_ret, ofO_some, sSeq, sRet, sPass, sIf, sSet, sRetN, sDrop, x1, x2, x3, xVar, xC, xIf, xAnd, xOr, xNot, bV, bAnd, bOr, bNot, fYes, aNil, aCons, xTup, xLst, xCall, gO, fE, eF, fFn, fLst, fSorted, iD, iA, fO, fNo, xSl, lcItem, gN, gN2, wipeE, lt_int, le_int, gt_int, ge_int, tInt_int, tBool_int, tTuple_mkI, tTuple_mkF, szOk_0, szOk_1, szOk_2, toB_bool, gIsi_ev, nd_int, nd_bool, nd_str, nd_mkI, nd_mkF, nd_tuple, nd_list, itD_mkI, itD_mkF, itD_list, itD_tuple, add_int, sub_int, neg_int, sum_map, all_map, any_map, sl_mkI, sl_mkF, len_mkF, len_mkI, len_list, oInt, oTuple, List.length_map, List.length_cons, List.length_nil, List.map_nil, List.map_cons, List.cons_append, List.nil_append, List.replicate_succ, List.replicate_zero, List.set_cons_zero, List.set_cons_succ, List.getElem?_cons_zero, List.getElem?_cons_succ, List.all_cons, List.all_nil, Bool.and_true, Bool.true_and, Bool.and_false, Bool.false_and, Bool.not_true, Bool.not_false, if_true, if_false, ite_true, ite_false, Bool.false_eq_true, decide_true, decide_false, reduceIte, Nat.reduceLT, Nat.reduceSub, Nat.reduceAdd, Nat.zero_add, List.append_nil, Option.map_some, Option.map_none, c1, enc_int]
theorem v_numbers_of {low : Int} {ms : List (List Int)} (h : ∀ m, m ∈ ms → In10 low m) : F_numbers_of [mkF ms, .int low] = M.ret (.list (ms.map fun m => .int (enc low m)), false) := by
  have c1 : xLc (iD (xVar 0)) (gN 2) [2] fYes (eF (fFn F_number_of 2 (aCons (xVar 2) (aCons (xVar 1) aNil)))) [some (mkF ms), some (.int low), none] = M.ret (.list (ms.map fun m => .int (enc low m))) :=
    xLc_map mkI (fun m => .int (enc low m)) rfl fun m hm => by simp only [M.ret_bind, lft_ret, quiet_ret, ofO_some, sSeq, sRet, sPass, sIf, sSet, sRetN, sDrop, x1, x2, x3, xVar, xC, xIf, xAnd, xOr, xNot, bV, bAnd, bOr, bNot, fYes, aNil, aCons, xTup, xLst, xCall, gO, fE, eF, fFn, fLst, fSorted, iD, iA, fO, fNo, xSl, lcItem, gN, gN2, wipeE, lt_int, le_int, gt_int, ge_int, tInt_int, tBool_int, tTuple_mkI, tTuple_mkF, szOk_0, szOk_1, szOk_2, toB_bool, gIsi_ev, nd_int, nd_bool, nd_str, nd_mkI, nd_mkF, nd_tuple, nd_list, itD_mkI, itD_mkF, itD_list, itD_tuple, add_int, sub_int, neg_int, sum_map, all_map, any_map, sl_mkI, sl_mkF, len_mkF, len_mkI, len_list, oInt, oTuple, List.length_map, List.length_cons, List.length_nil, List.map_nil, List.map_cons, List.cons_append, List.nil_append, List.replicate_succ, List.replicate_zero, List.set_cons_zero, List.set_cons_succ, List.getElem?_cons_zero, List.getElem?_cons_succ, List.all_cons, List.all_nil, Bool.and_true, Bool.true_and, Bool.and_false, Bool.false_and, Bool.not_true, Bool.not_false, if_true, if_false, ite_true, ite_false, Bool.false_eq_true, decide_true, decide_false, reduceIte, Nat.reduceLT, Nat.reduceSub, Nat.reduceAdd, Nat.zero_add, List.append_nil, Option.map_some, Option.map_none, v_number_of (h m hm)]
  refine fn_ret (τ := ([some (mkF ms), some (.int low), none], [])) ?_
  show b_numbers_of ([some (mkF ms), some (.int low), none], []) = _
  unfold b_numbers_of
  simp only [M.ret_bind, lft_ret, quiet_ret, ofO_some, sSeq, sRet, sPass, sIf, sSet, sRetN, sDrop, x1, x2, x3, xVar, xC, xIf, xAnd, xOr, xNot, bV, bAnd, bOr, bNot, fYes, aNil, aCons, xTup, xLst, xCall, gO, fE, eF, fFn, fLst, fSorted, iD, iA, fO, fNo, xSl, lcItem, gN, gN2, wipeE, lt_int, le_int, gt_int, ge_int, tInt_int, tBool_int, tTuple_mkI, tTuple_mkF, szOk_0, szOk_1, szOk_2, toB_bool, gIsi_ev, nd_int, nd_bool, nd_str, nd_mkI, nd_mkF, nd_tuple, nd_list, itD_mkI, itD_mkF, itD_list, itD_tuple, add_int, sub_int, neg_int, sum_map, all_map, any_map, sl_mkI, sl_mkF, len_mkF, len_mkI, len_list, oInt, oTuple, List.length_map, List.length_cons, List.length_nil, List.map_nil, List.map_cons, List.cons_append, List.nil_append, List.replicate_succ, List.replicate_zero, List.set_cons_zero, List.set_cons_succ, List.getElem?_cons_zero, List.getElem?_cons_succ, List.all_cons, List.all_nil, Bool.and_true, Bool.true_and, Bool.and_false, Bool.false_and, Bool.not_true, Bool.not_false, if_true, if_false, ite_true, ite_false, Bool.false_eq_true, decide_true, decide_false, reduceIte, Nat.reduceLT, Nat.reduceSub, Nat.reduceAdd, Nat.zero_add, List.append_nil, Option.map_some, Option.map_none, c1]
theorem v_mask_of (n : Nat) (low : Int) : F_mask_of [.int n, .int low] = M.ret (mkI (dec low n), false) := by
  have c1 : xLc (iA oEnum (aCons (xC C_BITS) aNil)) (gN2 2 3) [2, 3] (bV (x2 gEq (x2 gMod (x2 gFdiv (xVar 0) (xVar 3)) (xC (.int 2))) (xC (.int 1)))) (x2 gAdd (xVar 1) (xVar 2)) [some (.int n), some (.int low), none, none] = M.ret (.list (((List.range 10).filter fun i => decide (n / 2 ^ i % 2 = 1)).map fun i : Nat => .int (low + (i : Int)))) :=
    xLc_pure (fun i : Nat => .tuple [.int (i : Int), .int ((2 ^ i : Nat) : Int)]) (fun i => decide (n / 2 ^ i % 2 = 1)) (fun i : Nat => .int (low + (i : Int))) rfl fun i hi => by
      have hi' := List.mem_range.mp hi
      simp only [M.ret_bind, lft_ret, quiet_ret, ofO_some, sSeq, sRet, sPass, sIf, sSet, sRetN, sDrop, x1, x2, x3, xVar, xC, xIf, xAnd, xOr, xNot, bV, bAnd, bOr, bNot, fYes, aNil, aCons, xTup, xLst, xCall, gO, fE, eF, fFn, fLst, fSorted, iD, iA, fO, fNo, xSl, lcItem, gN, gN2, wipeE, lt_int, le_int, gt_int, ge_int, tInt_int, tBool_int, tTuple_mkI, tTuple_mkF, szOk_0, szOk_1, szOk_2, toB_bool, gIsi_ev, nd_int, nd_bool, nd_str, nd_mkI, nd_mkF, nd_tuple, nd_list, itD_mkI, itD_mkF, itD_list, itD_tuple, add_int, sub_int, neg_int, sum_map, all_map, any_map, sl_mkI, sl_mkF, len_mkF, len_mkI, len_list, oInt, oTuple, List.length_map, List.length_cons, List.length_nil, List.map_nil, List.map_cons, List.cons_append, List.nil_append, List.replicate_succ, List.replicate_zero, List.set_cons_zero, List.set_cons_succ, List.getElem?_cons_zero, List.getElem?_cons_succ, List.all_cons, List.all_nil, Bool.and_true, Bool.true_and, Bool.and_false, Bool.false_and, Bool.not_true, Bool.not_false, if_true, if_false, ite_true, ite_false, Bool.false_eq_true, decide_true, decide_false, reduceIte, Nat.reduceLT, Nat.reduceSub, Nat.reduceAdd, Nat.zero_add, List.append_nil, Option.map_some, Option.map_none, bit_div n hi', bit_mod, eq_int, nat_one]
      cases decide (n / 2 ^ i % 2 = 1) <;> rfl
  refine fn_ret (τ := ([some (.int n), some (.int low), none, none], [])) ?_
  show b_mask_of ([some (.int n), some (.int low), none, none], []) = _
  unfold b_mask_of
  simp only [M.ret_bind, lft_ret, quiet_ret, ofO_some, sSeq, sRet, sPass, sIf, sSet, sRetN, sDrop, x1, x2, x3, xVar, xC, xIf, xAnd, xOr, xNot, bV, bAnd, bOr, bNot, fYes, aNil, aCons, xTup, xLst, xCall, gO, fE, eF, fFn, fLst, fSorted, iD, iA, fO, fNo, xSl, lcItem, gN, gN2, wipeE, lt_int, le_int, gt_int, ge_int, tInt_int, tBool_int, tTuple_mkI, tTuple_mkF, szOk_0, szOk_1, szOk_2, toB_bool, gIsi_ev, nd_int, nd_bool, nd_str, nd_mkI, nd_mkF, nd_tuple, nd_list, itD_mkI, itD_mkF, itD_list, itD_tuple, add_int, sub_int, neg_int, sum_map, all_map, any_map, sl_mkI, sl_mkF, len_mkF, len_mkI, len_list, oInt, oTuple, List.length_map, List.length_cons, List.length_nil, List.map_nil, List.map_cons, List.cons_append, List.nil_append, List.replicate_succ, List.replicate_zero, List.set_cons_zero, List.set_cons_succ, List.getElem?_cons_zero, List.getElem?_cons_succ, List.all_cons, List.all_nil, Bool.and_true, Bool.true_and, Bool.and_false, Bool.false_and, Bool.not_true, Bool.not_false, if_true, if_false, ite_true, ite_false, Bool.false_eq_true, decide_true, decide_false, reduceIte, Nat.reduceLT, Nat.reduceSub, Nat.reduceAdd, Nat.zero_add, List.append_nil, Option.map_some, Option.map_none, c1, dec_int]
theorem v_count_bits (n : Nat) : F_count_bits [.int n] = M.ret (.int (cnt n), false) := by
  have c1 : xLc (iD (xC C_BITS)) (gN 1) [1] (bV (x2 gEq (x2 gMod (x2 gFdiv (xVar 0) (xVar 1)) (xC (.int 2))) (xC (.int 1)))) (xC (.int 1)) [some (.int n), none] = M.ret (.list (((List.range 10).filter fun i => decide (n / 2 ^ i % 2 = 1)).map fun _ : Nat => .int 1)) :=
    xLc_pure (fun i : Nat => .int ((2 ^ i : Nat) : Int)) (fun i => decide (n / 2 ^ i % 2 = 1)) (fun _ : Nat => .int 1) rfl fun i hi => by
      have hi' := List.mem_range.mp hi
      simp only [M.ret_bind, lft_ret, quiet_ret, ofO_some, sSeq, sRet, sPass, sIf, sSet, sRetN, sDrop, x1, x2, x3, xVar, xC, xIf, xAnd, xOr, xNot, bV, bAnd, bOr, bNot, fYes, aNil, aCons, xTup, xLst, xCall, gO, fE, eF, fFn, fLst, fSorted, iD, iA, fO, fNo, xSl, lcItem, gN, gN2, wipeE, lt_int, le_int, gt_int, ge_int, tInt_int, tBool_int, tTuple_mkI, tTuple_mkF, szOk_0, szOk_1, szOk_2, toB_bool, gIsi_ev, nd_int, nd_bool, nd_str, nd_mkI, nd_mkF, nd_tuple, nd_list, itD_mkI, itD_mkF, itD_list, itD_tuple, add_int, sub_int, neg_int, sum_map, all_map, any_map, sl_mkI, sl_mkF, len_mkF, len_mkI, len_list, oInt, oTuple, List.length_map, List.length_cons, List.length_nil, List.map_nil, List.map_cons, List.cons_append, List.nil_append, List.replicate_succ, List.replicate_zero, List.set_cons_zero, List.set_cons_succ, List.getElem?_cons_zero, List.getElem?_cons_succ, List.all_cons, List.all_nil, Bool.and_true, Bool.true_and, Bool.and_false, Bool.false_and, Bool.not_true, Bool.not_false, if_true, if_false, ite_true, ite_false, Bool.false_eq_true, decide_true, decide_false, reduceIte, Nat.reduceLT, Nat.reduceSub, Nat.reduceAdd, Nat.zero_add, List.append_nil, Option.map_some, Option.map_none, bit_div n hi', bit_mod, eq_int, nat_one]
      cases decide (n / 2 ^ i % 2 = 1) <;> rfl
  refine fn_ret (τ := ([some (.int n), none], [])) ?_
  show b_count_bits ([some (.int n), none], []) = _
  unfold b_count_bits
  simp only [M.ret_bind, lft_ret, quiet_ret, ofO_some, sSeq, sRet, sPass, sIf, sSet, sRetN, sDrop, x1, x2, x3, xVar, xC, xIf, xAnd, xOr, xNot, bV, bAnd, bOr, bNot, fYes, aNil, aCons, xTup, xLst, xCall, gO, fE, eF, fFn, fLst, fSorted, iD, iA, fO, fNo, xSl, lcItem, gN, gN2, wipeE, lt_int, le_int, gt_int, ge_int, tInt_int, tBool_int, tTuple_mkI, tTuple_mkF, szOk_0, szOk_1, szOk_2, toB_bool, gIsi_ev, nd_int, nd_bool, nd_str, nd_mkI, nd_mkF, nd_tuple, nd_list, itD_mkI, itD_mkF, itD_list, itD_tuple, add_int, sub_int, neg_int, sum_map, all_map, any_map, sl_mkI, sl_mkF, len_mkF, len_mkI, len_list, oInt, oTuple, List.length_map, List.length_cons, List.length_nil, List.map_nil, List.map_cons, List.cons_append, List.nil_append, List.replicate_succ, List.replicate_zero, List.set_cons_zero, List.set_cons_succ, List.getElem?_cons_zero, List.getElem?_cons_succ, List.all_cons, List.all_nil, Bool.and_true, Bool.true_and, Bool.and_false, Bool.false_and, Bool.not_true, Bool.not_false, if_true, if_false, ite_true, ite_false, Bool.false_eq_true, decide_true, decide_false, reduceIte, Nat.reduceLT, Nat.reduceSub, Nat.reduceAdd, Nat.zero_add, List.append_nil, Option.map_some, Option.map_none, c1, cnt]
theorem v_low_of {ms : List (List Int)} (h : ∀ m, m ∈ ms → m ≠ []) (hn : ms ≠ []) : F_low_of [mkF ms] = M.ret (.int (minL (ms.map fun m => m.headD 0)), false) := by
  have c2 : xLc (iD (xVar 0)) (gN 1) [1] fYes (x2 gIx (xVar 1) (xC (.int 0))) [some (mkF ms), none] = M.ret (.list (ms.map fun m => .int (m.headD 0))) :=
    xLc_map mkI (fun m => .int (m.headD 0)) rfl fun m hm => by simp only [M.ret_bind, lft_ret, quiet_ret, ofO_some, sSeq, sRet, sPass, sIf, sSet, sRetN, sDrop, x1, x2, x3, xVar, xC, xIf, xAnd, xOr, xNot, bV, bAnd, bOr, bNot, fYes, aNil, aCons, xTup, xLst, xCall, gO, fE, eF, fFn, fLst, fSorted, iD, iA, fO, fNo, xSl, lcItem, gN, gN2, wipeE, lt_int, le_int, gt_int, ge_int, tInt_int, tBool_int, tTuple_mkI, tTuple_mkF, szOk_0, szOk_1, szOk_2, toB_bool, gIsi_ev, nd_int, nd_bool, nd_str, nd_mkI, nd_mkF, nd_tuple, nd_list, itD_mkI, itD_mkF, itD_list, itD_tuple, add_int, sub_int, neg_int, sum_map, all_map, any_map, sl_mkI, sl_mkF, len_mkF, len_mkI, len_list, oInt, oTuple, List.length_map, List.length_cons, List.length_nil, List.map_nil, List.map_cons, List.cons_append, List.nil_append, List.replicate_succ, List.replicate_zero, List.set_cons_zero, List.set_cons_succ, List.getElem?_cons_zero, List.getElem?_cons_succ, List.all_cons, List.all_nil, Bool.and_true, Bool.true_and, Bool.and_false, Bool.false_and, Bool.not_true, Bool.not_false, if_true, if_false, ite_true, ite_false, Bool.false_eq_true, decide_true, decide_false, reduceIte, Nat.reduceLT, Nat.reduceSub, Nat.reduceAdd, Nat.zero_add, List.append_nil, Option.map_some, Option.map_none, ix_first (h m hm)]
  refine fn_ret (τ := ([some (mkF ms), none], [])) ?_
  show b_low_of ([some (mkF ms), none], []) = _
  unfold b_low_of
  simp only [M.ret_bind, lft_ret, quiet_ret, ofO_some, sSeq, sRet, sPass, sIf, sSet, sRetN, sDrop, x1, x2, x3, xVar, xC, xIf, xAnd, xOr, xNot, bV, bAnd, bOr, bNot, fYes, aNil, aCons, xTup, xLst, xCall, gO, fE, eF, fFn, fLst, fSorted, iD, iA, fO, fNo, xSl, lcItem, gN, gN2, wipeE, lt_int, le_int, gt_int, ge_int, tInt_int, tBool_int, tTuple_mkI, tTuple_mkF, szOk_0, szOk_1, szOk_2, toB_bool, gIsi_ev, nd_int, nd_bool, nd_str, nd_mkI, nd_mkF, nd_tuple, nd_list, itD_mkI, itD_mkF, itD_list, itD_tuple, add_int, sub_int, neg_int, sum_map, all_map, any_map, sl_mkI, sl_mkF, len_mkF, len_mkI, len_list, oInt, oTuple, List.length_map, List.length_cons, List.length_nil, List.map_nil, List.map_cons, List.cons_append, List.nil_append, List.replicate_succ, List.replicate_zero, List.set_cons_zero, List.set_cons_succ, List.getElem?_cons_zero, List.getElem?_cons_succ, List.all_cons, List.all_nil, Bool.and_true, Bool.true_and, Bool.and_false, Bool.false_and, Bool.not_true, Bool.not_false, if_true, if_false, ite_true, ite_false, Bool.false_eq_true, decide_true, decide_false, reduceIte, Nat.reduceLT, Nat.reduceSub, Nat.reduceAdd, Nat.zero_add, List.append_nil, Option.map_some, Option.map_none, c2, min_map _ hn]
theorem v_least {ks : List Nat} (hz : ∀ k, k ∈ ks → k < 1024) (hW : ∀ ys : List Nat, ys.Nodup → (∀ n, n ∈ ys ↔ n ∈ ks) → Wt sbN cnt ys) : ∃ (ys : List Nat) (fr : Bool), ys.Nodup ∧ (∀ n, n ∈ ys ↔ n ∈ ks) ∧
    F_least [.list (ks.map fun n : Nat => .int (n : Int))] = M.ret (.list ((ys.filter (lone sbN ys)).map fun n : Nat => .int (n : Int)), fr) := by
  obtain ⟨xs, ys, e1, e2, nd, mm, so⟩ := num_order ks
  have W := hW ys nd mm
  refine ⟨ys, true, nd, mm, ?_⟩
  have c1 : ∀ S, Gd (fSorted (aCons (xLc (iD (x1 gSortedSet (xVar 0))) (gN 4) [4] fYes (xTup (aCons (eF (fFn F_count_bits 1 (aCons (xVar 4) aNil))) (aCons (xVar 4) aNil)))) aNil) [some (.list (ks.map fun n : Nat => .int (n : Int))), some (.list []), none, none, none]) S fun r S' => r = (.list (ys.map fun n : Nat => mkI [(cnt n : Int), (n : Int)]), true) ∧ S' = S := fun S => by
    have c0 : xLc (iD (x1 gSortedSet (xVar 0))) (gN 4) [4] fYes (xTup (aCons (eF (fFn F_count_bits 1 (aCons (xVar 4) aNil))) (aCons (xVar 4) aNil))) [some (.list (ks.map fun n : Nat => .int (n : Int))), some (.list []), none, none, none] = M.ret (.list (xs.map fun n : Nat => mkI [(cnt n : Int), (n : Int)])) :=
      xLc_map (fun n : Nat => .int (n : Int)) (fun n : Nat => mkI [(cnt n : Int), (n : Int)]) (by simp only [M.ret_bind, lft_ret, quiet_ret, ofO_some, sSeq, sRet, sPass, sIf, sSet, sRetN, sDrop, x1, x2, x3, xVar, xC, xIf, xAnd, xOr, xNot, bV, bAnd, bOr, bNot, fYes, aNil, aCons, xTup, xLst, xCall, gO, fE, eF, fFn, fLst, fSorted, iD, iA, fO, fNo, xSl, lcItem, gN, gN2, wipeE, lt_int, le_int, gt_int, ge_int, tInt_int, tBool_int, tTuple_mkI, tTuple_mkF, szOk_0, szOk_1, szOk_2, toB_bool, gIsi_ev, nd_int, nd_bool, nd_str, nd_mkI, nd_mkF, nd_tuple, nd_list, itD_mkI, itD_mkF, itD_list, itD_tuple, add_int, sub_int, neg_int, sum_map, all_map, any_map, sl_mkI, sl_mkF, len_mkF, len_mkI, len_list, oInt, oTuple, List.length_map, List.length_cons, List.length_nil, List.map_nil, List.map_cons, List.cons_append, List.nil_append, List.replicate_succ, List.replicate_zero, List.set_cons_zero, List.set_cons_succ, List.getElem?_cons_zero, List.getElem?_cons_succ, List.all_cons, List.all_nil, Bool.and_true, Bool.true_and, Bool.and_false, Bool.false_and, Bool.not_true, Bool.not_false, if_true, if_false, ite_true, ite_false, Bool.false_eq_true, decide_true, decide_false, reduceIte, Nat.reduceLT, Nat.reduceSub, Nat.reduceAdd, Nat.zero_add, List.append_nil, Option.map_some, Option.map_none, gSortedSet, sset_natsS e1 hz]) fun n hn => by simp only [M.ret_bind, lft_ret, quiet_ret, ofO_some, sSeq, sRet, sPass, sIf, sSet, sRetN, sDrop, x1, x2, x3, xVar, xC, xIf, xAnd, xOr, xNot, bV, bAnd, bOr, bNot, fYes, aNil, aCons, xTup, xLst, xCall, gO, fE, eF, fFn, fLst, fSorted, iD, iA, fO, fNo, xSl, lcItem, gN, gN2, wipeE, lt_int, le_int, gt_int, ge_int, tInt_int, tBool_int, tTuple_mkI, tTuple_mkF, szOk_0, szOk_1, szOk_2, toB_bool, gIsi_ev, nd_int, nd_bool, nd_str, nd_mkI, nd_mkF, nd_tuple, nd_list, itD_mkI, itD_mkF, itD_list, itD_tuple, add_int, sub_int, neg_int, sum_map, all_map, any_map, sl_mkI, sl_mkF, len_mkF, len_mkI, len_list, oInt, oTuple, List.length_map, List.length_cons, List.length_nil, List.map_nil, List.map_cons, List.cons_append, List.nil_append, List.replicate_succ, List.replicate_zero, List.set_cons_zero, List.set_cons_succ, List.getElem?_cons_zero, List.getElem?_cons_succ, List.all_cons, List.all_nil, Bool.and_true, Bool.true_and, Bool.and_false, Bool.false_and, Bool.not_true, Bool.not_false, if_true, if_false, ite_true, ite_false, Bool.false_eq_true, decide_true, decide_false, reduceIte, Nat.reduceLT, Nat.reduceSub, Nat.reduceAdd, Nat.zero_add, List.append_nil, Option.map_some, Option.map_none, v_count_bits]; rfl
    refine gd_eq ?_ ⟨rfl, rfl⟩
    simp only [M.ret_bind, lft_ret, quiet_ret, ofO_some, sSeq, sRet, sPass, sIf, sSet, sRetN, sDrop, x1, x2, x3, xVar, xC, xIf, xAnd, xOr, xNot, bV, bAnd, bOr, bNot, fYes, aNil, aCons, xTup, xLst, xCall, gO, fE, eF, fFn, fLst, fSorted, iD, iA, fO, fNo, xSl, lcItem, gN, gN2, wipeE, lt_int, le_int, gt_int, ge_int, tInt_int, tBool_int, tTuple_mkI, tTuple_mkF, szOk_0, szOk_1, szOk_2, toB_bool, gIsi_ev, nd_int, nd_bool, nd_str, nd_mkI, nd_mkF, nd_tuple, nd_list, itD_mkI, itD_mkF, itD_list, itD_tuple, add_int, sub_int, neg_int, sum_map, all_map, any_map, sl_mkI, sl_mkF, len_mkF, len_mkI, len_list, oInt, oTuple, List.length_map, List.length_cons, List.length_nil, List.map_nil, List.map_cons, List.cons_append, List.nil_append, List.replicate_succ, List.replicate_zero, List.set_cons_zero, List.set_cons_succ, List.getElem?_cons_zero, List.getElem?_cons_succ, List.all_cons, List.all_nil, Bool.and_true, Bool.true_and, Bool.and_false, Bool.false_and, Bool.not_true, Bool.not_false, if_true, if_false, ite_true, ite_false, Bool.false_eq_true, decide_true, decide_false, reduceIte, Nat.reduceLT, Nat.reduceSub, Nat.reduceAdd, Nat.zero_add, List.append_nil, Option.map_some, Option.map_none, c0, sorted_keys e2 (fun _ => by simp)]
  refine eq_of_gd fun S => gd_fn ?_
  show Gd (b_least ([some (.list (ks.map fun n : Nat => .int (n : Int))), none, none, none, none], [])) S _
  unfold b_least
  refine gd_seq (gd_set (by simp) (gd_eq (a := (.list [], true)) rfl ?_))
  refine gd_seq (gd_for (gd_mono (c1 S) ?_))
  rintro r S' ⟨rfl, rfl⟩
  refine ⟨_, rfl, ?_⟩
  have fl : flatAll (ys.map fun n : Nat => mkI [(cnt n : Int), (n : Int)]) = true := by
    have := flatAll_mkI (ys.map fun n : Nat => [(cnt n : Int), (n : Int)])
    rw [List.map_map] at this
    exact this
  refine gd_loop ys (fun pre τ S1 => S1 = S' ∧ ∃ a b : Option D, τ = ([some (.list (ks.map fun n : Nat => .int (n : Int))), some (.list ((pre.filter (lone sbN ys)).map fun n : Nat => .int (n : Int))), a, b, none], [1])) ⟨rfl, none, none, ?_⟩ ?_ ?_
  · simp only [flatL, fl]
    rfl
  · rintro pre n post τ S1 e ⟨rfl, a, b, rfl⟩
    refine ⟨_, rfl, ?_⟩
    have c2 : xLc (iD (xVar 1)) (gN 4) [4] fYes (x2 gEq (x2 gAnd (xVar 4) (xVar 3)) (xVar 4)) [some (.list (ks.map fun n : Nat => .int (n : Int))), some (.list ((pre.filter (lone sbN ys)).map fun n : Nat => .int (n : Int))), some (.int (cnt n : Int)), some (.int (n : Int)), none] = M.ret (.list ((pre.filter (lone sbN ys)).map fun o : Nat => .bool (sbN o n))) :=
      xLc_map (fun n : Nat => .int (n : Int)) (fun o : Nat => .bool (sbN o n)) rfl fun o ho => by
        simp only [M.ret_bind, lft_ret, quiet_ret, ofO_some, sSeq, sRet, sPass, sIf, sSet, sRetN, sDrop, x1, x2, x3, xVar, xC, xIf, xAnd, xOr, xNot, bV, bAnd, bOr, bNot, fYes, aNil, aCons, xTup, xLst, xCall, gO, fE, eF, fFn, fLst, fSorted, iD, iA, fO, fNo, xSl, lcItem, gN, gN2, wipeE, lt_int, le_int, gt_int, ge_int, tInt_int, tBool_int, tTuple_mkI, tTuple_mkF, szOk_0, szOk_1, szOk_2, toB_bool, gIsi_ev, nd_int, nd_bool, nd_str, nd_mkI, nd_mkF, nd_tuple, nd_list, itD_mkI, itD_mkF, itD_list, itD_tuple, add_int, sub_int, neg_int, sum_map, all_map, any_map, sl_mkI, sl_mkF, len_mkF, len_mkI, len_list, oInt, oTuple, List.length_map, List.length_cons, List.length_nil, List.map_nil, List.map_cons, List.cons_append, List.nil_append, List.replicate_succ, List.replicate_zero, List.set_cons_zero, List.set_cons_succ, List.getElem?_cons_zero, List.getElem?_cons_succ, List.all_cons, List.all_nil, Bool.and_true, Bool.true_and, Bool.and_false, Bool.false_and, Bool.not_true, Bool.not_false, if_true, if_false, ite_true, ite_false, Bool.false_eq_true, decide_true, decide_false, reduceIte, Nat.reduceLT, Nat.reduceSub, Nat.reduceAdd, Nat.zero_add, List.append_nil, Option.map_some, Option.map_none, gAnd, bitAnd_nat, eq_int, nat_eq, sbN]
    have ps := pick_step W nd so e
    refine gd_if (gd_eq (a := lone sbN ys n) ?_ ⟨fun hl => ?_, fun hl => ?_⟩)
    · show bNot _ [some (.list (ks.map fun n : Nat => .int (n : Int))), some (.list ((pre.filter (lone sbN ys)).map fun n : Nat => .int (n : Int))), some (.int (cnt n : Int)), some (.int (n : Int)), none] = _
      simp only [M.ret_bind, lft_ret, quiet_ret, ofO_some, sSeq, sRet, sPass, sIf, sSet, sRetN, sDrop, x1, x2, x3, xVar, xC, xIf, xAnd, xOr, xNot, bV, bAnd, bOr, bNot, fYes, aNil, aCons, xTup, xLst, xCall, gO, fE, eF, fFn, fLst, fSorted, iD, iA, fO, fNo, xSl, lcItem, gN, gN2, wipeE, lt_int, le_int, gt_int, ge_int, tInt_int, tBool_int, tTuple_mkI, tTuple_mkF, szOk_0, szOk_1, szOk_2, toB_bool, gIsi_ev, nd_int, nd_bool, nd_str, nd_mkI, nd_mkF, nd_tuple, nd_list, itD_mkI, itD_mkF, itD_list, itD_tuple, add_int, sub_int, neg_int, sum_map, all_map, any_map, sl_mkI, sl_mkF, len_mkF, len_mkI, len_list, oInt, oTuple, List.length_map, List.length_cons, List.length_nil, List.map_nil, List.map_cons, List.cons_append, List.nil_append, List.replicate_succ, List.replicate_zero, List.set_cons_zero, List.set_cons_succ, List.getElem?_cons_zero, List.getElem?_cons_succ, List.all_cons, List.all_nil, Bool.and_true, Bool.true_and, Bool.and_false, Bool.false_and, Bool.not_true, Bool.not_false, if_true, if_false, ite_true, ite_false, Bool.false_eq_true, decide_true, decide_false, reduceIte, Nat.reduceLT, Nat.reduceSub, Nat.reduceAdd, Nat.zero_add, List.append_nil, Option.map_some, Option.map_none, c2, ps, Bool.not_not]
    · refine gd_app (es := (pre.filter (lone sbN ys)).map fun n : Nat => .int (n : Int)) List.mem_cons_self rfl ?_ (gd_eq (a := .int (n : Int)) rfl ⟨rfl, rfl, some (.int (cnt n : Int)), some (.int (n : Int)), ?_⟩)
      · refine decide_eq_true ?_
        have l1 := nats_few nd fun x hx => hz x ((mm x).mp hx)
        have l2 := List.length_filter_le (lone sbN ys) pre
        have l3 := congrArg List.length e
        rw [List.length_append] at l3
        rw [List.length_map]
        omega
      · rw [filt_yes hl, List.map_append]
        rfl
    · refine gd_pass ⟨rfl, some (.int (cnt n : Int)), some (.int (n : Int)), ?_⟩
      rw [filt_no hl]
      rfl
  · rintro τ S1 ⟨rfl, a, b, rfl⟩
    exact ⟨_, _, rfl, rfl, rfl⟩
theorem v_form_by {low : Int} {ms : List (List Int)} (hm : ∀ m, m ∈ ms → In10 low m) (hf : ∀ m, m ∈ ms → m ≠ []) : F_form_by [.list (ms.map fun m => .int (enc low m)), .int low] = M.ret (mkF (mins ms), false) := by
  have em : (ms.map fun m => PyData.int (enc low m)) = (ms.map (enc low)).map fun n : Nat => PyData.int (n : Int) := by rw [List.map_map]; rfl
  obtain ⟨ys, fr, nd, mm, e⟩ := v_least (ks := ms.map (enc low)) (encs_few hm) fun ys n1 n2 => (num_lone hm n1 n2).1
  have e2 := (num_lone hm nd mm).2
  have hmm : ∀ m, m ∈ (ys.filter (lone sbN ys)).map (dec low) → m ≠ [] := fun m h => by
    obtain ⟨n, hn, rfl⟩ := List.mem_map.mp h
    obtain ⟨m', h', z⟩ := List.mem_map.mp ((mm n).mp (List.mem_filter.mp hn).1)
    rw [← z, dec_enc (hm m' h')]
    exact hf m' h'
  have c1 : xLc (iD (eF (fFn F_least 1 (aCons (xVar 0) aNil)))) (gN 2) [2] fYes (eF (fFn F_mask_of 2 (aCons (xVar 2) (aCons (xVar 1) aNil)))) [some (.list (ms.map fun m => .int (enc low m))), some (.int low), none] = M.ret (.list (((ys.filter (lone sbN ys)).map (dec low)).map mkI)) := by
    rw [List.map_map]
    exact xLc_map (fun n : Nat => .int (n : Int)) (fun n : Nat => mkI (dec low n)) (by simp only [M.ret_bind, lft_ret, quiet_ret, ofO_some, sSeq, sRet, sPass, sIf, sSet, sRetN, sDrop, x1, x2, x3, xVar, xC, xIf, xAnd, xOr, xNot, bV, bAnd, bOr, bNot, fYes, aNil, aCons, xTup, xLst, xCall, gO, fE, eF, fFn, fLst, fSorted, iD, iA, fO, fNo, xSl, lcItem, gN, gN2, wipeE, lt_int, le_int, gt_int, ge_int, tInt_int, tBool_int, tTuple_mkI, tTuple_mkF, szOk_0, szOk_1, szOk_2, toB_bool, gIsi_ev, nd_int, nd_bool, nd_str, nd_mkI, nd_mkF, nd_tuple, nd_list, itD_mkI, itD_mkF, itD_list, itD_tuple, add_int, sub_int, neg_int, sum_map, all_map, any_map, sl_mkI, sl_mkF, len_mkF, len_mkI, len_list, oInt, oTuple, List.length_map, List.length_cons, List.length_nil, List.map_nil, List.map_cons, List.cons_append, List.nil_append, List.replicate_succ, List.replicate_zero, List.set_cons_zero, List.set_cons_succ, List.getElem?_cons_zero, List.getElem?_cons_succ, List.all_cons, List.all_nil, Bool.and_true, Bool.true_and, Bool.and_false, Bool.false_and, Bool.not_true, Bool.not_false, if_true, if_false, ite_true, ite_false, Bool.false_eq_true, decide_true, decide_false, reduceIte, Nat.reduceLT, Nat.reduceSub, Nat.reduceAdd, Nat.zero_add, List.append_nil, Option.map_some, Option.map_none, em, e]) fun n hn => by simp only [M.ret_bind, lft_ret, quiet_ret, ofO_some, sSeq, sRet, sPass, sIf, sSet, sRetN, sDrop, x1, x2, x3, xVar, xC, xIf, xAnd, xOr, xNot, bV, bAnd, bOr, bNot, fYes, aNil, aCons, xTup, xLst, xCall, gO, fE, eF, fFn, fLst, fSorted, iD, iA, fO, fNo, xSl, lcItem, gN, gN2, wipeE, lt_int, le_int, gt_int, ge_int, tInt_int, tBool_int, tTuple_mkI, tTuple_mkF, szOk_0, szOk_1, szOk_2, toB_bool, gIsi_ev, nd_int, nd_bool, nd_str, nd_mkI, nd_mkF, nd_tuple, nd_list, itD_mkI, itD_mkF, itD_list, itD_tuple, add_int, sub_int, neg_int, sum_map, all_map, any_map, sl_mkI, sl_mkF, len_mkF, len_mkI, len_list, oInt, oTuple, List.length_map, List.length_cons, List.length_nil, List.map_nil, List.map_cons, List.cons_append, List.nil_append, List.replicate_succ, List.replicate_zero, List.set_cons_zero, List.set_cons_succ, List.getElem?_cons_zero, List.getElem?_cons_succ, List.all_cons, List.all_nil, Bool.and_true, Bool.true_and, Bool.and_false, Bool.false_and, Bool.not_true, Bool.not_false, if_true, if_false, ite_true, ite_false, Bool.false_eq_true, decide_true, decide_false, reduceIte, Nat.reduceLT, Nat.reduceSub, Nat.reduceAdd, Nat.zero_add, List.append_nil, Option.map_some, Option.map_none, v_mask_of]
  refine fn_ret (τ := ([some (.list (ms.map fun m => .int (enc low m))), some (.int low), none], [])) ?_
  show b_form_by ([some (.list (ms.map fun m => .int (enc low m))), some (.int low), none], []) = _
  unfold b_form_by
  simp only [M.ret_bind, lft_ret, quiet_ret, ofO_some, sSeq, sRet, sPass, sIf, sSet, sRetN, sDrop, x1, x2, x3, xVar, xC, xIf, xAnd, xOr, xNot, bV, bAnd, bOr, bNot, fYes, aNil, aCons, xTup, xLst, xCall, gO, fE, eF, fFn, fLst, fSorted, iD, iA, fO, fNo, xSl, lcItem, gN, gN2, wipeE, lt_int, le_int, gt_int, ge_int, tInt_int, tBool_int, tTuple_mkI, tTuple_mkF, szOk_0, szOk_1, szOk_2, toB_bool, gIsi_ev, nd_int, nd_bool, nd_str, nd_mkI, nd_mkF, nd_tuple, nd_list, itD_mkI, itD_mkF, itD_list, itD_tuple, add_int, sub_int, neg_int, sum_map, all_map, any_map, sl_mkI, sl_mkF, len_mkF, len_mkI, len_list, oInt, oTuple, List.length_map, List.length_cons, List.length_nil, List.map_nil, List.map_cons, List.cons_append, List.nil_append, List.replicate_succ, List.replicate_zero, List.set_cons_zero, List.set_cons_succ, List.getElem?_cons_zero, List.getElem?_cons_succ, List.all_cons, List.all_nil, Bool.and_true, Bool.true_and, Bool.and_false, Bool.false_and, Bool.not_true, Bool.not_false, if_true, if_false, ite_true, ite_false, Bool.false_eq_true, decide_true, decide_false, reduceIte, Nat.reduceLT, Nat.reduceSub, Nat.reduceAdd, Nat.zero_add, List.append_nil, Option.map_some, Option.map_none, c1, sorted_mkI hmm, e2]
  rfl
theorem v_form_for {ms : List (List Int)} (h : Mks ms) (hs : span ms ≤ 8) : F_form_for [mkF ms] = M.ret (mkF (mins ms), false) := by
  refine fn_ret (τ := ([some (mkF ms), some (.int (lowL ms))], [])) ?_
  show b_form_for ([some (mkF ms), none], []) = _
  unfold b_form_for
  simp only [M.ret_bind, lft_ret, quiet_ret, ofO_some, sSeq, sRet, sPass, sIf, sSet, sRetN, sDrop, x1, x2, x3, xVar, xC, xIf, xAnd, xOr, xNot, bV, bAnd, bOr, bNot, fYes, aNil, aCons, xTup, xLst, xCall, gO, fE, eF, fFn, fLst, fSorted, iD, iA, fO, fNo, xSl, lcItem, gN, gN2, wipeE, lt_int, le_int, gt_int, ge_int, tInt_int, tBool_int, tTuple_mkI, tTuple_mkF, szOk_0, szOk_1, szOk_2, toB_bool, gIsi_ev, nd_int, nd_bool, nd_str, nd_mkI, nd_mkF, nd_tuple, nd_list, itD_mkI, itD_mkF, itD_list, itD_tuple, add_int, sub_int, neg_int, sum_map, all_map, any_map, sl_mkI, sl_mkF, len_mkF, len_mkI, len_list, oInt, oTuple, List.length_map, List.length_cons, List.length_nil, List.map_nil, List.map_cons, List.cons_append, List.nil_append, List.replicate_succ, List.replicate_zero, List.set_cons_zero, List.set_cons_succ, List.getElem?_cons_zero, List.getElem?_cons_succ, List.all_cons, List.all_nil, Bool.and_true, Bool.true_and, Bool.and_false, Bool.false_and, Bool.not_true, Bool.not_false, if_true, if_false, ite_true, ite_false, Bool.false_eq_true, decide_true, decide_false, reduceIte, Nat.reduceLT, Nat.reduceSub, Nat.reduceAdd, Nat.zero_add, List.append_nil, Option.map_some, Option.map_none, v_low_of h.full h.some, List.length_cons, asg, stb, flat, hOf]
  have e := v_numbers_of (h.in10 hs)
  have e2 := v_form_by (h.in10 hs) h.full
  simp only [lowL] at e e2 ⊢
  simp only [M.ret_bind, lft_ret, quiet_ret, ofO_some, sSeq, sRet, sPass, sIf, sSet, sRetN, sDrop, x1, x2, x3, xVar, xC, xIf, xAnd, xOr, xNot, bV, bAnd, bOr, bNot, fYes, aNil, aCons, xTup, xLst, xCall, gO, fE, eF, fFn, fLst, fSorted, iD, iA, fO, fNo, xSl, lcItem, gN, gN2, wipeE, lt_int, le_int, gt_int, ge_int, tInt_int, tBool_int, tTuple_mkI, tTuple_mkF, szOk_0, szOk_1, szOk_2, toB_bool, gIsi_ev, nd_int, nd_bool, nd_str, nd_mkI, nd_mkF, nd_tuple, nd_list, itD_mkI, itD_mkF, itD_list, itD_tuple, add_int, sub_int, neg_int, sum_map, all_map, any_map, sl_mkI, sl_mkF, len_mkF, len_mkI, len_list, oInt, oTuple, List.length_map, List.length_cons, List.length_nil, List.map_nil, List.map_cons, List.cons_append, List.nil_append, List.replicate_succ, List.replicate_zero, List.set_cons_zero, List.set_cons_succ, List.getElem?_cons_zero, List.getElem?_cons_succ, List.all_cons, List.all_nil, Bool.and_true, Bool.true_and, Bool.and_false, Bool.false_and, Bool.not_true, Bool.not_false, if_true, if_false, ite_true, ite_false, Bool.false_eq_true, decide_true, decide_false, reduceIte, Nat.reduceLT, Nat.reduceSub, Nat.reduceAdd, Nat.zero_add, List.append_nil, Option.map_some, Option.map_none, e, e2]
  rfl
theorem v_is_filter {ms : List (List Int)} (h : Mks ms) (hs : span ms ≤ 8) (hz : ms.length ≤ 130) : F_is_filter [mkF ms] = M.ret (.bool (decide (mins ms = ms)), false) := by
  refine fn_ret (τ := ([some (mkF ms)], [])) ?_
  show b_is_filter ([some (mkF ms)], []) = _
  unfold b_is_filter
  simp only [M.ret_bind, lft_ret, quiet_ret, ofO_some, sSeq, sRet, sPass, sIf, sSet, sRetN, sDrop, x1, x2, x3, xVar, xC, xIf, xAnd, xOr, xNot, bV, bAnd, bOr, bNot, fYes, aNil, aCons, xTup, xLst, xCall, gO, fE, eF, fFn, fLst, fSorted, iD, iA, fO, fNo, xSl, lcItem, gN, gN2, wipeE, lt_int, le_int, gt_int, ge_int, tInt_int, tBool_int, tTuple_mkI, tTuple_mkF, szOk_0, szOk_1, szOk_2, toB_bool, gIsi_ev, nd_int, nd_bool, nd_str, nd_mkI, nd_mkF, nd_tuple, nd_list, itD_mkI, itD_mkF, itD_list, itD_tuple, add_int, sub_int, neg_int, sum_map, all_map, any_map, sl_mkI, sl_mkF, len_mkF, len_mkI, len_list, oInt, oTuple, List.length_map, List.length_cons, List.length_nil, List.map_nil, List.map_cons, List.cons_append, List.nil_append, List.replicate_succ, List.replicate_zero, List.set_cons_zero, List.set_cons_succ, List.getElem?_cons_zero, List.getElem?_cons_succ, List.all_cons, List.all_nil, Bool.and_true, Bool.true_and, Bool.and_false, Bool.false_and, Bool.not_true, Bool.not_false, if_true, if_false, ite_true, ite_false, Bool.false_eq_true, decide_true, decide_false, reduceIte, Nat.reduceLT, Nat.reduceSub, Nat.reduceAdd, Nat.zero_add, List.append_nil, Option.map_some, Option.map_none, v_is_masks h, decide_eq_true hs, C_MOST_MASKS, v_form_for h hs, eq_mkF]
  rw [decide_eq_true (show (ms.length : Int) ≤ 130 by omega)]
  rfl
theorem v_need_filter {ms : List (List Int)} (h : Mks ms) (hs : span ms ≤ 8) (hz : ms.length ≤ 130) (hm : mins ms = ms) : F_need_filter [mkF ms] = M.ret (.none, false) := by
  refine eq_of_gd fun S => gd_fn ?_
  show Gd (b_need_filter ([some (mkF ms)], [])) S _
  refine ⟨(.nx, ([some (mkF ms)], [])), S, ?_, rfl, rfl⟩
  show b_need_filter ([some (mkF ms)], []) S = M.ret _ S
  congr 1
  unfold b_need_filter
  simp only [M.ret_bind, lft_ret, quiet_ret, ofO_some, sSeq, sRet, sPass, sIf, sSet, sRetN, sDrop, x1, x2, x3, xVar, xC, xIf, xAnd, xOr, xNot, bV, bAnd, bOr, bNot, fYes, aNil, aCons, xTup, xLst, xCall, gO, fE, eF, fFn, fLst, fSorted, iD, iA, fO, fNo, xSl, lcItem, gN, gN2, wipeE, lt_int, le_int, gt_int, ge_int, tInt_int, tBool_int, tTuple_mkI, tTuple_mkF, szOk_0, szOk_1, szOk_2, toB_bool, gIsi_ev, nd_int, nd_bool, nd_str, nd_mkI, nd_mkF, nd_tuple, nd_list, itD_mkI, itD_mkF, itD_list, itD_tuple, add_int, sub_int, neg_int, sum_map, all_map, any_map, sl_mkI, sl_mkF, len_mkF, len_mkI, len_list, oInt, oTuple, List.length_map, List.length_cons, List.length_nil, List.map_nil, List.map_cons, List.cons_append, List.nil_append, List.replicate_succ, List.replicate_zero, List.set_cons_zero, List.set_cons_succ, List.getElem?_cons_zero, List.getElem?_cons_succ, List.all_cons, List.all_nil, Bool.and_true, Bool.true_and, Bool.and_false, Bool.false_and, Bool.not_true, Bool.not_false, if_true, if_false, ite_true, ite_false, Bool.false_eq_true, decide_true, decide_false, reduceIte, Nat.reduceLT, Nat.reduceSub, Nat.reduceAdd, Nat.zero_add, List.append_nil, Option.map_some, Option.map_none, v_is_filter h hs hz, decide_eq_true hm]
theorem v_is_ring {bs : List Bool} (h1 : 1 ≤ bs.length) (h2 : bs.length ≤ 24) : F_is_ring [rt bs] = M.ret (.bool true, false) := by
  have c1 : xLc (iD (xVar 0)) (gN 1) [1] fYes (x2 gIn (xVar 1) (xTup (aCons (xC C_DOT) (aCons (xC C_BLANK) aNil)))) [some (rt bs), none] = M.ret (.list (bs.map fun _ => .bool true)) :=
    xLc_map sgD (fun _ => .bool true) (by simp only [M.ret_bind, lft_ret, quiet_ret, ofO_some, sSeq, sRet, sPass, sIf, sSet, sRetN, sDrop, x1, x2, x3, xVar, xC, xIf, xAnd, xOr, xNot, bV, bAnd, bOr, bNot, fYes, aNil, aCons, xTup, xLst, xCall, gO, fE, eF, fFn, fLst, fSorted, iD, iA, fO, fNo, xSl, lcItem, gN, gN2, wipeE, lt_int, le_int, gt_int, ge_int, tInt_int, tBool_int, tTuple_mkI, tTuple_mkF, szOk_0, szOk_1, szOk_2, toB_bool, gIsi_ev, nd_int, nd_bool, nd_str, nd_mkI, nd_mkF, nd_tuple, nd_list, itD_mkI, itD_mkF, itD_list, itD_tuple, add_int, sub_int, neg_int, sum_map, all_map, any_map, sl_mkI, sl_mkF, len_mkF, len_mkI, len_list, oInt, oTuple, List.length_map, List.length_cons, List.length_nil, List.map_nil, List.map_cons, List.cons_append, List.nil_append, List.replicate_succ, List.replicate_zero, List.set_cons_zero, List.set_cons_succ, List.getElem?_cons_zero, List.getElem?_cons_succ, List.all_cons, List.all_nil, Bool.and_true, Bool.true_and, Bool.and_false, Bool.false_and, Bool.not_true, Bool.not_false, if_true, if_false, ite_true, ite_false, Bool.false_eq_true, decide_true, decide_false, reduceIte, Nat.reduceLT, Nat.reduceSub, Nat.reduceAdd, Nat.zero_add, List.append_nil, Option.map_some, Option.map_none, it_rt (show bs.length ≤ 1000 by omega)]) fun b hb => by simp only [M.ret_bind, lft_ret, quiet_ret, ofO_some, sSeq, sRet, sPass, sIf, sSet, sRetN, sDrop, x1, x2, x3, xVar, xC, xIf, xAnd, xOr, xNot, bV, bAnd, bOr, bNot, fYes, aNil, aCons, xTup, xLst, xCall, gO, fE, eF, fFn, fLst, fSorted, iD, iA, fO, fNo, xSl, lcItem, gN, gN2, wipeE, lt_int, le_int, gt_int, ge_int, tInt_int, tBool_int, tTuple_mkI, tTuple_mkF, szOk_0, szOk_1, szOk_2, toB_bool, gIsi_ev, nd_int, nd_bool, nd_str, nd_mkI, nd_mkF, nd_tuple, nd_list, itD_mkI, itD_mkF, itD_list, itD_tuple, add_int, sub_int, neg_int, sum_map, all_map, any_map, sl_mkI, sl_mkF, len_mkF, len_mkI, len_list, oInt, oTuple, List.length_map, List.length_cons, List.length_nil, List.map_nil, List.map_cons, List.cons_append, List.nil_append, List.replicate_succ, List.replicate_zero, List.set_cons_zero, List.set_cons_succ, List.getElem?_cons_zero, List.getElem?_cons_succ, List.all_cons, List.all_nil, Bool.and_true, Bool.true_and, Bool.and_false, Bool.false_and, Bool.not_true, Bool.not_false, if_true, if_false, ite_true, ite_false, Bool.false_eq_true, decide_true, decide_false, reduceIte, Nat.reduceLT, Nat.reduceSub, Nat.reduceAdd, Nat.zero_add, List.append_nil, Option.map_some, Option.map_none, C_DOT, C_BLANK, in_sg]
  have a1 : (bs.all fun _ => true) = true := List.all_eq_true.mpr fun _ _ => rfl
  refine fn_ret (τ := ([some (rt bs), none], [])) ?_
  show b_is_ring ([some (rt bs), none], []) = _
  unfold b_is_ring
  simp only [M.ret_bind, lft_ret, quiet_ret, ofO_some, sSeq, sRet, sPass, sIf, sSet, sRetN, sDrop, x1, x2, x3, xVar, xC, xIf, xAnd, xOr, xNot, bV, bAnd, bOr, bNot, fYes, aNil, aCons, xTup, xLst, xCall, gO, fE, eF, fFn, fLst, fSorted, iD, iA, fO, fNo, xSl, lcItem, gN, gN2, wipeE, lt_int, le_int, gt_int, ge_int, tInt_int, tBool_int, tTuple_mkI, tTuple_mkF, szOk_0, szOk_1, szOk_2, toB_bool, gIsi_ev, nd_int, nd_bool, nd_str, nd_mkI, nd_mkF, nd_tuple, nd_list, itD_mkI, itD_mkF, itD_list, itD_tuple, add_int, sub_int, neg_int, sum_map, all_map, any_map, sl_mkI, sl_mkF, len_mkF, len_mkI, len_list, oInt, oTuple, List.length_map, List.length_cons, List.length_nil, List.map_nil, List.map_cons, List.cons_append, List.nil_append, List.replicate_succ, List.replicate_zero, List.set_cons_zero, List.set_cons_succ, List.getElem?_cons_zero, List.getElem?_cons_succ, List.all_cons, List.all_nil, Bool.and_true, Bool.true_and, Bool.and_false, Bool.false_and, Bool.not_true, Bool.not_false, if_true, if_false, ite_true, ite_false, Bool.false_eq_true, decide_true, decide_false, reduceIte, Nat.reduceLT, Nat.reduceSub, Nat.reduceAdd, Nat.zero_add, List.append_nil, Option.map_some, Option.map_none, c1, a1, tStr_rt, len_rt (show bs.length ≤ 1000 by omega), C_MOST_PLACES, decide_eq_true (show (1 : Int) ≤ bs.length by omega), decide_eq_true (show (bs.length : Int) ≤ 24 by omega)]
theorem v_need_ring {bs : List Bool} (h1 : 1 ≤ bs.length) (h2 : bs.length ≤ 24) : F_need_ring [rt bs] = M.ret (.none, false) := by
  refine eq_of_gd fun S => gd_fn ?_
  show Gd (b_need_ring ([some (rt bs)], [])) S _
  refine ⟨(.nx, ([some (rt bs)], [])), S, ?_, rfl, rfl⟩
  show b_need_ring ([some (rt bs)], []) S = M.ret _ S
  congr 1
  unfold b_need_ring
  simp only [M.ret_bind, lft_ret, quiet_ret, ofO_some, sSeq, sRet, sPass, sIf, sSet, sRetN, sDrop, x1, x2, x3, xVar, xC, xIf, xAnd, xOr, xNot, bV, bAnd, bOr, bNot, fYes, aNil, aCons, xTup, xLst, xCall, gO, fE, eF, fFn, fLst, fSorted, iD, iA, fO, fNo, xSl, lcItem, gN, gN2, wipeE, lt_int, le_int, gt_int, ge_int, tInt_int, tBool_int, tTuple_mkI, tTuple_mkF, szOk_0, szOk_1, szOk_2, toB_bool, gIsi_ev, nd_int, nd_bool, nd_str, nd_mkI, nd_mkF, nd_tuple, nd_list, itD_mkI, itD_mkF, itD_list, itD_tuple, add_int, sub_int, neg_int, sum_map, all_map, any_map, sl_mkI, sl_mkF, len_mkF, len_mkI, len_list, oInt, oTuple, List.length_map, List.length_cons, List.length_nil, List.map_nil, List.map_cons, List.cons_append, List.nil_append, List.replicate_succ, List.replicate_zero, List.set_cons_zero, List.set_cons_succ, List.getElem?_cons_zero, List.getElem?_cons_succ, List.all_cons, List.all_nil, Bool.and_true, Bool.true_and, Bool.and_false, Bool.false_and, Bool.not_true, Bool.not_false, if_true, if_false, ite_true, ite_false, Bool.false_eq_true, decide_true, decide_false, reduceIte, Nat.reduceLT, Nat.reduceSub, Nat.reduceAdd, Nat.zero_add, List.append_nil, Option.map_some, Option.map_none, v_is_ring h1 h2]
theorem v_has_dot {ms : List (List Int)} {bs : List Bool} (h1 : 0 < bs.length) (h2 : bs.length ≤ 1000) (p : Int) : F_has_dot [mkF ms, rt bs, .int p] = M.ret (.bool (hd ms bs p), false) := by
  have c0 : ∀ m : List Int, xLc (iD (xVar 5)) (gN 4) [4] fYes (x2 gEq (x2 gIx (xVar 1) (x2 gMod (x2 gAdd (xVar 2) (xVar 4)) (xVar 3))) (xC C_DOT)) [some (mkF ms), some (rt bs), some (.int p), some (.int bs.length), none, some (mkI m)] = M.ret (.list (m.map fun o => .bool (cyc bs (p + o)))) := fun m =>
    xLc_map PyData.int (fun o => .bool (cyc bs (p + o))) rfl fun o ho => by simp only [M.ret_bind, lft_ret, quiet_ret, ofO_some, sSeq, sRet, sPass, sIf, sSet, sRetN, sDrop, x1, x2, x3, xVar, xC, xIf, xAnd, xOr, xNot, bV, bAnd, bOr, bNot, fYes, aNil, aCons, xTup, xLst, xCall, gO, fE, eF, fFn, fLst, fSorted, iD, iA, fO, fNo, xSl, lcItem, gN, gN2, wipeE, lt_int, le_int, gt_int, ge_int, tInt_int, tBool_int, tTuple_mkI, tTuple_mkF, szOk_0, szOk_1, szOk_2, toB_bool, gIsi_ev, nd_int, nd_bool, nd_str, nd_mkI, nd_mkF, nd_tuple, nd_list, itD_mkI, itD_mkF, itD_list, itD_tuple, add_int, sub_int, neg_int, sum_map, all_map, any_map, sl_mkI, sl_mkF, len_mkF, len_mkI, len_list, oInt, oTuple, List.length_map, List.length_cons, List.length_nil, List.map_nil, List.map_cons, List.cons_append, List.nil_append, List.replicate_succ, List.replicate_zero, List.set_cons_zero, List.set_cons_succ, List.getElem?_cons_zero, List.getElem?_cons_succ, List.all_cons, List.all_nil, Bool.and_true, Bool.true_and, Bool.and_false, Bool.false_and, Bool.not_true, Bool.not_false, if_true, if_false, ite_true, ite_false, Bool.false_eq_true, decide_true, decide_false, reduceIte, Nat.reduceLT, Nat.reduceSub, Nat.reduceAdd, Nat.zero_add, List.append_nil, Option.map_some, Option.map_none, mod_len h1, ix_rt h2 h1, C_DOT, eq_sg]
  have c1 : xLc (iD (xVar 0)) (gN 5) [5] fYes (xCall (gO oAll) (aCons (xLc (iD (xVar 5)) (gN 4) [4] fYes (x2 gEq (x2 gIx (xVar 1) (x2 gMod (x2 gAdd (xVar 2) (xVar 4)) (xVar 3))) (xC C_DOT))) aNil)) [some (mkF ms), some (rt bs), some (.int p), some (.int bs.length), none, none] = M.ret (.list (ms.map fun m => .bool (m.all fun o => cyc bs (p + o)))) :=
    xLc_map mkI (fun m => .bool (m.all fun o => cyc bs (p + o))) rfl fun m hm => by simp only [M.ret_bind, lft_ret, quiet_ret, ofO_some, sSeq, sRet, sPass, sIf, sSet, sRetN, sDrop, x1, x2, x3, xVar, xC, xIf, xAnd, xOr, xNot, bV, bAnd, bOr, bNot, fYes, aNil, aCons, xTup, xLst, xCall, gO, fE, eF, fFn, fLst, fSorted, iD, iA, fO, fNo, xSl, lcItem, gN, gN2, wipeE, lt_int, le_int, gt_int, ge_int, tInt_int, tBool_int, tTuple_mkI, tTuple_mkF, szOk_0, szOk_1, szOk_2, toB_bool, gIsi_ev, nd_int, nd_bool, nd_str, nd_mkI, nd_mkF, nd_tuple, nd_list, itD_mkI, itD_mkF, itD_list, itD_tuple, add_int, sub_int, neg_int, sum_map, all_map, any_map, sl_mkI, sl_mkF, len_mkF, len_mkI, len_list, oInt, oTuple, List.length_map, List.length_cons, List.length_nil, List.map_nil, List.map_cons, List.cons_append, List.nil_append, List.replicate_succ, List.replicate_zero, List.set_cons_zero, List.set_cons_succ, List.getElem?_cons_zero, List.getElem?_cons_succ, List.all_cons, List.all_nil, Bool.and_true, Bool.true_and, Bool.and_false, Bool.false_and, Bool.not_true, Bool.not_false, if_true, if_false, ite_true, ite_false, Bool.false_eq_true, decide_true, decide_false, reduceIte, Nat.reduceLT, Nat.reduceSub, Nat.reduceAdd, Nat.zero_add, List.append_nil, Option.map_some, Option.map_none, c0]
  refine fn_ret (τ := ([some (mkF ms), some (rt bs), some (.int p), some (.int bs.length), none, none], [])) ?_
  show b_has_dot ([some (mkF ms), some (rt bs), some (.int p), none, none, none], []) = _
  unfold b_has_dot
  simp only [M.ret_bind, lft_ret, quiet_ret, ofO_some, sSeq, sRet, sPass, sIf, sSet, sRetN, sDrop, x1, x2, x3, xVar, xC, xIf, xAnd, xOr, xNot, bV, bAnd, bOr, bNot, fYes, aNil, aCons, xTup, xLst, xCall, gO, fE, eF, fFn, fLst, fSorted, iD, iA, fO, fNo, xSl, lcItem, gN, gN2, wipeE, lt_int, le_int, gt_int, ge_int, tInt_int, tBool_int, tTuple_mkI, tTuple_mkF, szOk_0, szOk_1, szOk_2, toB_bool, gIsi_ev, nd_int, nd_bool, nd_str, nd_mkI, nd_mkF, nd_tuple, nd_list, itD_mkI, itD_mkF, itD_list, itD_tuple, add_int, sub_int, neg_int, sum_map, all_map, any_map, sl_mkI, sl_mkF, len_mkF, len_mkI, len_list, oInt, oTuple, List.length_map, List.length_cons, List.length_nil, List.map_nil, List.map_cons, List.cons_append, List.nil_append, List.replicate_succ, List.replicate_zero, List.set_cons_zero, List.set_cons_succ, List.getElem?_cons_zero, List.getElem?_cons_succ, List.all_cons, List.all_nil, Bool.and_true, Bool.true_and, Bool.and_false, Bool.false_and, Bool.not_true, Bool.not_false, if_true, if_false, ite_true, ite_false, Bool.false_eq_true, decide_true, decide_false, reduceIte, Nat.reduceLT, Nat.reduceSub, Nat.reduceAdd, Nat.zero_add, List.append_nil, Option.map_some, Option.map_none, len_rt h2, asg, stb, flat, hOf, flatL, Bool.or_false, Bool.true_or, List.filter_nil, c1, hd]
theorem v_apply {ms : List (List Int)} {bs : List Bool} (h1 : 0 < bs.length) (h2 : bs.length ≤ 1000) : F_apply [mkF ms, rt bs] = M.ret (rt (app ms bs), false) := by
  have c1 : xLc (iA oRg1 (aCons (xCall (gO oLen) (aCons (xVar 1) aNil)) aNil)) (gN 2) [2] fYes (xIf (bV (eF (fFn F_has_dot 3 (aCons (xVar 0) (aCons (xVar 1) (aCons (xVar 2) aNil)))))) (xC C_DOT) (xC C_BLANK)) [some (mkF ms), some (rt bs), none] = M.ret (.list ((app ms bs).map sgD)) := by
    rw [app_sg]
    refine xLc_map (fun i : Nat => .int (i : Int)) (fun i : Nat => sgD (hd ms bs (i : Int))) (iA_rg (by simp only [M.ret_bind, lft_ret, quiet_ret, ofO_some, sSeq, sRet, sPass, sIf, sSet, sRetN, sDrop, x1, x2, x3, xVar, xC, xIf, xAnd, xOr, xNot, bV, bAnd, bOr, bNot, fYes, aNil, aCons, xTup, xLst, xCall, gO, fE, eF, fFn, fLst, fSorted, iD, iA, fO, fNo, xSl, lcItem, gN, gN2, wipeE, lt_int, le_int, gt_int, ge_int, tInt_int, tBool_int, tTuple_mkI, tTuple_mkF, szOk_0, szOk_1, szOk_2, toB_bool, gIsi_ev, nd_int, nd_bool, nd_str, nd_mkI, nd_mkF, nd_tuple, nd_list, itD_mkI, itD_mkF, itD_list, itD_tuple, add_int, sub_int, neg_int, sum_map, all_map, any_map, sl_mkI, sl_mkF, len_mkF, len_mkI, len_list, oInt, oTuple, List.length_map, List.length_cons, List.length_nil, List.map_nil, List.map_cons, List.cons_append, List.nil_append, List.replicate_succ, List.replicate_zero, List.set_cons_zero, List.set_cons_succ, List.getElem?_cons_zero, List.getElem?_cons_succ, List.all_cons, List.all_nil, Bool.and_true, Bool.true_and, Bool.and_false, Bool.false_and, Bool.not_true, Bool.not_false, if_true, if_false, ite_true, ite_false, Bool.false_eq_true, decide_true, decide_false, reduceIte, Nat.reduceLT, Nat.reduceSub, Nat.reduceAdd, Nat.zero_add, List.append_nil, Option.map_some, Option.map_none, len_rt h2]) h2) fun i hi => ?_
    simp only [M.ret_bind, lft_ret, quiet_ret, ofO_some, sSeq, sRet, sPass, sIf, sSet, sRetN, sDrop, x1, x2, x3, xVar, xC, xIf, xAnd, xOr, xNot, bV, bAnd, bOr, bNot, fYes, aNil, aCons, xTup, xLst, xCall, gO, fE, eF, fFn, fLst, fSorted, iD, iA, fO, fNo, xSl, lcItem, gN, gN2, wipeE, lt_int, le_int, gt_int, ge_int, tInt_int, tBool_int, tTuple_mkI, tTuple_mkF, szOk_0, szOk_1, szOk_2, toB_bool, gIsi_ev, nd_int, nd_bool, nd_str, nd_mkI, nd_mkF, nd_tuple, nd_list, itD_mkI, itD_mkF, itD_list, itD_tuple, add_int, sub_int, neg_int, sum_map, all_map, any_map, sl_mkI, sl_mkF, len_mkF, len_mkI, len_list, oInt, oTuple, List.length_map, List.length_cons, List.length_nil, List.map_nil, List.map_cons, List.cons_append, List.nil_append, List.replicate_succ, List.replicate_zero, List.set_cons_zero, List.set_cons_succ, List.getElem?_cons_zero, List.getElem?_cons_succ, List.all_cons, List.all_nil, Bool.and_true, Bool.true_and, Bool.and_false, Bool.false_and, Bool.not_true, Bool.not_false, if_true, if_false, ite_true, ite_false, Bool.false_eq_true, decide_true, decide_false, reduceIte, Nat.reduceLT, Nat.reduceSub, Nat.reduceAdd, Nat.zero_add, List.append_nil, Option.map_some, Option.map_none, v_has_dot h1 h2, C_DOT, C_BLANK, dot_sg, blank_sg]
    cases hd ms bs (i : Int) <;> rfl
  refine fn_ret (τ := ([some (mkF ms), some (rt bs), none], [])) ?_
  show b_apply ([some (mkF ms), some (rt bs), none], []) = _
  unfold b_apply
  simp only [M.ret_bind, lft_ret, quiet_ret, ofO_some, sSeq, sRet, sPass, sIf, sSet, sRetN, sDrop, x1, x2, x3, xVar, xC, xIf, xAnd, xOr, xNot, bV, bAnd, bOr, bNot, fYes, aNil, aCons, xTup, xLst, xCall, gO, fE, eF, fFn, fLst, fSorted, iD, iA, fO, fNo, xSl, lcItem, gN, gN2, wipeE, lt_int, le_int, gt_int, ge_int, tInt_int, tBool_int, tTuple_mkI, tTuple_mkF, szOk_0, szOk_1, szOk_2, toB_bool, gIsi_ev, nd_int, nd_bool, nd_str, nd_mkI, nd_mkF, nd_tuple, nd_list, itD_mkI, itD_mkF, itD_list, itD_tuple, add_int, sub_int, neg_int, sum_map, all_map, any_map, sl_mkI, sl_mkF, len_mkF, len_mkI, len_list, oInt, oTuple, List.length_map, List.length_cons, List.length_nil, List.map_nil, List.map_cons, List.cons_append, List.nil_append, List.replicate_succ, List.replicate_zero, List.set_cons_zero, List.set_cons_succ, List.getElem?_cons_zero, List.getElem?_cons_succ, List.all_cons, List.all_nil, Bool.and_true, Bool.true_and, Bool.and_false, Bool.false_and, Bool.not_true, Bool.not_false, if_true, if_false, ite_true, ite_false, Bool.false_eq_true, decide_true, decide_false, reduceIte, Nat.reduceLT, Nat.reduceSub, Nat.reduceAdd, Nat.zero_add, List.append_nil, Option.map_some, Option.map_none, xJoin, onStr, c1, join_rt (bs := app ms bs) (by rw [app_len]; exact h2)]
theorem v_filtered {ms : List (List Int)} {bs : List Bool} (h : Mks ms) (hs : span ms ≤ 8) (hz : ms.length ≤ 130) (hm : mins ms = ms) (h1 : 1 ≤ bs.length) (h2 : bs.length ≤ 24) : F_filtered [mkF ms, rt bs] = M.ret (rt (app ms bs), false) := by
  refine fn_ret (τ := ([some (mkF ms), some (rt bs)], [])) ?_
  show b_filtered ([some (mkF ms), some (rt bs)], []) = _
  unfold b_filtered
  simp only [M.ret_bind, lft_ret, quiet_ret, ofO_some, sSeq, sRet, sPass, sIf, sSet, sRetN, sDrop, x1, x2, x3, xVar, xC, xIf, xAnd, xOr, xNot, bV, bAnd, bOr, bNot, fYes, aNil, aCons, xTup, xLst, xCall, gO, fE, eF, fFn, fLst, fSorted, iD, iA, fO, fNo, xSl, lcItem, gN, gN2, wipeE, lt_int, le_int, gt_int, ge_int, tInt_int, tBool_int, tTuple_mkI, tTuple_mkF, szOk_0, szOk_1, szOk_2, toB_bool, gIsi_ev, nd_int, nd_bool, nd_str, nd_mkI, nd_mkF, nd_tuple, nd_list, itD_mkI, itD_mkF, itD_list, itD_tuple, add_int, sub_int, neg_int, sum_map, all_map, any_map, sl_mkI, sl_mkF, len_mkF, len_mkI, len_list, oInt, oTuple, List.length_map, List.length_cons, List.length_nil, List.map_nil, List.map_cons, List.cons_append, List.nil_append, List.replicate_succ, List.replicate_zero, List.set_cons_zero, List.set_cons_succ, List.getElem?_cons_zero, List.getElem?_cons_succ, List.all_cons, List.all_nil, Bool.and_true, Bool.true_and, Bool.and_false, Bool.false_and, Bool.not_true, Bool.not_false, if_true, if_false, ite_true, ite_false, Bool.false_eq_true, decide_true, decide_false, reduceIte, Nat.reduceLT, Nat.reduceSub, Nat.reduceAdd, Nat.zero_add, List.append_nil, Option.map_some, Option.map_none, v_need_filter h hs hz hm, v_need_ring h1 h2, v_apply (ms := ms) (show 0 < bs.length by omega) (show bs.length ≤ 1000 by omega)]
theorem v__law_within (a b : List Int) : F__law_within [mkI a, mkI b] = M.ret (.bool (sub a b), false) := by
  have c1 : xLc (iD (xVar 0)) (gN 2) [2] (bV (x2 gNotIn (xVar 2) (xVar 1))) (xVar 2) [some (mkI a), some (mkI b), none] = M.ret (.list ((a.filter fun o => !b.contains o).map .int)) :=
    xLc_pure PyData.int (fun o => !b.contains o) PyData.int rfl fun o ho => by
      simp only [M.ret_bind, lft_ret, quiet_ret, ofO_some, sSeq, sRet, sPass, sIf, sSet, sRetN, sDrop, x1, x2, x3, xVar, xC, xIf, xAnd, xOr, xNot, bV, bAnd, bOr, bNot, fYes, aNil, aCons, xTup, xLst, xCall, gO, fE, eF, fFn, fLst, fSorted, iD, iA, fO, fNo, xSl, lcItem, gN, gN2, wipeE, lt_int, le_int, gt_int, ge_int, tInt_int, tBool_int, tTuple_mkI, tTuple_mkF, szOk_0, szOk_1, szOk_2, toB_bool, gIsi_ev, nd_int, nd_bool, nd_str, nd_mkI, nd_mkF, nd_tuple, nd_list, itD_mkI, itD_mkF, itD_list, itD_tuple, add_int, sub_int, neg_int, sum_map, all_map, any_map, sl_mkI, sl_mkF, len_mkF, len_mkI, len_list, oInt, oTuple, List.length_map, List.length_cons, List.length_nil, List.map_nil, List.map_cons, List.cons_append, List.nil_append, List.replicate_succ, List.replicate_zero, List.set_cons_zero, List.set_cons_succ, List.getElem?_cons_zero, List.getElem?_cons_succ, List.all_cons, List.all_nil, Bool.and_true, Bool.true_and, Bool.and_false, Bool.false_and, Bool.not_true, Bool.not_false, if_true, if_false, ite_true, ite_false, Bool.false_eq_true, decide_true, decide_false, reduceIte, Nat.reduceLT, Nat.reduceSub, Nat.reduceAdd, Nat.zero_add, List.append_nil, Option.map_some, Option.map_none, nin_mkI]
      cases b.contains o <;> rfl
  refine fn_ret (τ := ([some (mkI a), some (mkI b), none], [])) ?_
  show b__law_within ([some (mkI a), some (mkI b), none], []) = _
  unfold b__law_within
  simp only [M.ret_bind, lft_ret, quiet_ret, ofO_some, sSeq, sRet, sPass, sIf, sSet, sRetN, sDrop, x1, x2, x3, xVar, xC, xIf, xAnd, xOr, xNot, bV, bAnd, bOr, bNot, fYes, aNil, aCons, xTup, xLst, xCall, gO, fE, eF, fFn, fLst, fSorted, iD, iA, fO, fNo, xSl, lcItem, gN, gN2, wipeE, lt_int, le_int, gt_int, ge_int, tInt_int, tBool_int, tTuple_mkI, tTuple_mkF, szOk_0, szOk_1, szOk_2, toB_bool, gIsi_ev, nd_int, nd_bool, nd_str, nd_mkI, nd_mkF, nd_tuple, nd_list, itD_mkI, itD_mkF, itD_list, itD_tuple, add_int, sub_int, neg_int, sum_map, all_map, any_map, sl_mkI, sl_mkF, len_mkF, len_mkI, len_list, oInt, oTuple, List.length_map, List.length_cons, List.length_nil, List.map_nil, List.map_cons, List.cons_append, List.nil_append, List.replicate_succ, List.replicate_zero, List.set_cons_zero, List.set_cons_succ, List.getElem?_cons_zero, List.getElem?_cons_succ, List.all_cons, List.all_nil, Bool.and_true, Bool.true_and, Bool.and_false, Bool.false_and, Bool.not_true, Bool.not_false, if_true, if_false, ite_true, ite_false, Bool.false_eq_true, decide_true, decide_false, reduceIte, Nat.reduceLT, Nat.reduceSub, Nat.reduceAdd, Nat.zero_add, List.append_nil, Option.map_some, Option.map_none, c1, eq_nil_list, filter_nil_iff]
theorem v__law_least {ms : List (List Int)} (ha : ∀ m, m ∈ ms → Asc m) (hf : ∀ m, m ∈ ms → m ≠ []) (hz : ms.length < 64) : F__law_least [.list (ms.map mkI)] = M.ret (mkF (mins ms), false) := by
  obtain ⟨ys, e2, nd, mm, so⟩ := mask_order ms
  have W : Wt sub List.length ys := ⟨fun a b h1 h2 h3 h4 => sub_lt (ha a ((mm a).mp h1)) (ha b ((mm b).mp h2)) h3 h4, sub_tr⟩
  have c1 : ∀ S, Gd (fSorted (aCons (xLc (iD (x1 gSortedSet (xVar 0))) (gN 3) [3] fYes (xTup (aCons (xCall (gO oLen) (aCons (xVar 3) aNil)) (aCons (xVar 3) aNil)))) aNil) [some (.list (ms.map mkI)), some (.list []), none, none, none]) S fun r S' => r = (.list (ys.map fun m => mkP ((m.length : Int) :: m)), true) ∧ S' = S := fun S => by
    have c0 : xLc (iD (x1 gSortedSet (xVar 0))) (gN 3) [3] fYes (xTup (aCons (xCall (gO oLen) (aCons (xVar 3) aNil)) (aCons (xVar 3) aNil))) [some (.list (ms.map mkI)), some (.list []), none, none, none] = M.ret (.list ((srtU HT.lexLt ms).map fun m => mkP ((m.length : Int) :: m))) :=
      xLc_map mkI (fun m => mkP ((m.length : Int) :: m)) (by simp only [M.ret_bind, lft_ret, quiet_ret, ofO_some, sSeq, sRet, sPass, sIf, sSet, sRetN, sDrop, x1, x2, x3, xVar, xC, xIf, xAnd, xOr, xNot, bV, bAnd, bOr, bNot, fYes, aNil, aCons, xTup, xLst, xCall, gO, fE, eF, fFn, fLst, fSorted, iD, iA, fO, fNo, xSl, lcItem, gN, gN2, wipeE, lt_int, le_int, gt_int, ge_int, tInt_int, tBool_int, tTuple_mkI, tTuple_mkF, szOk_0, szOk_1, szOk_2, toB_bool, gIsi_ev, nd_int, nd_bool, nd_str, nd_mkI, nd_mkF, nd_tuple, nd_list, itD_mkI, itD_mkF, itD_list, itD_tuple, add_int, sub_int, neg_int, sum_map, all_map, any_map, sl_mkI, sl_mkF, len_mkF, len_mkI, len_list, oInt, oTuple, List.length_map, List.length_cons, List.length_nil, List.map_nil, List.map_cons, List.cons_append, List.nil_append, List.replicate_succ, List.replicate_zero, List.set_cons_zero, List.set_cons_succ, List.getElem?_cons_zero, List.getElem?_cons_succ, List.all_cons, List.all_nil, Bool.and_true, Bool.true_and, Bool.and_false, Bool.false_and, Bool.not_true, Bool.not_false, if_true, if_false, ite_true, ite_false, Bool.false_eq_true, decide_true, decide_false, reduceIte, Nat.reduceLT, Nat.reduceSub, Nat.reduceAdd, Nat.zero_add, List.append_nil, Option.map_some, Option.map_none, gSortedSet, sset_mkI hf hz]) fun m hm => by
        simp only [M.ret_bind, lft_ret, quiet_ret, ofO_some, sSeq, sRet, sPass, sIf, sSet, sRetN, sDrop, x1, x2, x3, xVar, xC, xIf, xAnd, xOr, xNot, bV, bAnd, bOr, bNot, fYes, aNil, aCons, xTup, xLst, xCall, gO, fE, eF, fFn, fLst, fSorted, iD, iA, fO, fNo, xSl, lcItem, gN, gN2, wipeE, lt_int, le_int, gt_int, ge_int, tInt_int, tBool_int, tTuple_mkI, tTuple_mkF, szOk_0, szOk_1, szOk_2, toB_bool, gIsi_ev, nd_int, nd_bool, nd_str, nd_mkI, nd_mkF, nd_tuple, nd_list, itD_mkI, itD_mkF, itD_list, itD_tuple, add_int, sub_int, neg_int, sum_map, all_map, any_map, sl_mkI, sl_mkF, len_mkF, len_mkI, len_list, oInt, oTuple, List.length_map, List.length_cons, List.length_nil, List.map_nil, List.map_cons, List.cons_append, List.nil_append, List.replicate_succ, List.replicate_zero, List.set_cons_zero, List.set_cons_succ, List.getElem?_cons_zero, List.getElem?_cons_succ, List.all_cons, List.all_nil, Bool.and_true, Bool.true_and, Bool.and_false, Bool.false_and, Bool.not_true, Bool.not_false, if_true, if_false, ite_true, ite_false, Bool.false_eq_true, decide_true, decide_false, reduceIte, Nat.reduceLT, Nat.reduceSub, Nat.reduceAdd, Nat.zero_add, List.append_nil, Option.map_some, Option.map_none]
        rfl
    refine gd_eq ?_ ⟨rfl, rfl⟩
    simp only [M.ret_bind, lft_ret, quiet_ret, ofO_some, sSeq, sRet, sPass, sIf, sSet, sRetN, sDrop, x1, x2, x3, xVar, xC, xIf, xAnd, xOr, xNot, bV, bAnd, bOr, bNot, fYes, aNil, aCons, xTup, xLst, xCall, gO, fE, eF, fFn, fLst, fSorted, iD, iA, fO, fNo, xSl, lcItem, gN, gN2, wipeE, lt_int, le_int, gt_int, ge_int, tInt_int, tBool_int, tTuple_mkI, tTuple_mkF, szOk_0, szOk_1, szOk_2, toB_bool, gIsi_ev, nd_int, nd_bool, nd_str, nd_mkI, nd_mkF, nd_tuple, nd_list, itD_mkI, itD_mkF, itD_list, itD_tuple, add_int, sub_int, neg_int, sum_map, all_map, any_map, sl_mkI, sl_mkF, len_mkF, len_mkI, len_list, oInt, oTuple, List.length_map, List.length_cons, List.length_nil, List.map_nil, List.map_cons, List.cons_append, List.nil_append, List.replicate_succ, List.replicate_zero, List.set_cons_zero, List.set_cons_succ, List.getElem?_cons_zero, List.getElem?_cons_succ, List.all_cons, List.all_nil, Bool.and_true, Bool.true_and, Bool.and_false, Bool.false_and, Bool.not_true, Bool.not_false, if_true, if_false, ite_true, ite_false, Bool.false_eq_true, decide_true, decide_false, reduceIte, Nat.reduceLT, Nat.reduceSub, Nat.reduceAdd, Nat.zero_add, List.append_nil, Option.map_some, Option.map_none, c0, sorted_keysP e2 (fun m => ⟨_, _, rfl⟩)]
  refine eq_of_gd fun S => gd_fn ?_
  show Gd (b__law_least ([some (.list (ms.map mkI)), none, none, none, none], [])) S _
  unfold b__law_least
  refine gd_seq (gd_set (by simp) (gd_eq (a := (.list [], true)) rfl ?_))
  refine gd_seq (gd_for (gd_mono (c1 S) ?_))
  rintro r S' ⟨rfl, rfl⟩
  refine ⟨_, rfl, ?_⟩
  refine gd_loop ys (fun pre τ S1 => S1 = S' ∧ ∃ a b : Option D, τ = ([some (.list (ms.map mkI)), some (.list ((pre.filter (lone sub ys)).map mkI)), a, b, none], [1])) ⟨rfl, none, none, ?_⟩ ?_ ?_
  · simp only [flatL, flatAll_mkP]
    rfl
  · rintro pre m post τ S1 e ⟨rfl, a, b, rfl⟩
    refine ⟨([some (.list (ms.map mkI)), some (.list ((pre.filter (lone sub ys)).map mkI)), some (.int (m.length : Int)), some (mkI m), none], [1]), ?_, ?_⟩
    · unfold asgT
      have st : stb (mkP ((m.length : Int) :: m)) = true := by
        unfold stb
        rw [flat_mkP]
        rfl
      rw [st]
      rfl
    have c2 : xLc (iD (xVar 1)) (gN 4) [4] (bV (eF (fFn F__law_within 2 (aCons (xVar 4) (aCons (xVar 3) aNil))))) (xVar 4) [some (.list (ms.map mkI)), some (.list ((pre.filter (lone sub ys)).map mkI)), some (.int (m.length : Int)), some (mkI m), none] = M.ret (.list (((pre.filter (lone sub ys)).filter fun o => sub o m).map mkI)) :=
      xLc_pure mkI (fun o => sub o m) mkI rfl fun o ho => by
        simp only [M.ret_bind, lft_ret, quiet_ret, ofO_some, sSeq, sRet, sPass, sIf, sSet, sRetN, sDrop, x1, x2, x3, xVar, xC, xIf, xAnd, xOr, xNot, bV, bAnd, bOr, bNot, fYes, aNil, aCons, xTup, xLst, xCall, gO, fE, eF, fFn, fLst, fSorted, iD, iA, fO, fNo, xSl, lcItem, gN, gN2, wipeE, lt_int, le_int, gt_int, ge_int, tInt_int, tBool_int, tTuple_mkI, tTuple_mkF, szOk_0, szOk_1, szOk_2, toB_bool, gIsi_ev, nd_int, nd_bool, nd_str, nd_mkI, nd_mkF, nd_tuple, nd_list, itD_mkI, itD_mkF, itD_list, itD_tuple, add_int, sub_int, neg_int, sum_map, all_map, any_map, sl_mkI, sl_mkF, len_mkF, len_mkI, len_list, oInt, oTuple, List.length_map, List.length_cons, List.length_nil, List.map_nil, List.map_cons, List.cons_append, List.nil_append, List.replicate_succ, List.replicate_zero, List.set_cons_zero, List.set_cons_succ, List.getElem?_cons_zero, List.getElem?_cons_succ, List.all_cons, List.all_nil, Bool.and_true, Bool.true_and, Bool.and_false, Bool.false_and, Bool.not_true, Bool.not_false, if_true, if_false, ite_true, ite_false, Bool.false_eq_true, decide_true, decide_false, reduceIte, Nat.reduceLT, Nat.reduceSub, Nat.reduceAdd, Nat.zero_add, List.append_nil, Option.map_some, Option.map_none, v__law_within]
        cases sub o m <;> rfl
    have ps := pick_step W nd so e
    refine gd_if (gd_eq (a := lone sub ys m) ?_ ⟨fun hl => ?_, fun hl => ?_⟩)
    · show bV _ [some (.list (ms.map mkI)), some (.list ((pre.filter (lone sub ys)).map mkI)), some (.int (m.length : Int)), some (mkI m), none] = _
      simp only [M.ret_bind, lft_ret, quiet_ret, ofO_some, sSeq, sRet, sPass, sIf, sSet, sRetN, sDrop, x1, x2, x3, xVar, xC, xIf, xAnd, xOr, xNot, bV, bAnd, bOr, bNot, fYes, aNil, aCons, xTup, xLst, xCall, gO, fE, eF, fFn, fLst, fSorted, iD, iA, fO, fNo, xSl, lcItem, gN, gN2, wipeE, lt_int, le_int, gt_int, ge_int, tInt_int, tBool_int, tTuple_mkI, tTuple_mkF, szOk_0, szOk_1, szOk_2, toB_bool, gIsi_ev, nd_int, nd_bool, nd_str, nd_mkI, nd_mkF, nd_tuple, nd_list, itD_mkI, itD_mkF, itD_list, itD_tuple, add_int, sub_int, neg_int, sum_map, all_map, any_map, sl_mkI, sl_mkF, len_mkF, len_mkI, len_list, oInt, oTuple, List.length_map, List.length_cons, List.length_nil, List.map_nil, List.map_cons, List.cons_append, List.nil_append, List.replicate_succ, List.replicate_zero, List.set_cons_zero, List.set_cons_succ, List.getElem?_cons_zero, List.getElem?_cons_succ, List.all_cons, List.all_nil, Bool.and_true, Bool.true_and, Bool.and_false, Bool.false_and, Bool.not_true, Bool.not_false, if_true, if_false, ite_true, ite_false, Bool.false_eq_true, decide_true, decide_false, reduceIte, Nat.reduceLT, Nat.reduceSub, Nat.reduceAdd, Nat.zero_add, List.append_nil, Option.map_some, Option.map_none, c2, eq_nil_mkI, filter_any_nil, ps, Bool.not_not]
    · refine gd_app (es := (pre.filter (lone sub ys)).map mkI) List.mem_cons_self rfl ?_ (gd_eq (a := mkI m) rfl ⟨flat_mkI m, rfl, some (.int (m.length : Int)), some (mkI m), ?_⟩)
      · refine decide_eq_true ?_
        have l1 := nodup_len ys ms nd fun x hx => (mm x).mp hx
        have l2 := List.length_filter_le (lone sub ys) pre
        have l3 := congrArg List.length e
        rw [List.length_append] at l3
        rw [List.length_map]
        omega
      · rw [filt_yes hl, List.map_append]
        rfl
    · refine gd_pass ⟨rfl, some (.int (m.length : Int)), some (mkI m), ?_⟩
      rw [filt_no hl]
  · rintro τ S1 ⟨rfl, a, b, rfl⟩
    refine gd_sret (gd_eq (a := (mkF (mins ms), false)) ?_ ⟨rfl, rfl⟩)
    have ne : ∀ m, m ∈ ys.filter (lone sub ys) → m ≠ [] := fun m hm => hf m ((mm m).mp (List.mem_filter.mp hm).1)
    simp only [M.ret_bind, lft_ret, quiet_ret, ofO_some, sSeq, sRet, sPass, sIf, sSet, sRetN, sDrop, x1, x2, x3, xVar, xC, xIf, xAnd, xOr, xNot, bV, bAnd, bOr, bNot, fYes, aNil, aCons, xTup, xLst, xCall, gO, fE, eF, fFn, fLst, fSorted, iD, iA, fO, fNo, xSl, lcItem, gN, gN2, wipeE, lt_int, le_int, gt_int, ge_int, tInt_int, tBool_int, tTuple_mkI, tTuple_mkF, szOk_0, szOk_1, szOk_2, toB_bool, gIsi_ev, nd_int, nd_bool, nd_str, nd_mkI, nd_mkF, nd_tuple, nd_list, itD_mkI, itD_mkF, itD_list, itD_tuple, add_int, sub_int, neg_int, sum_map, all_map, any_map, sl_mkI, sl_mkF, len_mkF, len_mkI, len_list, oInt, oTuple, List.length_map, List.length_cons, List.length_nil, List.map_nil, List.map_cons, List.cons_append, List.nil_append, List.replicate_succ, List.replicate_zero, List.set_cons_zero, List.set_cons_succ, List.getElem?_cons_zero, List.getElem?_cons_succ, List.all_cons, List.all_nil, Bool.and_true, Bool.true_and, Bool.and_false, Bool.false_and, Bool.not_true, Bool.not_false, if_true, if_false, ite_true, ite_false, Bool.false_eq_true, decide_true, decide_false, reduceIte, Nat.reduceLT, Nat.reduceSub, Nat.reduceAdd, Nat.zero_add, List.append_nil, Option.map_some, Option.map_none, sorted_mkI ne, srt_lone nd mm]
    rfl
theorem v__law_draw {S : Wd} {n : Nat} (h : Src S n) {size : Nat} (h0 : 0 < size) (h1 : size < 1152921504606846976) : Gd (F__law_draw [hnd n, .int (size : Int)]) S fun r S' => Src S' n ∧ ∃ k : Nat, k < size ∧ r.1 = .int (k : Int) := by
  have hn := src_lt h
  obtain ⟨a, b, e, b0, b1⟩ := h
  have hs : (0 : Int) < (size : Int) := by omega
  have md : ∀ x : Int, ∃ k : Nat, k < size ∧ x % (size : Int) = (k : Int) := fun x => by
    have m0 := Int.emod_nonneg x (show (size : Int) ≠ 0 by omega)
    have m1 := Int.emod_lt_of_pos x hs
    exact ⟨(x % (size : Int)).toNat, by omega, by omega⟩
  refine gd_fn ?_
  show Gd (b__law_draw ([some (hnd n), some (.int (size : Int)), none], [])) S _
  unfold b__law_draw
  refine gd_seq <| gd_if <| gd_bV <| gd_x2 <| gd_ix0 rfl e <| gd_con <| gd_eq (gt_int _ _) ⟨_, rfl, fun c => ?_, fun c => ?_⟩
  · obtain ⟨k, hk, ek⟩ := md a
    refine gd_seq <| gd_set (by simp) <| gd_fE <| gd_x2 <| gd_xCall <| gd_cons <| gd_ix0 rfl e <| gd_nil <| gd_eq (int_ev _) <| gd_var rfl <| gd_eq (mod_int hs) ?_
    refine gd_seq <| gd_setH (n := n) rfl <| gd_x2 <| gd_ix0 rfl e <| gd_var rfl <| gd_eq (fdiv_int ⟨hs, by omega⟩) ⟨rfl, _, e, by simp, ?_⟩
    refine gd_retV (d := .int (a % (size : Int))) rfl fun fr => ⟨src_set hn b0 b1, k, hk, ?_⟩
    show PyData.int (a % (size : Int)) = _
    rw [ek]
  · refine gd_pass ?_
    have q0 := Int.emod_nonneg (b * 48271) (show (2147483647 : Int) ≠ 0 by decide)
    have q1 := Int.emod_lt_of_pos (b * 48271) (show (0 : Int) < 2147483647 by decide)
    refine gd_seq <| gd_setH (n := n) rfl <| gd_x2 <| gd_xCall <| gd_cons <| gd_x2 <| gd_ix1 rfl e <| gd_con <| gd_eq (mulA_int ⟨b0, by omega⟩) <| gd_nil <| gd_eq (int_ev _) <| gd_con <| gd_eq (mod_int (by decide)) ⟨rfl, _, e, by simp, ?_⟩
    generalize b * 48271 % 2147483647 = b' at q0 q1 ⊢
    have e2 : (S.set n (.lst ([PyData.int a, .int b].set 1 (.int b'))))[n]? = some (.lst [.int a, .int b']) := List.getElem?_set_self hn
    refine gd_sret <| gd_fE <| gd_x2 <| gd_xCall <| gd_cons <| gd_x2 <| gd_x2 <| gd_xCall <| gd_cons <| gd_x2 <| gd_ix1 rfl e2 <| gd_ix1 rfl e2 <| gd_eq (mulA_int ⟨q0, by omega⟩) <| gd_nil <| gd_eq (int_ev _) <| gd_con <| gd_eq (mod_int (by decide)) <| gd_con <| gd_eq (fdiv_int (by decide)) <| gd_nil <| gd_eq (int_ev _) <| gd_var rfl <| gd_eq (mod_int hs) ?_
    generalize b' * b' % 2147483629 / 64 = x
    obtain ⟨k, hk, ek⟩ := md x
    exact ⟨src_set hn q0 q1, k, hk, congrArg PyData.int ek⟩
theorem v__law_choice {S : Wd} {n : Nat} (h : Src S n) {ds : List D} (h0 : 0 < ds.length) (h1 : ds.length < 1073741824) : Gd (F__law_choice [hnd n, .list ds]) S fun r S' => Src S' n ∧ r.1 ∈ ds := by
  refine gd_fn ?_
  show Gd (b__law_choice ([some (hnd n), some (.list ds)], [])) S _
  unfold b__law_choice
  refine gd_sret <| gd_fE <| gd_x2 <| gd_var rfl <| gd_eF <| gd_call <| gd_cons <| gd_var rfl <| gd_cons <| gd_xCall <| gd_cons <| gd_var rfl <| gd_nil <| gd_eq (len_ev _) <| gd_nil ⟨rfl, gd_mono (v__law_draw h h0 (by omega)) ?_⟩
  rintro r S' ⟨s', k, hk, e⟩
  rw [e]
  refine gd_eq (a := ds[k]) ?_ ⟨s', List.getElem_mem hk⟩
  show ofO (atI ds (k : Int)) = _
  unfold atI ixN
  rw [if_pos (by omega), if_pos (by omega)]
  show ofO (ds[(k : Int).toNat]?) = _
  rw [Int.toNat_natCast, List.getElem?_eq_getElem hk]
  rfl
theorem v__law_mask {S : Wd} {n : Nat} (h : Src S n) {k : Nat} (hk : k ≤ 100) : Gd (F__law_mask [hnd n, .int (k : Int)]) S fun r S' => Src S' n ∧ ∃ m, r.1 = mkI m ∧ MaskIn (k : Int) m := by
  refine gd_fn ?_
  show Gd (b__law_mask ([some (hnd n), some (.int (k : Int)), none, none], [])) S _
  unfold b__law_mask
  refine gd_seq <| gd_set (by simp) <| gd_fE <| gd_xLc (fun i : Nat => .int (-(k : Int) + (i : Int))) (fun i o => o = none ∨ o = some (.int (-(k : Int) + (i : Int)))) (fun S => Src S n) (as := List.range ((k : Int) + 1 - -(k : Int)).toNat) ?_ ?_ ?_
  · refine gd_iA <| gd_cons <| gd_x1 <| gd_var rfl <| gd_eq (neg_int _) <| gd_cons <| gd_x2 <| gd_var rfl <| gd_con <| gd_eq (add_int _ _) <| gd_nil ⟨_, range2_map (by omega) (by omega) (by omega), rfl, h⟩
  · intro i S1 hi s1
    refine gd_item rfl <| gd_bV <| gd_x2 <| gd_eF <| gd_call <| gd_cons <| gd_var rfl <| gd_cons <| gd_con <| gd_nil ⟨rfl, gd_mono (v__law_draw (size := 3) s1 (by decide) (by decide)) ?_⟩
    rintro r S2 ⟨s2, j, hj, e⟩
    rw [e]
    refine gd_con <| gd_eq (eq_int _ _) ⟨_, rfl, fun c => gd_var rfl ⟨rfl, .inr rfl, s2⟩, fun c => ⟨.inl rfl, s2⟩⟩
  · intro os S1 s1 pr
    obtain ⟨m, e, sl⟩ := paired_sub pr
    rw [e]
    have asc : Asc m := (asc_range _ _).sublist sl
    have bd : ∀ o, o ∈ m → -(k : Int) ≤ o ∧ o ≤ k := fun o ho => by
      obtain ⟨i, hi, rfl⟩ := List.mem_map.mp (sl.subset ho)
      have := List.mem_range.mp hi
      omega
    show Gd (sRet _ ([some (hnd n), some (.int (k : Int)), some (.list (m.map .int)), none], _)) S1 _
    refine gd_sret <| gd_fE <| gd_xIf <| gd_bV <| gd_x2 <| gd_var rfl <| gd_xLst <| gd_nil ⟨rfl, gd_eq (ne_nil_list m) ⟨_, rfl, fun c => ?_, fun c => ?_⟩⟩
    · refine gd_xCall <| gd_cons <| gd_var rfl <| gd_nil <| gd_eq (tup_ev _) ⟨s1, m, rfl, asc, ?_, fun o ho => (bd o ho).1, fun o ho => (bd o ho).2⟩
      intro z
      subst z
      cases c
    · refine gd_xTup <| gd_cons <| gd_x2 <| gd_eF <| gd_call <| gd_cons <| gd_var rfl <| gd_cons <| gd_x2 <| gd_x2 <| gd_con <| gd_var rfl <| gd_eq (mulA_int (by decide)) <| gd_con <| gd_eq (add_int _ _) <| gd_nil ⟨rfl, gd_mono (v__law_draw (size := 2 * k + 1) s1 (by omega) (by omega)) ?_⟩
      rintro r S2 ⟨s2, j, hj, e⟩
      rw [e]
      refine gd_var rfl <| gd_eq (sub_int _ _) <| gd_nil ⟨rfl, s2, [(j : Int) - k], rfl, List.pairwise_singleton _ _, by simp, fun o ho => ?_, fun o ho => ?_⟩
      · have := List.mem_singleton.mp ho; omega
      · have := List.mem_singleton.mp ho; omega
theorem v__law_filter {S : Wd} {n : Nat} (h : Src S n) {k : Nat} (hk : k ≤ 100) : Gd (F__law_filter [hnd n, .int (k : Int)]) S fun r S' => Src S' n ∧ ∃ ms, r.1 = mkF ms ∧ Filt (-(k : Int)) k ms := by
  have dr : Gd (iA oRg1 (aCons (x2 gAdd (xC (.int 1)) (eF (fFn F__law_draw 2 (aCons (xVar 0) (aCons (xC (.int 5)) aNil))))) aNil) [some (hnd n), some (.int (k : Int)), none]) S fun ds S1 => ∃ c : Nat, 1 ≤ c ∧ c ≤ 5 ∧ ds = (List.range c).map (fun i : Nat => .int (i : Int)) ∧ Src S1 n := by
    refine gd_iA <| gd_cons <| gd_x2 <| gd_con <| gd_eF <| gd_call <| gd_cons <| gd_var rfl <| gd_cons <| gd_con <| gd_nil ⟨rfl, gd_mono (v__law_draw (size := 5) h (by decide) (by decide)) ?_⟩
    rintro r S2 ⟨s2, j, hj, e⟩
    rw [e]
    refine gd_eq (one_add j) <| gd_nil ⟨_, range_map (n := j + 1) (by omega), j + 1, by omega, by omega, rfl, s2⟩
  obtain ⟨ds, S1, e, c, c1, c2, rfl, s1⟩ := dr
  refine gd_fn ?_
  show Gd (b__law_filter ([some (hnd n), some (.int (k : Int)), none], [])) S _
  unfold b__law_filter
  refine gd_sret <| gd_call <| gd_cons <| gd_xLc (fun i : Nat => .int (i : Int)) (fun _ o => ∃ m, o = some (mkI m) ∧ MaskIn (k : Int) m) (fun S => Src S n) (as := List.range c) ⟨_, _, e, rfl, s1⟩ ?_ ?_
  · intro i S1 hi s1
    refine gd_item rfl <| gd_yes ⟨fun _ => ?_, fun z => by cases z⟩
    refine gd_eF <| gd_call <| gd_cons <| gd_var rfl <| gd_cons <| gd_var rfl <| gd_nil ⟨rfl, gd_mono (v__law_mask s1 hk) ?_⟩
    rintro r S2 ⟨s2, m, e, hm⟩
    rw [e]
    exact ⟨rfl, ⟨m, rfl, hm⟩, s2⟩
  · intro os S2 s2 pr
    obtain ⟨ms, e, l, hm⟩ := paired_all pr
    rw [List.length_range] at l
    rw [e]
    have hne : ms ≠ [] := fun z => by rw [z] at l; simp at l; omega
    exact gd_nil ⟨rfl, gd_eq (v__law_least (fun m q => (hm m q).asc) (fun m q => (hm m q).some) (by omega)) ⟨s2, mins ms, rfl, filt_mins hne hm (by omega)⟩⟩
theorem v__law_ring {S : Wd} {n : Nat} (h : Src S n) {k : Nat} (h0 : 0 < k) (hk : k ≤ 1000) : Gd (F__law_ring [hnd n, .int (k : Int)]) S fun r S' => Src S' n ∧ ∃ bs, r.1 = rt bs ∧ 1 ≤ bs.length ∧ bs.length ≤ k := by
  refine gd_fn ?_
  show Gd (b__law_ring ([some (hnd n), some (.int (k : Int)), none, none], [])) S _
  unfold b__law_ring
  refine gd_seq <| gd_set (by simp) <| gd_call <| gd_cons <| gd_var rfl <| gd_cons <| gd_xLst <| gd_cons <| gd_con <| gd_cons <| gd_con <| gd_cons <| gd_con <| gd_cons <| gd_con <| gd_nil ⟨rfl, gd_nil ⟨rfl, gd_mono (v__law_choice h (by decide) (by decide)) ?_⟩⟩
  rintro ⟨d, fr⟩ S1 ⟨s1, hr⟩
  obtain ⟨b0, rfl, l0, l1⟩ := ring_signs hr
  have dr : Gd (iA oRg1 (aCons (x2 gAdd (xC (.int 1)) (eF (fFn F__law_draw 2 (aCons (xVar 0) (aCons (xVar 1) aNil))))) aNil) [some (hnd n), some (.int (k : Int)), some (rt b0), none]) S1 fun ds S1 => ∃ c : Nat, 1 ≤ c ∧ c ≤ k ∧ ds = (List.range c).map (fun i : Nat => .int (i : Int)) ∧ Src S1 n := by
    refine gd_iA <| gd_cons <| gd_x2 <| gd_con <| gd_eF <| gd_call <| gd_cons <| gd_var rfl <| gd_cons <| gd_var rfl <| gd_nil ⟨rfl, gd_mono (v__law_draw (size := k) s1 h0 (by omega)) ?_⟩
    rintro r S2 ⟨s2, j, hj, e⟩
    rw [e]
    refine gd_eq (one_add j) <| gd_nil ⟨_, range_map (n := j + 1) (by omega), j + 1, by omega, by omega, rfl, s2⟩
  obtain ⟨ds, S2, e, c, c1, c2, rfl, s2⟩ := dr
  show Gd (sRet _ ([some (hnd n), some (.int (k : Int)), some (rt b0), none], _)) S1 _
  refine gd_sret <| gd_fE <| gd_xJoin <| gd_con ⟨_, rfl, gd_xLc (fun i : Nat => .int (i : Int)) (fun _ o => ∃ b, o = some (sgD b) ∧ True) (fun S => Src S n) (as := List.range c) ⟨_, _, e, rfl, s2⟩ ?_ ?_⟩
  · intro i S1 hi s1
    refine gd_item rfl <| gd_yes ⟨fun _ => ?_, fun z => by cases z⟩
    refine gd_eF <| gd_call <| gd_cons <| gd_var rfl <| gd_cons <| gd_xCall <| gd_cons <| gd_var rfl <| gd_nil <| gd_eq (list_rt l1) <| gd_nil ⟨rfl, gd_mono (v__law_choice s1 (by rw [List.length_map]; exact l0) (by rw [List.length_map]; omega)) ?_⟩
    rintro r S2 ⟨s2, hr⟩
    obtain ⟨b, _, e⟩ := List.mem_map.mp hr
    rw [← e]
    exact ⟨rfl, ⟨b, rfl, trivial⟩, s2⟩
  · intro os S3 s3 pr
    obtain ⟨bs, e, l, p⟩ := paired_all pr
    rw [List.length_range] at l
    rw [e]
    exact gd_eq (join_rt (by omega)) ⟨s3, bs, rfl, by omega, by omega⟩
theorem v__law_source (ns : List Int) (k : Nat) (hk : k ≤ 1000) (S : Wd) : Gd (F__law_source [.list (ns.map .int), .int (k : Int)]) S fun r S' => S' = S ∧ r.2 = true ∧ ∃ a b : Int, r.1 = .list [.int a, .int b] ∧ 0 ≤ b ∧ b < 2147483647 := by
  refine gd_fn ?_
  show Gd (b__law_source ([some (.list (ns.map .int)), some (.int (k : Int)), none], [])) S _
  unfold b__law_source
  have bd : ∀ x : Int, 0 ≤ 1 + x % 2147483646 ∧ 1 + x % 2147483646 < 2147483647 := fun x => by
    have m0 := Int.emod_nonneg x (show (2147483646 : Int) ≠ 0 by decide)
    have m1 := Int.emod_lt_of_pos x (show (0 : Int) < 2147483646 by decide)
    omega
  refine gd_seq <| gd_set (by simp) <| gd_fE <| gd_con ?_
  -- the cell
  have cell : ∃ cl : Int, 0 ≤ cl ∧ Gd (sIf (bV (x2 gLt (xVar 1) (xCall (gO oLen) (aCons (xVar 0) aNil)))) (sSet 2 (fE (xCall (gO oAbs) (aCons (x2 gIx (xVar 0) (xVar 1)) aNil)))) sPass ([some (.list (ns.map .int)), some (.int (k : Int)), some (.int 0)], [])) S fun p S' => S' = S ∧ p = (.nx, ([some (.list (ns.map .int)), some (.int (k : Int)), some (.int cl)], [])) := by
    by_cases c : k < ns.length
    · refine ⟨if ns[k] < 0 then -ns[k] else ns[k], by split <;> omega, ?_⟩
      refine gd_if <| gd_bV <| gd_x2 <| gd_var rfl <| gd_xCall <| gd_cons <| gd_var rfl <| gd_nil <| gd_eq (len_ev _) <| gd_eq (lt_int _ _) ⟨_, rfl, fun _ => ?_, fun z => ?_⟩
      · refine gd_set (by simp) <| gd_fE <| gd_xCall <| gd_cons <| gd_x2 <| gd_var rfl <| gd_var rfl <| gd_eq (ix_list c) <| gd_nil <| gd_eq (abs_ev _) ⟨rfl, rfl⟩
      · rw [List.length_map] at z
        have := of_decide_eq_false z
        omega
    · refine ⟨0, Int.le_refl _, ?_⟩
      refine gd_if <| gd_bV <| gd_x2 <| gd_var rfl <| gd_xCall <| gd_cons <| gd_var rfl <| gd_nil <| gd_eq (len_ev _) <| gd_eq (lt_int _ _) ⟨_, rfl, fun z => ?_, fun _ => gd_pass ⟨rfl, rfl⟩⟩
      rw [List.length_map] at z
      have := of_decide_eq_true z
      omega
  obtain ⟨cl, hcl, g⟩ := cell
  refine gd_seq <| gd_mono g ?_
  rintro p S1 ⟨rfl, rfl⟩
  refine gd_seq <| gd_if <| gd_bV <| gd_x2 <| gd_var rfl <| gd_x2 <| gd_con <| gd_con <| gd_eq pow_18 <| gd_eq (lt_int _ _) ⟨_, rfl, fun z => ?_, fun z => ?_⟩
  · have hlt := of_decide_eq_true z
    refine gd_sret <| gd_fLst <| gd_cons <| gd_con <| gd_cons <| gd_x2 <| gd_con <| gd_x2 <| gd_xCall <| gd_cons <| gd_x2 <| gd_x2 <| gd_var rfl <| gd_con <| gd_eq (mulA_int2 (by decide)) <| gd_x2 <| gd_con <| gd_var rfl <| gd_eq (mulA_int (by decide)) <| gd_eq (add_int _ _) <| gd_nil <| gd_eq (int_ev _) <| gd_con <| gd_eq (mod_int (by decide)) <| gd_eq (add_int _ _) <| gd_nil ⟨rfl, rfl, rfl, 0, _, rfl, (bd _).1, (bd _).2⟩
  · refine gd_pass ?_
    refine gd_sret <| gd_fLst <| gd_cons <| gd_var rfl <| gd_cons <| gd_x2 <| gd_con <| gd_x2 <| gd_xCall <| gd_cons <| gd_x2 <| gd_var rfl <| gd_var rfl <| gd_eq (add_int _ _) <| gd_nil <| gd_eq (int_ev _) <| gd_con <| gd_eq (mod_int (by decide)) <| gd_eq (add_int _ _) <| gd_nil ⟨rfl, rfl, rfl, cl, _, rfl, (bd _).1, (bd _).2⟩
theorem v_need_mask {m : List Int} {a b : Int} (h : Mk m a b) (hs : b - a ≤ 8) : F_need_mask [mkI m] = M.ret (.none, false) := by
  refine eq_of_gd fun S => gd_fn ?_
  refine ⟨(.nx, ([some (mkI m)], [])), S, ?_, rfl, rfl⟩
  show b_need_mask ([some (mkI m)], []) S = M.ret _ S
  congr 1
  unfold b_need_mask
  have h1 := h.hi _ (last_mem h.some)
  have h2 := h.lo _ (head_mem h.some)
  simp only [M.ret_bind, lft_ret, quiet_ret, ofO_some, sSeq, sRet, sPass, sIf, sSet, sRetN, sDrop, x1, x2, x3, xVar, xC, xIf, xAnd, xOr, xNot, bV, bAnd, bOr, bNot, fYes, aNil, aCons, xTup, xLst, xCall, gO, fE, eF, fFn, fLst, fSorted, iD, iA, fO, fNo, xSl, lcItem, gN, gN2, wipeE, lt_int, le_int, gt_int, ge_int, tInt_int, tBool_int, tTuple_mkI, tTuple_mkF, szOk_0, szOk_1, szOk_2, toB_bool, gIsi_ev, nd_int, nd_bool, nd_str, nd_mkI, nd_mkF, nd_tuple, nd_list, itD_mkI, itD_mkF, itD_list, itD_tuple, add_int, sub_int, neg_int, sum_map, all_map, any_map, sl_mkI, sl_mkF, len_mkF, len_mkI, len_list, oInt, oTuple, List.length_map, List.length_cons, List.length_nil, List.map_nil, List.map_cons, List.cons_append, List.nil_append, List.replicate_succ, List.replicate_zero, List.set_cons_zero, List.set_cons_succ, List.getElem?_cons_zero, List.getElem?_cons_succ, List.all_cons, List.all_nil, Bool.and_true, Bool.true_and, Bool.and_false, Bool.false_and, Bool.not_true, Bool.not_false, if_true, if_false, ite_true, ite_false, Bool.false_eq_true, decide_true, decide_false, reduceIte, Nat.reduceLT, Nat.reduceSub, Nat.reduceAdd, Nat.zero_add, List.append_nil, Option.map_some, Option.map_none, v_is_offsets h.asc h.some, ix_last h.some, ix_first h.some, C_MOST_SPAN]
  rw [decide_eq_false (by omega)]
  rfl
theorem v_thin_by (m : List Int) : F_thin_by [mkI m] = M.ret (mkF [m], false) := rfl
theorem v_thicken_by (m : List Int) : F_thicken_by [mkI m] = M.ret (mkF (thick m), false) := by
  have c1 : xLc (iD (xVar 0)) (gN 1) [1] fYes (xTup (aCons (xVar 1) aNil)) [some (mkI m), none] = M.ret (.list ((thick m).map mkI)) := by
    unfold thick
    rw [List.map_map]
    exact xLc_map PyData.int (fun o => mkI [o]) rfl fun o ho => rfl
  refine fn_ret (τ := ([some (mkI m), none], [])) ?_
  show b_thicken_by ([some (mkI m), none], []) = _
  unfold b_thicken_by
  simp only [M.ret_bind, lft_ret, quiet_ret, ofO_some, sSeq, sRet, sPass, sIf, sSet, sRetN, sDrop, x1, x2, x3, xVar, xC, xIf, xAnd, xOr, xNot, bV, bAnd, bOr, bNot, fYes, aNil, aCons, xTup, xLst, xCall, gO, fE, eF, fFn, fLst, fSorted, iD, iA, fO, fNo, xSl, lcItem, gN, gN2, wipeE, lt_int, le_int, gt_int, ge_int, tInt_int, tBool_int, tTuple_mkI, tTuple_mkF, szOk_0, szOk_1, szOk_2, toB_bool, gIsi_ev, nd_int, nd_bool, nd_str, nd_mkI, nd_mkF, nd_tuple, nd_list, itD_mkI, itD_mkF, itD_list, itD_tuple, add_int, sub_int, neg_int, sum_map, all_map, any_map, sl_mkI, sl_mkF, len_mkF, len_mkI, len_list, oInt, oTuple, List.length_map, List.length_cons, List.length_nil, List.map_nil, List.map_cons, List.cons_append, List.nil_append, List.replicate_succ, List.replicate_zero, List.set_cons_zero, List.set_cons_succ, List.getElem?_cons_zero, List.getElem?_cons_succ, List.all_cons, List.all_nil, Bool.and_true, Bool.true_and, Bool.and_false, Bool.false_and, Bool.not_true, Bool.not_false, if_true, if_false, ite_true, ite_false, Bool.false_eq_true, decide_true, decide_false, reduceIte, Nat.reduceLT, Nat.reduceSub, Nat.reduceAdd, Nat.zero_add, List.append_nil, Option.map_some, Option.map_none, c1]
  rfl
theorem v_thinning {m : List Int} {a b : Int} (h : Mk m a b) (hs : b - a ≤ 8) : F_thinning [mkI m] = M.ret (mkF [m], false) := by
  refine fn_ret (τ := ([some (mkI m)], [])) ?_
  show b_thinning ([some (mkI m)], []) = _
  unfold b_thinning
  simp only [M.ret_bind, lft_ret, quiet_ret, ofO_some, sSeq, sRet, sPass, sIf, sSet, sRetN, sDrop, x1, x2, x3, xVar, xC, xIf, xAnd, xOr, xNot, bV, bAnd, bOr, bNot, fYes, aNil, aCons, xTup, xLst, xCall, gO, fE, eF, fFn, fLst, fSorted, iD, iA, fO, fNo, xSl, lcItem, gN, gN2, wipeE, lt_int, le_int, gt_int, ge_int, tInt_int, tBool_int, tTuple_mkI, tTuple_mkF, szOk_0, szOk_1, szOk_2, toB_bool, gIsi_ev, nd_int, nd_bool, nd_str, nd_mkI, nd_mkF, nd_tuple, nd_list, itD_mkI, itD_mkF, itD_list, itD_tuple, add_int, sub_int, neg_int, sum_map, all_map, any_map, sl_mkI, sl_mkF, len_mkF, len_mkI, len_list, oInt, oTuple, List.length_map, List.length_cons, List.length_nil, List.map_nil, List.map_cons, List.cons_append, List.nil_append, List.replicate_succ, List.replicate_zero, List.set_cons_zero, List.set_cons_succ, List.getElem?_cons_zero, List.getElem?_cons_succ, List.all_cons, List.all_nil, Bool.and_true, Bool.true_and, Bool.and_false, Bool.false_and, Bool.not_true, Bool.not_false, if_true, if_false, ite_true, ite_false, Bool.false_eq_true, decide_true, decide_false, reduceIte, Nat.reduceLT, Nat.reduceSub, Nat.reduceAdd, Nat.zero_add, List.append_nil, Option.map_some, Option.map_none, v_need_mask h hs, v_thin_by]
theorem v_thickening {m : List Int} {a b : Int} (h : Mk m a b) (hs : b - a ≤ 8) : F_thickening [mkI m] = M.ret (mkF (thick m), false) := by
  refine fn_ret (τ := ([some (mkI m)], [])) ?_
  show b_thickening ([some (mkI m)], []) = _
  unfold b_thickening
  simp only [M.ret_bind, lft_ret, quiet_ret, ofO_some, sSeq, sRet, sPass, sIf, sSet, sRetN, sDrop, x1, x2, x3, xVar, xC, xIf, xAnd, xOr, xNot, bV, bAnd, bOr, bNot, fYes, aNil, aCons, xTup, xLst, xCall, gO, fE, eF, fFn, fLst, fSorted, iD, iA, fO, fNo, xSl, lcItem, gN, gN2, wipeE, lt_int, le_int, gt_int, ge_int, tInt_int, tBool_int, tTuple_mkI, tTuple_mkF, szOk_0, szOk_1, szOk_2, toB_bool, gIsi_ev, nd_int, nd_bool, nd_str, nd_mkI, nd_mkF, nd_tuple, nd_list, itD_mkI, itD_mkF, itD_list, itD_tuple, add_int, sub_int, neg_int, sum_map, all_map, any_map, sl_mkI, sl_mkF, len_mkF, len_mkI, len_list, oInt, oTuple, List.length_map, List.length_cons, List.length_nil, List.map_nil, List.map_cons, List.cons_append, List.nil_append, List.replicate_succ, List.replicate_zero, List.set_cons_zero, List.set_cons_succ, List.getElem?_cons_zero, List.getElem?_cons_succ, List.all_cons, List.all_nil, Bool.and_true, Bool.true_and, Bool.and_false, Bool.false_and, Bool.not_true, Bool.not_false, if_true, if_false, ite_true, ite_false, Bool.false_eq_true, decide_true, decide_false, reduceIte, Nat.reduceLT, Nat.reduceSub, Nat.reduceAdd, Nat.zero_add, List.append_nil, Option.map_some, Option.map_none, v_need_mask h hs, v_thicken_by]
theorem v_levelled {ms : List (List Int)} {ls : List Int} (h : FOk ms) (h0 : 0 < ls.length) (h1 : ls.length ≤ 24) (S : Wd) : Gd (F_levelled [mkF ms, mkI ls]) S fun r S' => S' = S ∧ r = (.list ((lev ms ls).map .int), true) := by
  have a1 : (ls.all fun _ => true) = true := List.all_eq_true.mpr fun _ _ => rfl
  have c1 : xLc (iD (xVar 1)) (gN 2) [2] fYes (eF (fFn F_is_integer 1 (aCons (xVar 2) aNil))) [some (mkF ms), some (mkI ls), none, none, none, none, none, none, none] = M.ret (.list (ls.map fun _ => .bool true)) :=
    xLc_map PyData.int (fun _ => .bool true) rfl fun x _ => rfl
  refine gd_fn ?_
  show Gd (b_levelled ([some (mkF ms), some (mkI ls), none, none, none, none, none, none, none], [])) S _
  unfold b_levelled
  refine gd_seq (gd_drop (gd_eF (gd_call (gd_cons (gd_var rfl (gd_nil ⟨rfl, gd_eq (v_need_filter h.mks h.near h.few h.form) ?_⟩))))))
  refine gd_seq (gd_check (gd_eq (a := false) ?_ ⟨rfl, ?_⟩))
  · simp only [M.ret_bind, lft_ret, quiet_ret, ofO_some, sSeq, sRet, sPass, sIf, sSet, sRetN, sDrop, x1, x2, x3, xVar, xC, xIf, xAnd, xOr, xNot, bV, bAnd, bOr, bNot, fYes, aNil, aCons, xTup, xLst, xCall, gO, fE, eF, fFn, fLst, fSorted, iD, iA, fO, fNo, xSl, lcItem, gN, gN2, wipeE, lt_int, le_int, gt_int, ge_int, tInt_int, tBool_int, tTuple_mkI, tTuple_mkF, szOk_0, szOk_1, szOk_2, toB_bool, gIsi_ev, nd_int, nd_bool, nd_str, nd_mkI, nd_mkF, nd_tuple, nd_list, itD_mkI, itD_mkF, itD_list, itD_tuple, add_int, sub_int, neg_int, sum_map, all_map, any_map, sl_mkI, sl_mkF, len_mkF, len_mkI, len_list, oInt, oTuple, List.length_map, List.length_cons, List.length_nil, List.map_nil, List.map_cons, List.cons_append, List.nil_append, List.replicate_succ, List.replicate_zero, List.set_cons_zero, List.set_cons_succ, List.getElem?_cons_zero, List.getElem?_cons_succ, List.all_cons, List.all_nil, Bool.and_true, Bool.true_and, Bool.and_false, Bool.false_and, Bool.not_true, Bool.not_false, if_true, if_false, ite_true, ite_false, Bool.false_eq_true, decide_true, decide_false, reduceIte, Nat.reduceLT, Nat.reduceSub, Nat.reduceAdd, Nat.zero_add, List.append_nil, Option.map_some, Option.map_none, C_MOST_PLACES, decide_eq_true (show (1 : Int) ≤ ls.length by omega), decide_eq_true (show (ls.length : Int) ≤ 24 by omega)]
  refine gd_seq (gd_check (gd_eq (a := false) ?_ ⟨rfl, ?_⟩))
  · simp only [M.ret_bind, lft_ret, quiet_ret, ofO_some, sSeq, sRet, sPass, sIf, sSet, sRetN, sDrop, x1, x2, x3, xVar, xC, xIf, xAnd, xOr, xNot, bV, bAnd, bOr, bNot, fYes, aNil, aCons, xTup, xLst, xCall, gO, fE, eF, fFn, fLst, fSorted, iD, iA, fO, fNo, xSl, lcItem, gN, gN2, wipeE, lt_int, le_int, gt_int, ge_int, tInt_int, tBool_int, tTuple_mkI, tTuple_mkF, szOk_0, szOk_1, szOk_2, toB_bool, gIsi_ev, nd_int, nd_bool, nd_str, nd_mkI, nd_mkF, nd_tuple, nd_list, itD_mkI, itD_mkF, itD_list, itD_tuple, add_int, sub_int, neg_int, sum_map, all_map, any_map, sl_mkI, sl_mkF, len_mkF, len_mkI, len_list, oInt, oTuple, List.length_map, List.length_cons, List.length_nil, List.map_nil, List.map_cons, List.cons_append, List.nil_append, List.replicate_succ, List.replicate_zero, List.set_cons_zero, List.set_cons_succ, List.getElem?_cons_zero, List.getElem?_cons_succ, List.all_cons, List.all_nil, Bool.and_true, Bool.true_and, Bool.and_false, Bool.false_and, Bool.not_true, Bool.not_false, if_true, if_false, ite_true, ite_false, Bool.false_eq_true, decide_true, decide_false, reduceIte, Nat.reduceLT, Nat.reduceSub, Nat.reduceAdd, Nat.zero_add, List.append_nil, Option.map_some, Option.map_none, c1, a1]
  refine q_asg2F (gd_xCall <| gd_cons <| gd_var rfl <| gd_nil <| gd_eq (lenE_mkI ls) <| gd_fLst <| gd_nil ⟨rfl, ⟨rfl, rfl, by decide⟩, _, inferInstance, _, inferInstance, fun o m => ?_⟩)
  refine q_forR (n := ls.length) (k := fun i : Nat => .int (i : Int)) (fun p τ S' => S' = S ∧ ∃ (a5 a6 : Option D) (o : List Nat), τ = ([some (mkF ms), some (mkI ls), none, some (.int (ls.length : Int)), some (.list ((((List.range p).map fun p : Nat => lvv ms fun o => cyi ls ((p : Int) + o))).map .int)), a5, a6, none, none], o) ∧ 4 ∈ o) ?_ ?_ ?_
  · exact gd_iA <| gd_cons <| gd_var rfl <| gd_nil ⟨_, range_map (by omega), rfl, rfl, _, _, _, rfl, m⟩
  · rintro p τ S' hp ⟨rfl, a5, a6, o2, rfl, m2⟩
    refine ⟨([some (mkF ms), some (mkI ls), none, some (.int (ls.length : Int)), some (.list ((((List.range p).map fun p : Nat => lvv ms fun o => cyi ls ((p : Int) + o))).map .int)), some (.int (p : Int)), a6, none, none], o2.filter (fun j => !([5] : List Nat).contains j)), rfl, ?_⟩
    have m3 : 4 ∈ o2.filter (fun j => !([5] : List Nat).contains j) := List.mem_filter.mpr ⟨m2, by decide⟩
    generalize o2.filter (fun j => !([5] : List Nat).contains j) = o3 at m3
    generalize hfd : ((List.range p).map fun p : Nat => lvv ms fun o => cyi ls ((p : Int) + o)) = fd
    have c2 : ∀ m, m ∈ ms → xLc (iD (xVar 8)) (gN 7) [7] fYes (xCall (gO oInt) (aCons (x2 gIx (xVar 1) (x2 gMod (x2 gAdd (xVar 5) (xVar 7)) (xVar 3))) aNil)) [some (mkF ms), some (mkI ls), none, some (.int (ls.length : Int)), some (.list (fd.map .int)), some (.int (p : Int)), a6, none, some (mkI m)] = M.ret (.list (m.map fun o => .int (cyi ls ((p : Int) + o)))) := fun m hm =>
      xLc_map PyData.int (fun o => .int (cyi ls ((p : Int) + o))) rfl fun o ho => by simp only [M.ret_bind, lft_ret, quiet_ret, ofO_some, sSeq, sRet, sPass, sIf, sSet, sRetN, sDrop, x1, x2, x3, xVar, xC, xIf, xAnd, xOr, xNot, bV, bAnd, bOr, bNot, fYes, aNil, aCons, xTup, xLst, xCall, gO, fE, eF, fFn, fLst, fSorted, iD, iA, fO, fNo, xSl, lcItem, gN, gN2, wipeE, lt_int, le_int, gt_int, ge_int, tInt_int, tBool_int, tTuple_mkI, tTuple_mkF, szOk_0, szOk_1, szOk_2, toB_bool, gIsi_ev, nd_int, nd_bool, nd_str, nd_mkI, nd_mkF, nd_tuple, nd_list, itD_mkI, itD_mkF, itD_list, itD_tuple, add_int, sub_int, neg_int, sum_map, all_map, any_map, sl_mkI, sl_mkF, len_mkF, len_mkI, len_list, oInt, oTuple, List.length_map, List.length_cons, List.length_nil, List.map_nil, List.map_cons, List.cons_append, List.nil_append, List.replicate_succ, List.replicate_zero, List.set_cons_zero, List.set_cons_succ, List.getElem?_cons_zero, List.getElem?_cons_succ, List.all_cons, List.all_nil, Bool.and_true, Bool.true_and, Bool.and_false, Bool.false_and, Bool.not_true, Bool.not_false, if_true, if_false, ite_true, ite_false, Bool.false_eq_true, decide_true, decide_false, reduceIte, Nat.reduceLT, Nat.reduceSub, Nat.reduceAdd, Nat.zero_add, List.append_nil, Option.map_some, Option.map_none, mod_len h0, ix_cyi h0]
    have c3 : xLc (iD (xVar 0)) (gN 8) [8] fYes (xCall (gO oMin) (aCons (xLc (iD (xVar 8)) (gN 7) [7] fYes (xCall (gO oInt) (aCons (x2 gIx (xVar 1) (x2 gMod (x2 gAdd (xVar 5) (xVar 7)) (xVar 3))) aNil))) aNil)) [some (mkF ms), some (mkI ls), none, some (.int (ls.length : Int)), some (.list (fd.map .int)), some (.int (p : Int)), a6, none, none] = M.ret (.list ((ms.map fun m => minL (m.map fun o => cyi ls ((p : Int) + o))).map .int)) := by
      rw [List.map_map]
      exact xLc_map mkI (fun m => .int (minL (m.map fun o => cyi ls ((p : Int) + o)))) rfl fun m hm => by simp only [M.ret_bind, lft_ret, quiet_ret, ofO_some, sSeq, sRet, sPass, sIf, sSet, sRetN, sDrop, x1, x2, x3, xVar, xC, xIf, xAnd, xOr, xNot, bV, bAnd, bOr, bNot, fYes, aNil, aCons, xTup, xLst, xCall, gO, fE, eF, fFn, fLst, fSorted, iD, iA, fO, fNo, xSl, lcItem, gN, gN2, wipeE, lt_int, le_int, gt_int, ge_int, tInt_int, tBool_int, tTuple_mkI, tTuple_mkF, szOk_0, szOk_1, szOk_2, toB_bool, gIsi_ev, nd_int, nd_bool, nd_str, nd_mkI, nd_mkF, nd_tuple, nd_list, itD_mkI, itD_mkF, itD_list, itD_tuple, add_int, sub_int, neg_int, sum_map, all_map, any_map, sl_mkI, sl_mkF, len_mkF, len_mkI, len_list, oInt, oTuple, List.length_map, List.length_cons, List.length_nil, List.map_nil, List.map_cons, List.cons_append, List.nil_append, List.replicate_succ, List.replicate_zero, List.set_cons_zero, List.set_cons_succ, List.getElem?_cons_zero, List.getElem?_cons_succ, List.all_cons, List.all_nil, Bool.and_true, Bool.true_and, Bool.and_false, Bool.false_and, Bool.not_true, Bool.not_false, if_true, if_false, ite_true, ite_false, Bool.false_eq_true, decide_true, decide_false, reduceIte, Nat.reduceLT, Nat.reduceSub, Nat.reduceAdd, Nat.zero_add, List.append_nil, Option.map_some, Option.map_none, c2 m hm, min_map _ (h.mks.full m hm)]
    refine q_setK m3 (e_fLc (gd_eq c3 (stK_ok fun o4 m4 => ?_)))
    have e4 : oMax [.list ((ms.map fun m => minL (m.map fun o => cyi ls ((p : Int) + o))).map .int)] = some (.int (lvv ms fun o => cyi ls ((p : Int) + o))) := by
      rw [List.map_map]
      exact max_map (fun m : List Int => minL (m.map fun o => cyi ls ((p : Int) + o))) h.mks.some
    have lf : fd.length = p := by rw [← hfd, List.length_map, List.length_range]
    refine gd_app (es := fd.map .int) m4 rfl (decide_eq_true (by rw [List.length_map]; omega)) (gd_eq (a := .int (lvv ms fun o => cyi ls ((p : Int) + o))) (by simp only [M.ret_bind, lft_ret, quiet_ret, ofO_some, sSeq, sRet, sPass, sIf, sSet, sRetN, sDrop, x1, x2, x3, xVar, xC, xIf, xAnd, xOr, xNot, bV, bAnd, bOr, bNot, fYes, aNil, aCons, xTup, xLst, xCall, gO, fE, eF, fFn, fLst, fSorted, iD, iA, fO, fNo, xSl, lcItem, gN, gN2, wipeE, lt_int, le_int, gt_int, ge_int, tInt_int, tBool_int, tTuple_mkI, tTuple_mkF, szOk_0, szOk_1, szOk_2, toB_bool, gIsi_ev, nd_int, nd_bool, nd_str, nd_mkI, nd_mkF, nd_tuple, nd_list, itD_mkI, itD_mkF, itD_list, itD_tuple, add_int, sub_int, neg_int, sum_map, all_map, any_map, sl_mkI, sl_mkF, len_mkF, len_mkI, len_list, oInt, oTuple, List.length_map, List.length_cons, List.length_nil, List.map_nil, List.map_cons, List.cons_append, List.nil_append, List.replicate_succ, List.replicate_zero, List.set_cons_zero, List.set_cons_succ, List.getElem?_cons_zero, List.getElem?_cons_succ, List.all_cons, List.all_nil, Bool.and_true, Bool.true_and, Bool.and_false, Bool.false_and, Bool.not_true, Bool.not_false, if_true, if_false, ite_true, ite_false, Bool.false_eq_true, decide_true, decide_false, reduceIte, Nat.reduceLT, Nat.reduceSub, Nat.reduceAdd, Nat.zero_add, List.append_nil, Option.map_some, Option.map_none, e4]) ⟨rfl, rfl, some (.int (p : Int)), some (.list ((ms.map fun m => minL (m.map fun o => cyi ls ((p : Int) + o))).map .int)), o4, ?_, m4⟩)
    rw [List.range_succ, List.map_append, hfd, List.map_append]
    rfl
  · rintro τ S' ⟨rfl, a5, a6, o2, rfl, m2⟩
    exact gd_retO rfl m2 ⟨rfl, rfl⟩
theorem sp_levelled {d e : D} {x : List (List Int)} {ls : List Int} {a b : Int} {n : Nat} [i : IsF d x] [j : IsI e ls] [h : Fr x a b] [l : Ln ls n] {S : Wd} {P : D × Bool → Wd → Prop} (q : P (.list ((lev x ls).map .int), true) S) (hs : b - a ≤ 8 ∧ n ≤ 24 := by first | decide | omega) : Gd (F_levelled [d, e]) S P := by
  rw [i.eq, j.eq]
  refine gd_mono (v_levelled (h.ok hs.1) l.pos (by have := l.le; have := hs.2; omega) S) ?_
  rintro r S' ⟨rfl, rfl⟩
  exact q
theorem v__law_lies {a b : List Bool} (ha : a.length ≤ 1000) : F__law_lies [rt a, rt b] = M.ret (.bool (lies a b), false) := by
  have c1 : xLc (iA oZipS (aCons (xVar 0) (aCons (xVar 1) aNil))) (gN2 2 3) [2, 3] fYes (x2 gAdd (xVar 2) (xVar 3)) [some (rt a), some (rt b), none, none] = M.ret (.list ((a.zip b).map fun p => rt [p.1, p.2])) :=
    xLc_map (fun p : Bool × Bool => .tuple [sgD p.1, sgD p.2]) (fun p => rt [p.1, p.2]) (by simp only [M.ret_bind, lft_ret, quiet_ret, ofO_some, sSeq, sRet, sPass, sIf, sSet, sRetN, sDrop, x1, x2, x3, xVar, xC, xIf, xAnd, xOr, xNot, bV, bAnd, bOr, bNot, fYes, aNil, aCons, xTup, xLst, xCall, gO, fE, eF, fFn, fLst, fSorted, iD, iA, fO, fNo, xSl, lcItem, gN, gN2, wipeE, lt_int, le_int, gt_int, ge_int, tInt_int, tBool_int, tTuple_mkI, tTuple_mkF, szOk_0, szOk_1, szOk_2, toB_bool, gIsi_ev, nd_int, nd_bool, nd_str, nd_mkI, nd_mkF, nd_tuple, nd_list, itD_mkI, itD_mkF, itD_list, itD_tuple, add_int, sub_int, neg_int, sum_map, all_map, any_map, sl_mkI, sl_mkF, len_mkF, len_mkI, len_list, oInt, oTuple, List.length_map, List.length_cons, List.length_nil, List.map_nil, List.map_cons, List.cons_append, List.nil_append, List.replicate_succ, List.replicate_zero, List.set_cons_zero, List.set_cons_succ, List.getElem?_cons_zero, List.getElem?_cons_succ, List.all_cons, List.all_nil, Bool.and_true, Bool.true_and, Bool.and_false, Bool.false_and, Bool.not_true, Bool.not_false, if_true, if_false, ite_true, ite_false, Bool.false_eq_true, decide_true, decide_false, reduceIte, Nat.reduceLT, Nat.reduceSub, Nat.reduceAdd, Nat.zero_add, List.append_nil, Option.map_some, Option.map_none, zipS_rt ha]) fun p hp => by
      simp only [M.ret_bind, lft_ret, quiet_ret, ofO_some, sSeq, sRet, sPass, sIf, sSet, sRetN, sDrop, x1, x2, x3, xVar, xC, xIf, xAnd, xOr, xNot, bV, bAnd, bOr, bNot, fYes, aNil, aCons, xTup, xLst, xCall, gO, fE, eF, fFn, fLst, fSorted, iD, iA, fO, fNo, xSl, lcItem, gN, gN2, wipeE, lt_int, le_int, gt_int, ge_int, tInt_int, tBool_int, tTuple_mkI, tTuple_mkF, szOk_0, szOk_1, szOk_2, toB_bool, gIsi_ev, nd_int, nd_bool, nd_str, nd_mkI, nd_mkF, nd_tuple, nd_list, itD_mkI, itD_mkF, itD_list, itD_tuple, add_int, sub_int, neg_int, sum_map, all_map, any_map, sl_mkI, sl_mkF, len_mkF, len_mkI, len_list, oInt, oTuple, List.length_map, List.length_cons, List.length_nil, List.map_nil, List.map_cons, List.cons_append, List.nil_append, List.replicate_succ, List.replicate_zero, List.set_cons_zero, List.set_cons_succ, List.getElem?_cons_zero, List.getElem?_cons_succ, List.all_cons, List.all_nil, Bool.and_true, Bool.true_and, Bool.and_false, Bool.false_and, Bool.not_true, Bool.not_false, if_true, if_false, ite_true, ite_false, Bool.false_eq_true, decide_true, decide_false, reduceIte, Nat.reduceLT, Nat.reduceSub, Nat.reduceAdd, Nat.zero_add, List.append_nil, Option.map_some, Option.map_none, add_sg]
      rfl
  have e1 : gNotIn (.str "#.") (.list ((a.zip b).map fun p => rt [p.1, p.2])) = M.ret (.bool (!!lies a b)) := by
    unfold gNotIn
    rw [in_db]
    rfl
  refine fn_ret (τ := ([some (rt a), some (rt b), none, none], [])) ?_
  show b__law_lies ([some (rt a), some (rt b), none, none], []) = _
  unfold b__law_lies
  simp only [M.ret_bind, lft_ret, quiet_ret, ofO_some, sSeq, sRet, sPass, sIf, sSet, sRetN, sDrop, x1, x2, x3, xVar, xC, xIf, xAnd, xOr, xNot, bV, bAnd, bOr, bNot, fYes, aNil, aCons, xTup, xLst, xCall, gO, fE, eF, fFn, fLst, fSorted, iD, iA, fO, fNo, xSl, lcItem, gN, gN2, wipeE, lt_int, le_int, gt_int, ge_int, tInt_int, tBool_int, tTuple_mkI, tTuple_mkF, szOk_0, szOk_1, szOk_2, toB_bool, gIsi_ev, nd_int, nd_bool, nd_str, nd_mkI, nd_mkF, nd_tuple, nd_list, itD_mkI, itD_mkF, itD_list, itD_tuple, add_int, sub_int, neg_int, sum_map, all_map, any_map, sl_mkI, sl_mkF, len_mkF, len_mkI, len_list, oInt, oTuple, List.length_map, List.length_cons, List.length_nil, List.map_nil, List.map_cons, List.cons_append, List.nil_append, List.replicate_succ, List.replicate_zero, List.set_cons_zero, List.set_cons_succ, List.getElem?_cons_zero, List.getElem?_cons_succ, List.all_cons, List.all_nil, Bool.and_true, Bool.true_and, Bool.and_false, Bool.false_and, Bool.not_true, Bool.not_false, if_true, if_false, ite_true, ite_false, Bool.false_eq_true, decide_true, decide_false, reduceIte, Nat.reduceLT, Nat.reduceSub, Nat.reduceAdd, Nat.zero_add, List.append_nil, Option.map_some, Option.map_none, c1, e1, Bool.not_not]
theorem sp__law_lies {d e : D} {x y : List Bool} {n : Nat} [i : IsR d x] [j : IsR e y] [r : Rn x n] {S : Wd} {P : D × Bool → Wd → Prop} (q : P (.bool (lies x y), false) S) (hn : n ≤ 1000 := by first | decide | omega) : Gd (F__law_lies [d, e]) S P := by
  rw [i.eq, j.eq]
  exact gd_eq (v__law_lies (by have := r.le; omega)) q
theorem v__law_joined {a b : List Bool} (ha : a.length ≤ 1000) : F__law_joined [rt a, rt b] = M.ret (rt (por a b), false) := by
  have c1 : xLc (iA oZipS (aCons (xVar 0) (aCons (xVar 1) aNil))) (gN2 2 3) [2, 3] fYes (xIf (bV (x2 gIn (xC (.str "#")) (xLst (aCons (xVar 2) (aCons (xVar 3) aNil))))) (xC (.str "#")) (xC (.str "."))) [some (rt a), some (rt b), none, none] = M.ret (.list ((por a b).map sgD)) := by
    unfold por
    rw [List.map_map]
    exact xLc_map (fun p : Bool × Bool => .tuple [sgD p.1, sgD p.2]) (fun p => sgD (p.1 || p.2)) (by simp only [M.ret_bind, lft_ret, quiet_ret, ofO_some, sSeq, sRet, sPass, sIf, sSet, sRetN, sDrop, x1, x2, x3, xVar, xC, xIf, xAnd, xOr, xNot, bV, bAnd, bOr, bNot, fYes, aNil, aCons, xTup, xLst, xCall, gO, fE, eF, fFn, fLst, fSorted, iD, iA, fO, fNo, xSl, lcItem, gN, gN2, wipeE, lt_int, le_int, gt_int, ge_int, tInt_int, tBool_int, tTuple_mkI, tTuple_mkF, szOk_0, szOk_1, szOk_2, toB_bool, gIsi_ev, nd_int, nd_bool, nd_str, nd_mkI, nd_mkF, nd_tuple, nd_list, itD_mkI, itD_mkF, itD_list, itD_tuple, add_int, sub_int, neg_int, sum_map, all_map, any_map, sl_mkI, sl_mkF, len_mkF, len_mkI, len_list, oInt, oTuple, List.length_map, List.length_cons, List.length_nil, List.map_nil, List.map_cons, List.cons_append, List.nil_append, List.replicate_succ, List.replicate_zero, List.set_cons_zero, List.set_cons_succ, List.getElem?_cons_zero, List.getElem?_cons_succ, List.all_cons, List.all_nil, Bool.and_true, Bool.true_and, Bool.and_false, Bool.false_and, Bool.not_true, Bool.not_false, if_true, if_false, ite_true, ite_false, Bool.false_eq_true, decide_true, decide_false, reduceIte, Nat.reduceLT, Nat.reduceSub, Nat.reduceAdd, Nat.zero_add, List.append_nil, Option.map_some, Option.map_none, zipS_rt ha]) fun p hp => by
      obtain ⟨u, v⟩ := p
      have e : gIn (sgD true) (.list [sgD u, sgD v]) = M.ret (.bool (u || v)) := by
        have := cod_rt.inL (by decide) [true] [[u], [v]]
        rw [show (PyData.list ([[u], [v]].map rt) : D) = .list [sgD u, sgD v] from rfl] at this
        refine Eq.trans this ?_
        cases u <;> cases v <;> rfl
      have n0 : ∀ b : Bool, nd (sgD b) = true := fun b => rfl
      simp only [M.ret_bind, lft_ret, quiet_ret, ofO_some, sSeq, sRet, sPass, sIf, sSet, sRetN, sDrop, x1, x2, x3, xVar, xC, xIf, xAnd, xOr, xNot, bV, bAnd, bOr, bNot, fYes, aNil, aCons, xTup, xLst, xCall, gO, fE, eF, fFn, fLst, fSorted, iD, iA, fO, fNo, xSl, lcItem, gN, gN2, wipeE, lt_int, le_int, gt_int, ge_int, tInt_int, tBool_int, tTuple_mkI, tTuple_mkF, szOk_0, szOk_1, szOk_2, toB_bool, gIsi_ev, nd_int, nd_bool, nd_str, nd_mkI, nd_mkF, nd_tuple, nd_list, itD_mkI, itD_mkF, itD_list, itD_tuple, add_int, sub_int, neg_int, sum_map, all_map, any_map, sl_mkI, sl_mkF, len_mkF, len_mkI, len_list, oInt, oTuple, List.length_map, List.length_cons, List.length_nil, List.map_nil, List.map_cons, List.cons_append, List.nil_append, List.replicate_succ, List.replicate_zero, List.set_cons_zero, List.set_cons_succ, List.getElem?_cons_zero, List.getElem?_cons_succ, List.all_cons, List.all_nil, Bool.and_true, Bool.true_and, Bool.and_false, Bool.false_and, Bool.not_true, Bool.not_false, if_true, if_false, ite_true, ite_false, Bool.false_eq_true, decide_true, decide_false, reduceIte, Nat.reduceLT, Nat.reduceSub, Nat.reduceAdd, Nat.zero_add, List.append_nil, Option.map_some, Option.map_none, dot_sg, blank_sg, n0, e]
      cases u <;> cases v <;> rfl
  have e2 : xJoin (xC (.str "")) (xLc (iA oZipS (aCons (xVar 0) (aCons (xVar 1) aNil))) (gN2 2 3) [2, 3] fYes (xIf (bV (x2 gIn (xC (.str "#")) (xLst (aCons (xVar 2) (aCons (xVar 3) aNil))))) (xC (.str "#")) (xC (.str ".")))) [some (rt a), some (rt b), none, none] = M.ret (rt (por a b)) :=
    eq_of_gd fun S => gd_xJoin <| gd_con ⟨_, rfl, gd_eq c1 <| gd_eq (join_rt (by rw [por_len]; omega)) ⟨rfl, rfl⟩⟩
  refine fn_ret (τ := ([some (rt a), some (rt b), none, none], [])) ?_
  show b__law_joined ([some (rt a), some (rt b), none, none], []) = _
  unfold b__law_joined
  simp only [M.ret_bind, lft_ret, quiet_ret, ofO_some, sSeq, sRet, sPass, sIf, sSet, sRetN, sDrop, x1, x2, x3, xVar, xC, xIf, xAnd, xOr, xNot, bV, bAnd, bOr, bNot, fYes, aNil, aCons, xTup, xLst, xCall, gO, fE, eF, fFn, fLst, fSorted, iD, iA, fO, fNo, xSl, lcItem, gN, gN2, wipeE, lt_int, le_int, gt_int, ge_int, tInt_int, tBool_int, tTuple_mkI, tTuple_mkF, szOk_0, szOk_1, szOk_2, toB_bool, gIsi_ev, nd_int, nd_bool, nd_str, nd_mkI, nd_mkF, nd_tuple, nd_list, itD_mkI, itD_mkF, itD_list, itD_tuple, add_int, sub_int, neg_int, sum_map, all_map, any_map, sl_mkI, sl_mkF, len_mkF, len_mkI, len_list, oInt, oTuple, List.length_map, List.length_cons, List.length_nil, List.map_nil, List.map_cons, List.cons_append, List.nil_append, List.replicate_succ, List.replicate_zero, List.set_cons_zero, List.set_cons_succ, List.getElem?_cons_zero, List.getElem?_cons_succ, List.all_cons, List.all_nil, Bool.and_true, Bool.true_and, Bool.and_false, Bool.false_and, Bool.not_true, Bool.not_false, if_true, if_false, ite_true, ite_false, Bool.false_eq_true, decide_true, decide_false, reduceIte, Nat.reduceLT, Nat.reduceSub, Nat.reduceAdd, Nat.zero_add, List.append_nil, Option.map_some, Option.map_none, e2]
theorem sp__law_joined {d e : D} {x y : List Bool} {n : Nat} [i : IsR d x] [j : IsR e y] [r : Rn x n] {S : Wd} {P : D × Bool → Wd → Prop} (q : P (rt (por x y), false) S) (hn : n ≤ 1000 := by first | decide | omega) : Gd (F__law_joined [d, e]) S P := by
  rw [i.eq, j.eq]
  exact gd_eq (v__law_joined (by have := r.le; omega)) q
theorem v__law_shared {a b : List Bool} (ha : a.length ≤ 1000) : F__law_shared [rt a, rt b] = M.ret (rt (pand a b), false) := by
  have c1 : xLc (iA oZipS (aCons (xVar 0) (aCons (xVar 1) aNil))) (gN2 2 3) [2, 3] fYes (xIf (bV (x3 gEq gEq (xVar 2) (xVar 3) (xC (.str "#")))) (xC (.str "#")) (xC (.str "."))) [some (rt a), some (rt b), none, none] = M.ret (.list ((pand a b).map sgD)) := by
    unfold pand
    rw [List.map_map]
    exact xLc_map (fun p : Bool × Bool => .tuple [sgD p.1, sgD p.2]) (fun p => sgD (p.1 && p.2)) (by simp only [M.ret_bind, lft_ret, quiet_ret, ofO_some, sSeq, sRet, sPass, sIf, sSet, sRetN, sDrop, x1, x2, x3, xVar, xC, xIf, xAnd, xOr, xNot, bV, bAnd, bOr, bNot, fYes, aNil, aCons, xTup, xLst, xCall, gO, fE, eF, fFn, fLst, fSorted, iD, iA, fO, fNo, xSl, lcItem, gN, gN2, wipeE, lt_int, le_int, gt_int, ge_int, tInt_int, tBool_int, tTuple_mkI, tTuple_mkF, szOk_0, szOk_1, szOk_2, toB_bool, gIsi_ev, nd_int, nd_bool, nd_str, nd_mkI, nd_mkF, nd_tuple, nd_list, itD_mkI, itD_mkF, itD_list, itD_tuple, add_int, sub_int, neg_int, sum_map, all_map, any_map, sl_mkI, sl_mkF, len_mkF, len_mkI, len_list, oInt, oTuple, List.length_map, List.length_cons, List.length_nil, List.map_nil, List.map_cons, List.cons_append, List.nil_append, List.replicate_succ, List.replicate_zero, List.set_cons_zero, List.set_cons_succ, List.getElem?_cons_zero, List.getElem?_cons_succ, List.all_cons, List.all_nil, Bool.and_true, Bool.true_and, Bool.and_false, Bool.false_and, Bool.not_true, Bool.not_false, if_true, if_false, ite_true, ite_false, Bool.false_eq_true, decide_true, decide_false, reduceIte, Nat.reduceLT, Nat.reduceSub, Nat.reduceAdd, Nat.zero_add, List.append_nil, Option.map_some, Option.map_none, zipS_rt ha]) fun p hp => by
      obtain ⟨u, v⟩ := p
      have e : ∀ u v : Bool, gEq (sgD u) (sgD v) = M.ret (.bool (u == v)) := eq_sgs
      simp only [M.ret_bind, lft_ret, quiet_ret, ofO_some, sSeq, sRet, sPass, sIf, sSet, sRetN, sDrop, x1, x2, x3, xVar, xC, xIf, xAnd, xOr, xNot, bV, bAnd, bOr, bNot, fYes, aNil, aCons, xTup, xLst, xCall, gO, fE, eF, fFn, fLst, fSorted, iD, iA, fO, fNo, xSl, lcItem, gN, gN2, wipeE, lt_int, le_int, gt_int, ge_int, tInt_int, tBool_int, tTuple_mkI, tTuple_mkF, szOk_0, szOk_1, szOk_2, toB_bool, gIsi_ev, nd_int, nd_bool, nd_str, nd_mkI, nd_mkF, nd_tuple, nd_list, itD_mkI, itD_mkF, itD_list, itD_tuple, add_int, sub_int, neg_int, sum_map, all_map, any_map, sl_mkI, sl_mkF, len_mkF, len_mkI, len_list, oInt, oTuple, List.length_map, List.length_cons, List.length_nil, List.map_nil, List.map_cons, List.cons_append, List.nil_append, List.replicate_succ, List.replicate_zero, List.set_cons_zero, List.set_cons_succ, List.getElem?_cons_zero, List.getElem?_cons_succ, List.all_cons, List.all_nil, Bool.and_true, Bool.true_and, Bool.and_false, Bool.false_and, Bool.not_true, Bool.not_false, if_true, if_false, ite_true, ite_false, Bool.false_eq_true, decide_true, decide_false, reduceIte, Nat.reduceLT, Nat.reduceSub, Nat.reduceAdd, Nat.zero_add, List.append_nil, Option.map_some, Option.map_none, e, dot_sg, blank_sg]
      cases u <;> cases v <;> rfl
  have e2 : xJoin (xC (.str "")) (xLc (iA oZipS (aCons (xVar 0) (aCons (xVar 1) aNil))) (gN2 2 3) [2, 3] fYes (xIf (bV (x3 gEq gEq (xVar 2) (xVar 3) (xC (.str "#")))) (xC (.str "#")) (xC (.str ".")))) [some (rt a), some (rt b), none, none] = M.ret (rt (pand a b)) :=
    eq_of_gd fun S => gd_xJoin <| gd_con ⟨_, rfl, gd_eq c1 <| gd_eq (join_rt (by rw [pand_len]; omega)) ⟨rfl, rfl⟩⟩
  refine fn_ret (τ := ([some (rt a), some (rt b), none, none], [])) ?_
  show b__law_shared ([some (rt a), some (rt b), none, none], []) = _
  unfold b__law_shared
  simp only [M.ret_bind, lft_ret, quiet_ret, ofO_some, sSeq, sRet, sPass, sIf, sSet, sRetN, sDrop, x1, x2, x3, xVar, xC, xIf, xAnd, xOr, xNot, bV, bAnd, bOr, bNot, fYes, aNil, aCons, xTup, xLst, xCall, gO, fE, eF, fFn, fLst, fSorted, iD, iA, fO, fNo, xSl, lcItem, gN, gN2, wipeE, lt_int, le_int, gt_int, ge_int, tInt_int, tBool_int, tTuple_mkI, tTuple_mkF, szOk_0, szOk_1, szOk_2, toB_bool, gIsi_ev, nd_int, nd_bool, nd_str, nd_mkI, nd_mkF, nd_tuple, nd_list, itD_mkI, itD_mkF, itD_list, itD_tuple, add_int, sub_int, neg_int, sum_map, all_map, any_map, sl_mkI, sl_mkF, len_mkF, len_mkI, len_list, oInt, oTuple, List.length_map, List.length_cons, List.length_nil, List.map_nil, List.map_cons, List.cons_append, List.nil_append, List.replicate_succ, List.replicate_zero, List.set_cons_zero, List.set_cons_succ, List.getElem?_cons_zero, List.getElem?_cons_succ, List.all_cons, List.all_nil, Bool.and_true, Bool.true_and, Bool.and_false, Bool.false_and, Bool.not_true, Bool.not_false, if_true, if_false, ite_true, ite_false, Bool.false_eq_true, decide_true, decide_false, reduceIte, Nat.reduceLT, Nat.reduceSub, Nat.reduceAdd, Nat.zero_add, List.append_nil, Option.map_some, Option.map_none, e2]
theorem sp__law_shared {d e : D} {x y : List Bool} {n : Nat} [i : IsR d x] [j : IsR e y] [r : Rn x n] {S : Wd} {P : D × Bool → Wd → Prop} (q : P (rt (pand x y), false) S) (hn : n ≤ 1000 := by first | decide | omega) : Gd (F__law_shared [d, e]) S P := by
  rw [i.eq, j.eq]
  exact gd_eq (v__law_shared (by have := r.le; omega)) q
theorem sp_filtered {d e : D} {x : List (List Int)} {bs : List Bool} {a b : Int} {n : Nat} [i : IsF d x] [j : IsR e bs] [h : Fr x a b] [r : Rn bs n] {S : Wd} {P : D × Bool → Wd → Prop} (q : P (rt (app x bs), false) S) (hs : b - a ≤ 8 ∧ n ≤ 24 := by first | decide | omega) : Gd (F_filtered [d, e]) S P := by
  rw [i.eq, j.eq]
  have o := h.ok hs.1
  exact gd_eq (v_filtered o.mks o.near o.few o.form r.pos (by have := r.le; have := hs.2; omega)) q
theorem sp_thinning {d : D} {m : List Int} {a b : Int} [i : IsI d m] [h : Mk m a b] {S : Wd} {P : D × Bool → Wd → Prop} (q : P (mkF [m], false) S) (hs : b - a ≤ 8 := by first | decide | omega) : Gd (F_thinning [d]) S P := by
  rw [i.eq]
  exact gd_eq (v_thinning h hs) q
theorem sp_thickening {d : D} {m : List Int} {a b : Int} [i : IsI d m] [h : Mk m a b] {S : Wd} {P : D × Bool → Wd → Prop} (q : P (mkF (thick m), false) S) (hs : b - a ≤ 8 := by first | decide | omega) : Gd (F_thickening [d]) S P := by
  rw [i.eq]
  exact gd_eq (v_thickening h hs) q
theorem sp_is_filter {d : D} {x : List (List Int)} {a b : Int} [i : IsF d x] [h : Fr x a b] {S : Wd} {P : D × Bool → Wd → Prop} (q : P (.bool true, false) S) (hs : b - a ≤ 8 := by first | decide | omega) : Gd (F_is_filter [d]) S P := by
  rw [i.eq]
  have o := h.ok hs
  refine gd_eq (v_is_filter o.mks o.near o.few) ?_
  rw [decide_eq_true o.form]
  exact q
theorem sp__law_draw {n : Nat} {size : Int} {S : Wd} {P : D × Bool → Wd → Prop} (s : Src S n) (q : ∀ (k : Nat) (S' : Wd) (fr : Bool), Src S' n → (k : Int) < size → P (.int (k : Int), fr) S') (hs : 0 < size ∧ size < 1152921504606846976 := by first | decide | omega) : Gd (F__law_draw [hnd n, .int size]) S P := by
  have e : size = (size.toNat : Int) := by omega
  rw [e]
  refine gd_mono (v__law_draw s (size := size.toNat) (by omega) (by omega)) ?_
  rintro ⟨d, fr⟩ S' ⟨s', k, hk, rfl⟩
  exact q k S' fr s' (by omega)
theorem sp__law_choiceN {n c : Nat} {ds : List D} {m : List Int} [i : IsIs ds m] [l : LenR ds c] {S : Wd} {P : D × Bool → Wd → Prop} (s : Src S n) (q : ∀ (k : Int) (S' : Wd) (fr : Bool), Src S' n → k ∈ m → P (.int k, fr) S') (hs : 0 < c ∧ c < 1073741824 := by first | decide | omega) : Gd (F__law_choice [hnd n, .list ds]) S P := by
  refine gd_mono (v__law_choice s (by rw [l.eq]; exact hs.1) (by rw [l.eq]; exact hs.2)) ?_
  rintro ⟨d, fr⟩ S' ⟨s', hm⟩
  rw [i.eq] at hm
  obtain ⟨k, hk, rfl⟩ := List.mem_map.mp hm
  exact q k S' fr s' hk
theorem sp__law_mask {n : Nat} {k : Int} {S : Wd} {P : D × Bool → Wd → Prop} (s : Src S n) (q : ∀ (m : List Int) (S' : Wd) (fr : Bool), Src S' n → Mk m (-k) k → P (mkI m, fr) S') (hs : 0 ≤ k ∧ k ≤ 100 := by first | decide | omega) : Gd (F__law_mask [hnd n, .int k]) S P := by
  have e : k = (k.toNat : Int) := by omega
  rw [e]
  refine gd_mono (v__law_mask s (k := k.toNat) (by omega)) ?_
  rintro ⟨d, fr⟩ S' ⟨s', m, rfl, hm⟩
  rw [← e] at hm
  exact q m S' fr s' hm.mkc
theorem sp__law_filter {n : Nat} {k : Int} {S : Wd} {P : D × Bool → Wd → Prop} (s : Src S n) (q : ∀ (ms : List (List Int)) (S' : Wd) (fr : Bool), Src S' n → Lm ms 5 → Fr ms (-k) k → P (mkF ms, fr) S') (hs : 0 ≤ k ∧ k ≤ 100 := by first | decide | omega) : Gd (F__law_filter [hnd n, .int k]) S P := by
  have e : k = (k.toNat : Int) := by omega
  rw [e]
  refine gd_mono (v__law_filter s (k := k.toNat) (by omega)) ?_
  rintro ⟨d, fr⟩ S' ⟨s', m, rfl, hm⟩
  rw [← e] at hm
  exact q m S' fr s' ⟨hm.few⟩ hm.fr
theorem sp__law_ring {n : Nat} {k : Int} {S : Wd} {P : D × Bool → Wd → Prop} (s : Src S n) (q : ∀ (bs : List Bool) (S' : Wd) (fr : Bool), Src S' n → Rn bs k.toNat → P (rt bs, fr) S') (hs : 0 < k ∧ k ≤ 1000 := by first | decide | omega) : Gd (F__law_ring [hnd n, .int k]) S P := by
  have e : k = (k.toNat : Int) := by omega
  rw [e]
  refine gd_mono (v__law_ring s (k := k.toNat) (by omega) (by omega)) ?_
  rintro ⟨d, fr⟩ S' ⟨s', bs, rfl, h1, h2⟩
  exact q bs S' fr s' ⟨h1, h2⟩
theorem sp__law_least {d : D} {x : List (List Int)} {a b : Int} {n : Nat} [i : IsL d x] [h : Ms x a b] [l : Lm x n] {S : Wd} {P : D × Bool → Wd → Prop} (q : P (mkF (mins x), false) S) (hn : n < 64 := by first | decide | omega) : Gd (F__law_least [d]) S P := by
  rw [i.eq]
  exact gd_eq (v__law_least h.mks.asc h.mks.full (by have := l.le; omega)) q
theorem sp__law_choiceD {n c : Nat} {ds : List D} [l : LenR ds c] {S : Wd} {P : D × Bool → Wd → Prop} (s : Src S n) (q : ∀ (d : D) (S' : Wd) (fr : Bool), Src S' n → d ∈ ds → P (d, fr) S') (hs : 0 < c ∧ c < 1073741824 := by first | decide | omega) : Gd (F__law_choice [hnd n, .list ds]) S P := by
  refine gd_mono (v__law_choice s (by rw [l.eq]; exact hs.1) (by rw [l.eq]; exact hs.2)) ?_
  rintro ⟨d, fr⟩ S' ⟨s', hm⟩
  exact q d S' fr s' hm
end Lw
end DL
end L2

set_option Elab.async false
set_option linter.all false
set_option maxRecDepth 100000
set_option maxHeartbeats 4000000
namespace L2
namespace DL
namespace Lw
open PySem PySem.Spec PyProof.Rows

theorem k39_other {n : Nat} {S : Wd} (s : Src S n) {bs : List Bool} (hl : bs.length ≤ 24) {d0 d1 d3 d4 d6 d7 d8 d9 d10 d11 d12 d13 d14 d15 d16 d17 d18 d19 : Option D} : Gd (xJoin (xC (.str "")) (xLc (iD (xVar 5)) (gN 7) [7] fYes (eF (fFn F__law_choice 2 (aCons (xVar 2) (aCons (xLst (aCons (xC (.str "#")) (aCons (xC (.str ".")) aNil))) aNil))))) [d0, d1, some (hnd n), d3, d4, some (rt bs), d6, d7, d8, d9, d10, d11, d12, d13, d14, d15, d16, d17, d18, d19]) S fun d S' => Src S' n ∧ ∃ cs : List Bool, d = rt cs ∧ cs.length = bs.length := by
  refine gd_xJoin <| gd_con ⟨_, rfl, gd_xLc sgD (fun _ o => ∃ b, o = some (sgD b) ∧ True) (fun S => Src S n) (as := bs) (gd_eq (a := bs.map sgD) (by simp only [M.ret_bind, lft_ret, quiet_ret, ofO_some, sSeq, sRet, sPass, sIf, sSet, sRetN, sDrop, x1, x2, x3, xVar, xC, xIf, xAnd, xOr, xNot, bV, bAnd, bOr, bNot, fYes, aNil, aCons, xTup, xLst, xCall, gO, fE, eF, fFn, fLst, fSorted, iD, iA, fO, fNo, xSl, lcItem, gN, gN2, wipeE, lt_int, le_int, gt_int, ge_int, tInt_int, tBool_int, tTuple_mkI, tTuple_mkF, szOk_0, szOk_1, szOk_2, toB_bool, gIsi_ev, nd_int, nd_bool, nd_str, nd_mkI, nd_mkF, nd_tuple, nd_list, itD_mkI, itD_mkF, itD_list, itD_tuple, add_int, sub_int, neg_int, sum_map, all_map, any_map, sl_mkI, sl_mkF, len_mkF, len_mkI, len_list, oInt, oTuple, List.length_map, List.length_cons, List.length_nil, List.map_nil, List.map_cons, List.cons_append, List.nil_append, List.replicate_succ, List.replicate_zero, List.set_cons_zero, List.set_cons_succ, List.getElem?_cons_zero, List.getElem?_cons_succ, List.all_cons, List.all_nil, Bool.and_true, Bool.true_and, Bool.and_false, Bool.false_and, Bool.not_true, Bool.not_false, if_true, if_false, ite_true, ite_false, Bool.false_eq_true, decide_true, decide_false, reduceIte, Nat.reduceLT, Nat.reduceSub, Nat.reduceAdd, Nat.zero_add, List.append_nil, Option.map_some, Option.map_none, it_rt (show bs.length ≤ 1000 by omega)]) ⟨rfl, s⟩) ?_ ?_⟩
  · intro b S1 hb s1
    refine gd_item rfl <| gd_yes ⟨fun _ => ?_, fun z => by cases z⟩
    refine gd_eF <| gd_call <| gd_cons <| gd_var rfl <| gd_cons <| gd_xLst <| gd_cons <| gd_con <| gd_cons <| gd_con <| gd_nil ⟨rfl, gd_nil ⟨rfl, gd_mono (v__law_choice s1 (by decide) (by decide)) ?_⟩⟩
    rintro ⟨d, fr⟩ S2 ⟨s2, hr⟩
    have : d = sgD true ∨ d = sgD false := by
      rcases List.mem_cons.mp hr with e | e
      · exact .inl (e.trans dot_sg)
      · exact .inr ((List.mem_singleton.mp e).trans blank_sg)
    rcases this with rfl | rfl
    · exact ⟨rfl, ⟨true, rfl, trivial⟩, s2⟩
    · exact ⟨rfl, ⟨false, rfl, trivial⟩, s2⟩
  · intro os S3 s3 pr
    obtain ⟨cs, e, l, p⟩ := paired_all pr
    rw [e]
    exact gd_eq (join_rt (by omega)) ⟨s3, cs, rfl, l⟩
theorem k39_levels {n : Nat} {S : Wd} (s : Src S n) {bs : List Bool} (hl : bs.length ≤ 24) {d0 d1 d3 d4 d6 d7 d8 d9 d10 d11 d12 d13 d14 d15 d16 d17 d18 d19 : Option D} : Gd (xLc (iD (xVar 5)) (gN 7) [7] fYes (eF (fFn F__law_draw 2 (aCons (xVar 2) (aCons (xC (.int 6)) aNil)))) [d0, d1, some (hnd n), d3, d4, some (rt bs), d6, d7, d8, d9, d10, d11, d12, d13, d14, d15, d16, d17, d18, d19]) S fun d S' => Src S' n ∧ ∃ ls : List Int, d = .list (ls.map .int) ∧ ls.length = bs.length := by
  refine gd_xLc sgD (fun _ o => ∃ x : Int, o = some (.int x) ∧ True) (fun S => Src S n) (as := bs) (gd_eq (a := bs.map sgD) (by simp only [M.ret_bind, lft_ret, quiet_ret, ofO_some, sSeq, sRet, sPass, sIf, sSet, sRetN, sDrop, x1, x2, x3, xVar, xC, xIf, xAnd, xOr, xNot, bV, bAnd, bOr, bNot, fYes, aNil, aCons, xTup, xLst, xCall, gO, fE, eF, fFn, fLst, fSorted, iD, iA, fO, fNo, xSl, lcItem, gN, gN2, wipeE, lt_int, le_int, gt_int, ge_int, tInt_int, tBool_int, tTuple_mkI, tTuple_mkF, szOk_0, szOk_1, szOk_2, toB_bool, gIsi_ev, nd_int, nd_bool, nd_str, nd_mkI, nd_mkF, nd_tuple, nd_list, itD_mkI, itD_mkF, itD_list, itD_tuple, add_int, sub_int, neg_int, sum_map, all_map, any_map, sl_mkI, sl_mkF, len_mkF, len_mkI, len_list, oInt, oTuple, List.length_map, List.length_cons, List.length_nil, List.map_nil, List.map_cons, List.cons_append, List.nil_append, List.replicate_succ, List.replicate_zero, List.set_cons_zero, List.set_cons_succ, List.getElem?_cons_zero, List.getElem?_cons_succ, List.all_cons, List.all_nil, Bool.and_true, Bool.true_and, Bool.and_false, Bool.false_and, Bool.not_true, Bool.not_false, if_true, if_false, ite_true, ite_false, Bool.false_eq_true, decide_true, decide_false, reduceIte, Nat.reduceLT, Nat.reduceSub, Nat.reduceAdd, Nat.zero_add, List.append_nil, Option.map_some, Option.map_none, it_rt (show bs.length ≤ 1000 by omega)]) ⟨rfl, s⟩) ?_ ?_
  · intro b S1 hb s1
    refine gd_item rfl <| gd_yes ⟨fun _ => ?_, fun z => by cases z⟩
    exact gd_eF <| gd_call <| gd_cons <| gd_var rfl <| gd_cons <| gd_con <| gd_nil ⟨rfl, sp__law_draw s1 (fun k S2 fr s2 hk => ⟨rfl, ⟨_, rfl, trivial⟩, s2⟩) (by decide)⟩
  · intro os S3 s3 pr
    obtain ⟨ls, e, l, p⟩ := paired_all (f := PyData.int) pr
    rw [e]
    exact ⟨s3, ls, rfl, l⟩
def addL (ls : List Int) (ds : List Nat) : List Int := (ls.zip ds).map fun p => p.1 + (p.2 : Int)
theorem k39_up : ∀ {as : List Int} {os : List (Option D)}, Paired (fun (a : Int) (o : Option D) => ∃ k : Nat, o = some (.int (a + (k : Int)))) as os → ∃ bs : List Int, os.filterMap id = bs.map PyData.int ∧ bs.length = as.length ∧ ∀ i, as.getD i 0 ≤ bs.getD i 0
  | _, _, .nil => ⟨[], rfl, rfl, fun i => by simp⟩
  | _, _, .cons h t => by
    obtain ⟨bs, e, l, p⟩ := k39_up t
    obtain ⟨k, rfl⟩ := h
    refine ⟨_ :: bs, by rw [List.filterMap_cons]; show _ :: _ = _ :: _; rw [e], by rw [List.length_cons, List.length_cons, l], fun i => ?_⟩
    cases i with
    | zero => simp only [List.getD_cons_zero]; omega
    | succ i => simp only [List.getD_cons_succ]; exact p i
theorem k39_higher {n : Nat} {S : Wd} (s : Src S n) {ls : List Int} {d0 d1 d3 d4 d5 d6 d7 d8 d9 d10 d11 d12 d13 d14 d16 d17 d18 d19 : Option D} : Gd (xLc (iD (xVar 15)) (gN 17) [17] fYes (x2 gAdd (xVar 17) (eF (fFn F__law_draw 2 (aCons (xVar 2) (aCons (xC (.int 3)) aNil))))) [d0, d1, some (hnd n), d3, d4, d5, d6, d7, d8, d9, d10, d11, d12, d13, d14, some (mkI ls), d16, d17, d18, d19]) S fun d S' => Src S' n ∧ ∃ ks : List Int, d = .list (ks.map .int) ∧ ks.length = ls.length ∧ ∀ i, cyi ls i ≤ cyi ks i := by
  refine gd_xLc PyData.int (fun (a : Int) (o : Option D) => ∃ k : Nat, o = some (.int (a + (k : Int)))) (fun S => Src S n) (as := ls) (gd_eq (a := ls.map PyData.int) rfl ⟨rfl, s⟩) ?_ ?_
  · intro b S1 hb s1
    refine gd_item rfl <| gd_yes ⟨fun _ => ?_, fun z => by cases z⟩
    exact gd_x2 <| gd_var rfl <| gd_eF <| gd_call <| gd_cons <| gd_var rfl <| gd_cons <| gd_con <| gd_nil ⟨rfl, sp__law_draw s1 (fun k S2 fr s2 hk => gd_eq (add_int _ _) ⟨rfl, ⟨k, rfl⟩, s2⟩) (by decide)⟩
  · intro os S3 s3 pr
    obtain ⟨ks, e, l, p⟩ := k39_up pr
    rw [e]
    refine ⟨s3, ks, rfl, l, fun i => ?_⟩
    unfold cyi
    rw [l]
    exact p _
theorem k39_gt {ms : List (List Int)} {a b : Int} (h : Fr ms a b) (hs : b - a ≤ 8) {ls ks : List Int} (h0 : 0 < ls.length) (h1 : ls.length ≤ 24) (hl : ks.length = ls.length) (e : ∀ i, cyi ls i ≤ cyi ks i) {d0 d1 d2 d3 d5 d6 d7 d8 d9 d10 d11 d12 d13 d14 d17 d18 d19 : Option D} : xLc (iA oZip (aCons (eF (fFn F_levelled 2 (aCons (xVar 4) (aCons (xVar 15) aNil)))) (aCons (eF (fFn F_levelled 2 (aCons (xVar 4) (aCons (xVar 16) aNil)))) aNil))) (gN2 18 19) [18, 19] (bV (x2 gGt (xVar 18) (xVar 19))) (xC (.int 1)) [d0, d1, d2, d3, some (mkF ms), d5, d6, d7, d8, d9, d10, d11, d12, d13, d14, some (mkI ls), some (mkI ks), d17, d18, d19] = M.ret (.list (([] : List Int).map .int)) := by
  have e1 : F_levelled [mkF ms, mkI ls] = M.ret (.list ((lev ms ls).map .int), true) := eq_of_gd fun S => gd_mono (v_levelled (h.ok hs) h0 h1 S) fun r S' q => ⟨q.2, q.1⟩
  have e2 : F_levelled [mkF ms, mkI ks] = M.ret (.list ((lev ms ks).map .int), true) := eq_of_gd fun S => gd_mono (v_levelled (h.ok hs) (by omega) (by omega) S) fun r S' q => ⟨q.2, q.1⟩
  have := xLc_pure (fun p : Int × Int => .tuple [.int p.1, .int p.2]) (fun p => decide (p.2 < p.1)) (fun _ => .int 1) (as := (lev ms ls).zip (lev ms ks)) (fi := iA oZip (aCons (eF (fFn F_levelled 2 (aCons (xVar 4) (aCons (xVar 15) aNil)))) (aCons (eF (fFn F_levelled 2 (aCons (xVar 4) (aCons (xVar 16) aNil)))) aNil))) (gt := gN2 18 19) (vs := [18, 19]) (ft := bV (x2 gGt (xVar 18) (xVar 19))) (fe := xC (.int 1)) (ρ := [d0, d1, d2, d3, some (mkF ms), d5, d6, d7, d8, d9, d10, d11, d12, d13, d14, some (mkI ls), some (mkI ks), d17, d18, d19]) (by simp only [M.ret_bind, lft_ret, quiet_ret, ofO_some, sSeq, sRet, sPass, sIf, sSet, sRetN, sDrop, x1, x2, x3, xVar, xC, xIf, xAnd, xOr, xNot, bV, bAnd, bOr, bNot, fYes, aNil, aCons, xTup, xLst, xCall, gO, fE, eF, fFn, fLst, fSorted, iD, iA, fO, fNo, xSl, lcItem, gN, gN2, wipeE, lt_int, le_int, gt_int, ge_int, tInt_int, tBool_int, tTuple_mkI, tTuple_mkF, szOk_0, szOk_1, szOk_2, toB_bool, gIsi_ev, nd_int, nd_bool, nd_str, nd_mkI, nd_mkF, nd_tuple, nd_list, itD_mkI, itD_mkF, itD_list, itD_tuple, add_int, sub_int, neg_int, sum_map, all_map, any_map, sl_mkI, sl_mkF, len_mkF, len_mkI, len_list, oInt, oTuple, List.length_map, List.length_cons, List.length_nil, List.map_nil, List.map_cons, List.cons_append, List.nil_append, List.replicate_succ, List.replicate_zero, List.set_cons_zero, List.set_cons_succ, List.getElem?_cons_zero, List.getElem?_cons_succ, List.all_cons, List.all_nil, Bool.and_true, Bool.true_and, Bool.and_false, Bool.false_and, Bool.not_true, Bool.not_false, if_true, if_false, ite_true, ite_false, Bool.false_eq_true, decide_true, decide_false, reduceIte, Nat.reduceLT, Nat.reduceSub, Nat.reduceAdd, Nat.zero_add, List.append_nil, Option.map_some, Option.map_none, e1, e2, zip_lI]) fun p _ => by
    simp only [M.ret_bind, lft_ret, quiet_ret, ofO_some, sSeq, sRet, sPass, sIf, sSet, sRetN, sDrop, x1, x2, x3, xVar, xC, xIf, xAnd, xOr, xNot, bV, bAnd, bOr, bNot, fYes, aNil, aCons, xTup, xLst, xCall, gO, fE, eF, fFn, fLst, fSorted, iD, iA, fO, fNo, xSl, lcItem, gN, gN2, wipeE, lt_int, le_int, gt_int, ge_int, tInt_int, tBool_int, tTuple_mkI, tTuple_mkF, szOk_0, szOk_1, szOk_2, toB_bool, gIsi_ev, nd_int, nd_bool, nd_str, nd_mkI, nd_mkF, nd_tuple, nd_list, itD_mkI, itD_mkF, itD_list, itD_tuple, add_int, sub_int, neg_int, sum_map, all_map, any_map, sl_mkI, sl_mkF, len_mkF, len_mkI, len_list, oInt, oTuple, List.length_map, List.length_cons, List.length_nil, List.map_nil, List.map_cons, List.cons_append, List.nil_append, List.replicate_succ, List.replicate_zero, List.set_cons_zero, List.set_cons_succ, List.getElem?_cons_zero, List.getElem?_cons_succ, List.all_cons, List.all_nil, Bool.and_true, Bool.true_and, Bool.and_false, Bool.false_and, Bool.not_true, Bool.not_false, if_true, if_false, ite_true, ite_false, Bool.false_eq_true, decide_true, decide_false, reduceIte, Nat.reduceLT, Nat.reduceSub, Nat.reduceAdd, Nat.zero_add, List.append_nil, Option.map_some, Option.map_none]
    cases decide (p.2 < p.1) <;> rfl
  rw [this, lev_mono h hl.symm h0 e]
  rfl
local macro_rules | `(tactic| trivial) => `(tactic| first
  | with_reducible refine rg_ok (by assumption) ?_
  | with_reducible refine q_setK (by assumption) ?_
  | with_reducible refine stK_ok (fun _ _ => ?_)
  | with_reducible refine e_fLc ?_
  | with_reducible refine u_isL ?_
  | with_reducible refine u_neLI ?_
  | with_reducible refine u_eqLI ?_
  | with_reducible refine u_lenLI ?_
  | with_reducible refine u_tupLI ?_
  | with_reducible refine u_modR ?_
  | with_reducible refine u_eqL ?_
  | with_reducible refine u_neL ?_
  | with_reducible refine u_ninL ?_
  | with_reducible refine u_revL ?_
  | with_reducible refine u_lenL ?_
  | with_reducible refine u_listF ?_
  | with_reducible refine u_listI ?_
  | with_reducible refine u_addL ?_
  | with_reducible refine u_tupL ?_
  | with_reducible refine q_asg2 ?_
  | with_reducible refine asg2_ok (fun _ => ?_)
  | with_reducible refine q_asg3 ?_
  | with_reducible refine asg3_ok (fun _ => ?_)
  | with_reducible refine q_set1 ?_
  | with_reducible refine jn_ok ?_
  | with_reducible refine sq_nx ?_
  | with_reducible refine e_xNot ?_
  | with_reducible refine e_var ?_
  | with_reducible refine e_con ?_
  | with_reducible refine e_nil ?_
  | with_reducible refine e_cons ?_
  | with_reducible refine e_call ?_
  | with_reducible refine ln_ok ?_
  | with_reducible refine e_eF ?_
  | with_reducible refine e_fE ?_
  | with_reducible refine e_x2 ?_
  | with_reducible refine e_x1 ?_
  | with_reducible refine e_xCall ?_
  | with_reducible refine e_xTup ?_
  | with_reducible refine e_xLst ?_
  | with_reducible refine e_fLst ?_
  | with_reducible refine lnn_ok ?_
  | with_reducible refine e_xAnd ?_
  | with_reducible refine q_chk ?_
  | with_reducible refine q_chk1 ?_
  | with_reducible refine q_bV ?_
  | with_reducible refine q_bool ?_
  | with_reducible refine q_bOr ?_
  | with_reducible refine q_bAnd ?_
  | with_reducible refine q_bNot ?_
  | with_reducible refine ck_no ?_
  | with_reducible refine q_set ?_
  | with_reducible refine st_ok (fun _ => ?_)
  | with_reducible refine q_par2 ?_
  | with_reducible refine par2_ok (fun _ => ?_)
  | with_reducible refine q_par3 ?_
  | with_reducible refine par3_ok (fun _ => ?_)
  | with_reducible refine q_fin ?_
  | with_reducible refine e_xSl ?_
  | with_reducible refine e_fO ?_
  | with_reducible refine e_int ?_
  | with_reducible refine e_fNo ?_
  | with_reducible refine u_neF ?_
  | with_reducible refine u_eqF ?_
  | with_reducible refine u_neI ?_
  | with_reducible refine u_eqI ?_
  | with_reducible refine u_neR ?_
  | with_reducible refine u_eqR ?_
  | with_reducible refine u_neN ?_
  | with_reducible refine u_eqN ?_
  | with_reducible refine u_neB ?_
  | with_reducible refine u_eqB ?_
  | with_reducible refine u_add ?_
  | with_reducible refine u_sub ?_
  | with_reducible refine u_neg ?_
  | with_reducible refine u_lt ?_
  | with_reducible refine u_le ?_
  | with_reducible refine u_gt ?_
  | with_reducible refine u_ge ?_
  | with_reducible refine u_isTrue ?_
  | with_reducible refine u_isFalse ?_
  | with_reducible refine u_notTrue ?_
  | with_reducible refine u_notFalse ?_
  | with_reducible refine u_isiB ?_
  | with_reducible refine u_int ?_
  | with_reducible refine u_lenF ?_
  | with_reducible refine u_lenI ?_
  | with_reducible refine u_lenR ?_
  | with_reducible refine u_revR ?_
  | with_reducible refine u_revI ?_
  | with_reducible refine u_tup ?_
  | with_reducible refine ck_nn ?_
  | with_reducible refine sp_is_filter ?_
  | with_reducible refine sp_filtered ?_
  | with_reducible refine sp_levelled ?_
  | with_reducible refine sp_thinning ?_
  | with_reducible refine sp_thickening ?_
  | with_reducible refine sp__law_draw (by assumption) ?_
  | with_reducible refine sp__law_choiceN (by assumption) ?_
  | with_reducible refine sp__law_choiceD (by assumption) ?_
  | with_reducible refine sp__law_mask (by assumption) ?_
  | with_reducible refine sp__law_least ?_
  | with_reducible refine sp__law_filter (by assumption) ?_
  | with_reducible refine sp__law_ring (by assumption) ?_
  | with_reducible refine sp__law_lies ?_
  | with_reducible refine sp__law_joined ?_
  | with_reducible refine sp__law_shared ?_
  | with_reducible refine ck_ne ?_ ?_
  | with_reducible refine ck_not ?_ ?_
  | with_reducible refine ck_dec ?_ ?_
  | with_reducible refine tr_and ?_ ?_
  | (with_reducible refine tr_of ?_)
  | with_reducible refine an_ok ?_ (fun _ => ?_)
  | with_reducible rfl)

def B_turn : Ste → M (Fl × Ste) := (sSeq (sPar2 4 5 (aCons (eF (fFn F__law_filter 2 (aCons (xVar 2) (aCons (eF (fFn F__law_choice 2 (aCons (xVar 2) (aCons (xLst (aCons (xC (.int 2)) (aCons (xC (.int 4)) aNil))) aNil)))) aNil)))) (aCons (eF (fFn F__law_ring 2 (aCons (xVar 2) (aCons (xC (.int 24)) aNil)))) aNil)))
    (sSeq (sSet 6 (fE (xJoin (xC (.str "")) (xLc (iD (xVar 5)) (gN 7) [7] fYes (eF (fFn F__law_choice 2 (aCons (xVar 2) (aCons (xLst (aCons (xC (.str "#")) (aCons (xC (.str ".")) aNil))) aNil))))))))
    (sSeq (sPar2 8 9 (aCons (eF (fFn F__law_joined 2 (aCons (xVar 5) (aCons (xVar 6) aNil)))) (aCons (eF (fFn F__law_shared 2 (aCons (xVar 5) (aCons (xVar 6) aNil)))) aNil)))
    (sSeq (sPar2 10 11 (aCons (eF (fFn F_filtered 2 (aCons (xVar 4) (aCons (xVar 5) aNil)))) (aCons (eF (fFn F_filtered 2 (aCons (xVar 4) (aCons (xVar 6) aNil)))) aNil)))
    (sSeq (sIf (bOr (bNot (bV (eF (fFn F__law_lies 2 (aCons (xVar 10) (aCons (eF (fFn F_filtered 2 (aCons (xVar 4) (aCons (xVar 8) aNil)))) aNil)))))) (bNot (bV (eF (fFn F__law_lies 2 (aCons (eF (fFn F_filtered 2 (aCons (xVar 4) (aCons (xVar 9) aNil)))) (aCons (xVar 10) aNil))))))) (sRet (fE (xC (.bool false)))) sPass)
    (sSeq (sIf (bNot (bV (eF (fFn F__law_lies 2 (aCons (eF (fFn F__law_joined 2 (aCons (xVar 10) (aCons (xVar 11) aNil)))) (aCons (eF (fFn F_filtered 2 (aCons (xVar 4) (aCons (xVar 8) aNil)))) aNil)))))) (sRet (fE (xC (.bool false)))) sPass)
    (sSeq (sIf (bNot (bV (eF (fFn F__law_lies 2 (aCons (eF (fFn F_filtered 2 (aCons (xVar 4) (aCons (xVar 9) aNil)))) (aCons (eF (fFn F__law_shared 2 (aCons (xVar 10) (aCons (xVar 11) aNil)))) aNil)))))) (sRet (fE (xC (.bool false)))) sPass)
    (sSeq (sSet 12 (fFn F__law_mask 2 (aCons (xVar 2) (aCons (xC (.int 4)) aNil))))
    (sSeq (sPar2 13 14 (aCons (eF (fFn F_thinning 1 (aCons (xVar 12) aNil))) (aCons (eF (fFn F_thickening 1 (aCons (xVar 12) aNil))) aNil)))
    (sSeq (sIf (bV (x2 gNe (eF (fFn F_filtered 2 (aCons (xVar 13) (aCons (xVar 9) aNil)))) (eF (fFn F__law_shared 2 (aCons (eF (fFn F_filtered 2 (aCons (xVar 13) (aCons (xVar 5) aNil)))) (aCons (eF (fFn F_filtered 2 (aCons (xVar 13) (aCons (xVar 6) aNil)))) aNil)))))) (sRet (fE (xC (.bool false)))) sPass)
    (sSeq (sIf (bV (x2 gNe (eF (fFn F_filtered 2 (aCons (xVar 14) (aCons (xVar 8) aNil)))) (eF (fFn F__law_joined 2 (aCons (eF (fFn F_filtered 2 (aCons (xVar 14) (aCons (xVar 5) aNil)))) (aCons (eF (fFn F_filtered 2 (aCons (xVar 14) (aCons (xVar 6) aNil)))) aNil)))))) (sRet (fE (xC (.bool false)))) sPass)
    (sSeq (sSet 15 (fE (xCall (gO oTuple) (aCons (xLc (iD (xVar 5)) (gN 7) [7] fYes (eF (fFn F__law_draw 2 (aCons (xVar 2) (aCons (xC (.int 6)) aNil))))) aNil))))
    (sSeq (sSet 16 (fE (xCall (gO oTuple) (aCons (xLc (iD (xVar 15)) (gN 17) [17] fYes (x2 gAdd (xVar 17) (eF (fFn F__law_draw 2 (aCons (xVar 2) (aCons (xC (.int 3)) aNil)))))) aNil))))
    (sIf (bV (x2 gNe (xLc (iA oZip (aCons (eF (fFn F_levelled 2 (aCons (xVar 4) (aCons (xVar 15) aNil)))) (aCons (eF (fFn F_levelled 2 (aCons (xVar 4) (aCons (xVar 16) aNil)))) aNil))) (gN2 18 19) [18, 19] (bV (x2 gGt (xVar 18) (xVar 19))) (xC (.int 1))) (xLst aNil))) (sRet (fE (xC (.bool false)))) sPass))))))))))))))
theorem k_turn {script : D} {n : Nat} {a1 a3 a4 a5 a6 a7 a8 a9 a10 a11 a12 a13 a14 a15 a16 a17 a18 a19 : Option D} {o : List Nat} {S : Wd} (h : Src S n) {Q : Fl × Ste → Wd → Prop}
    (q : ∀ (S' : Wd) (a1 a3 a4 a5 a6 a7 a8 a9 a10 a11 a12 a13 a14 a15 a16 a17 a18 a19 : Option D) (o : List Nat), Src S' n → Q (.nx, ([some script, a1, some (hnd n), a3, a4, a5, a6, a7, a8, a9, a10, a11, a12, a13, a14, a15, a16, a17, a18, a19], o)) S') : Gd (B_turn ([some script, a1, some (hnd n), a3, a4, a5, a6, a7, a8, a9, a10, a11, a12, a13, a14, a15, a16, a17, a18, a19], o)) S Q := by
  unfold B_turn
  repeat trivial
  intro w S1 _ s1 hw
  have hw : w = 2 ∨ w = 4 := by simpa using hw
  repeat trivial
  intro one S2 _ s2 l1 h1
  replace h1 : Fr one (-4) 4 := h1.le (by omega) (by omega)
  repeat trivial
  intro bs S3 _ s3 hb
  have b0 := hb.pos
  have b1 : bs.length ≤ 24 := hb.le
  repeat trivial
  refine gd_mono (k39_other s3 b1) ?_
  rintro d S4 ⟨s4, cs, rfl, lc⟩
  have hc : Rn cs 24 := ⟨by omega, by omega⟩
  replace hb : Rn bs 24 := ⟨b0, b1⟩
  repeat trivial
  · intro m S5 _ s5 hm
    repeat trivial
    refine gd_mono (k39_levels s5 b1) ?_
    rintro d S6 ⟨s6, ls, rfl, ll⟩
    repeat trivial
    refine gd_mono (k39_higher s6) ?_
    rintro d S7 ⟨s7, ks, rfl, lk, up⟩
    repeat trivial
    refine gd_eq (k39_gt h1 (by decide) (by omega) (by omega) lk up) ?_
    repeat trivial
    · apply q; assumption
    · rfl
    · exact thick_por _ lc.symm b0
    · exact thin_pand _ lc.symm b0
  · exact lies_shared lc.symm b0
  · exact lies_joined lc.symm b0
  · exact lies_less lc.symm b0
  · exact lies_more lc.symm b0
def B_end : Ste → M (Fl × Ste) := (sSeq (sIf (bV (x2 gNe (eF (fFn F_filtered 2 (aCons (eF (fFn F_thickening 1 (aCons (xTup (aCons (xC (.int 0)) (aCons (xC (.int 1)) (aCons (xC (.int 2)) (aCons (xC (.int 3)) aNil))))) aNil))) (aCons (xC (.str "####")) aNil)))) (xC (.str "####")))) (sRet (fE (xC (.bool false)))) sPass)
    (sRet (fE (xAnd (x2 gEq (eF (fFn F_filtered 2 (aCons (eF (fFn F_thickening 1 (aCons (xTup (aCons (xC (.int 0)) (aCons (xC (.int 2)) aNil))) aNil))) (aCons (xC (.str "#...")) aNil)))) (xC (.str "#.#."))) (x2 gEq (eF (fFn F_filtered 2 (aCons (eF (fFn F_thinning 1 (aCons (xTup (aCons (xC (.int 0)) (aCons (xC (.int 2)) aNil))) aNil))) (aCons (xC (.str "#.#.")) aNil)))) (xC (.str "#.#.")))))))
theorem k_end {script : D} {a1 a2 a3 a4 a5 a6 a7 a8 a9 a10 a11 a12 a13 a14 a15 a16 a17 a18 a19 : Option D} {o : List Nat} {S : Wd} : Gd (B_end ([some script, a1, a2, a3, a4, a5, a6, a7, a8, a9, a10, a11, a12, a13, a14, a15, a16, a17, a18, a19], o)) S (FnQ fun r _ => r.1 = .bool true) := by
  unfold B_end
  have f3 : Mk [0, 1, 2, 3] 0 3 := mk_dec 0 3 (by decide) (by decide)
  have f2 : Mk [0, 2] 0 2 := mk_dec 0 2 (by decide) (by decide)
  have r1 : IsR (.str "####") [true, true, true, true] := ⟨congrArg PyData.str (by decide)⟩
  have r2 : IsR (.str "#...") [true, false, false, false] := ⟨congrArg PyData.str (by decide)⟩
  have r3 : IsR (.str "#.#.") [true, false, true, false] := ⟨congrArg PyData.str (by decide)⟩
  have q1 : Rn [true, true, true, true] 4 := ⟨by decide, by decide⟩
  have q2 : Rn [true, false, false, false] 4 := ⟨by decide, by decide⟩
  have q3 : Rn [true, false, true, false] 4 := ⟨by decide, by decide⟩
  repeat trivial
  all_goals decide +kernel

theorem law_true (ns : List Int) (hl : ns.length ≤ 63) : ∃ fr S', F_law [.list (ns.map PyData.int)] [] = .ok (.bool true, fr) S' := by
  have g : Gd (F_law [.list (ns.map PyData.int)]) [] fun r _ => r.1 = .bool true := by
    refine gd_fn ?_
    show Gd (b_law ([some (.list (ns.map .int)), none, none, none, none, none, none, none, none, none, none, none, none, none, none, none, none, none, none, none], [])) [] _
    rw [show b_law = (sSeq (sForR (iA oRg1 (aCons (x2 gAdd (xC (.int 1)) (xCall (gO oMin) (aCons (xCall (gO oLen) (aCons (xVar 0) aNil)) (aCons (xC (.int 10)) aNil)))) aNil)) (gN 1) [1] (sSeq (sAdopt 2 (fFn F__law_source 2 (aCons (xVar 0) (aCons (xVar 1) aNil)))) (sForR (iA oRg1 (aCons (xC (.int 6)) aNil)) (gN 3) [3] B_turn))) B_end) from rfl]
    refine gd_seq <| gd_forR <| gd_iA <| gd_cons <| gd_x2 <| gd_con <| gd_xCall <| gd_cons <| gd_xCall <| gd_cons <| gd_var rfl <| gd_nil <| gd_eq (len_ev _) <| gd_cons <| gd_con <| gd_nil <| gd_eq (min_10 _) <| gd_eq (one_add _) <| gd_nil ⟨_, range_map (by omega), ?_⟩
    refine gd_loop (List.range (min (ns.map PyData.int).length 10 + 1)) (fun pre τ S1 => ∃ a1 a2 a3 a4 a5 a6 a7 a8 a9 a10 a11 a12 a13 a14 a15 a16 a17 a18 a19 : Option D, τ.1 = [some (.list (ns.map .int)), a1, a2, a3, a4, a5, a6, a7, a8, a9, a10, a11, a12, a13, a14, a15, a16, a17, a18, a19]) ⟨_, _, _, _, _, _, _, _, _, _, _, _, _, _, _, _, _, _, _, rfl⟩ ?_ ?_
    · rintro pre k post ⟨τe, o⟩ S1 e ⟨a1, a2, a3, a4, a5, a6, a7, a8, a9, a10, a11, a12, a13, a14, a15, a16, a17, a18, a19, (rfl : τe = _)⟩
      have hk : k < min (ns.map PyData.int).length 10 + 1 := by
        have : k ∈ List.range (min (ns.map PyData.int).length 10 + 1) := by rw [e]; simp
        exact List.mem_range.mp this
      refine ⟨_, rfl, ?_⟩
      refine gd_seq <| gd_adopt (by simp) <| gd_call <| gd_cons <| gd_var rfl <| gd_cons <| gd_var rfl <| gd_nil ⟨rfl, gd_mono (v__law_source ns k (by omega) _) ?_⟩
      rintro r S2 ⟨rfl, hr, a, b, e2, b0, b1⟩
      refine ⟨hr, _, e2, rfl, ?_⟩
      have s0 : Src (S2 ++ [Ob.lst [.int a, .int b]]) S2.length := ⟨a, b, by simp, b0, b1⟩
      refine gd_forR <| gd_iA <| gd_cons <| gd_con <| gd_nil ⟨_, range_map (n := 6) (by decide), ?_⟩
      refine gd_loop (List.range 6) (fun pre τ S1 => Src S1 S2.length ∧ ∃ a1 a3 a4 a5 a6 a7 a8 a9 a10 a11 a12 a13 a14 a15 a16 a17 a18 a19 : Option D, τ.1 = [some (.list (ns.map .int)), a1, some (hnd S2.length), a3, a4, a5, a6, a7, a8, a9, a10, a11, a12, a13, a14, a15, a16, a17, a18, a19]) ⟨s0, _, _, _, _, _, _, _, _, _, _, _, _, _, _, _, _, _, _, rfl⟩ ?_ ?_
      · rintro pre t post ⟨τe, o⟩ S1 e ⟨s1, a1, a3, a4, a5, a6, a7, a8, a9, a10, a11, a12, a13, a14, a15, a16, a17, a18, a19, (rfl : τe = _)⟩
        refine ⟨_, rfl, ?_⟩
        exact k_turn s1 fun S' _ _ _ _ _ _ _ _ _ _ _ _ _ _ _ _ _ _ _ s' => ⟨s', _, _, _, _, _, _, _, _, _, _, _, _, _, _, _, _, _, _, rfl⟩
      · rintro ⟨τe, o⟩ S1 ⟨s1, a1, a3, a4, a5, a6, a7, a8, a9, a10, a11, a12, a13, a14, a15, a16, a17, a18, a19, (rfl : τe = _)⟩
        exact ⟨_, _, _, _, _, _, _, _, _, _, _, _, _, _, _, _, _, _, _, rfl⟩
    · rintro ⟨τe, o⟩ S1 ⟨a1, a2, a3, a4, a5, a6, a7, a8, a9, a10, a11, a12, a13, a14, a15, a16, a17, a18, a19, (rfl : τe = _)⟩
      exact k_end
  obtain ⟨⟨d, fr⟩, S', e, rfl⟩ := g
  exact ⟨fr, S', e⟩
end Lw
end DL
end L2

set_option Elab.async false
set_option linter.all false
set_option maxRecDepth 100000
set_option maxHeartbeats 4000000
namespace L2
namespace DL
namespace Lw
open PySem PySem.Spec PyProof.Rows
def topS (i : Nat) : Stmt := PySem.Challenge.pw_rowmasks_k39_whole_more_dots_make_more.main.body.getD i (.Pass ⟨0, 0, 0, 0⟩)
structure Txt (K : PySem.W.Frag) (mg : Str → Option Value) : Prop where
  m_abs : mg "abs" = none
  m_all : mg "all" = none
  m_any : mg "any" = none
  m_bool : mg "bool" = none
  m_enumerate : mg "enumerate" = none
  m_int : mg "int" = none
  m_isinstance : mg "isinstance" = none
  m_len : mg "len" = none
  m_list : mg "list" = none
  m_max : mg "max" = none
  m_min : mg "min" = none
  m_range : mg "range" = none
  m_set : mg "set" = none
  m_sorted : mg "sorted" = none
  m_str : mg "str" = none
  m_sum : mg "sum" = none
  m_tuple : mg "tuple" = none
  m_zip : mg "zip" = none
  g_MOST_SPAN : GlK K mg "MOST_SPAN" C_MOST_SPAN
  g_MOST_MASKS : GlK K mg "MOST_MASKS" C_MOST_MASKS
  g_MOST_PLACES : GlK K mg "MOST_PLACES" C_MOST_PLACES
  g_DOT : GlK K mg "DOT" C_DOT
  g_BLANK : GlK K mg "BLANK" C_BLANK
  g_BITS : GlK K mg "BITS" C_BITS
  x_InvalidFilter : ExOk K mg "InvalidFilter"
  x_InvalidLevels : ExOk K mg "InvalidLevels"
  x_InvalidMask : ExOk K mg "InvalidMask"
  x_InvalidRing : ExOk K mg "InvalidRing"
section
variable {P : Program} {w : World} {K : PySem.W.Frag} {mg : Str → Option Value} {base : Heap}
abbrev s_is_integer : Stmt := topS 12
theorem sc_is_integer : FnScope ["value"] ["value"] (defScope s_is_integer) := ⟨rfl, rfl, rfl, by decide +kernel, rfl, by decide +kernel, by decide +kernel⟩
theorem ok_is_integer {f : Addr} {fd : FuncData} (T : Txt K mg) (Fn : Fun K "is_integer" "is_integer" s_is_integer f fd) (hm : mg "is_integer" = some (.ref f)) (bd : Binds K fd ["value"] [])  : Cal P w K mg base "is_integer" 1 1 F_is_integer :=
  cal_of Fn sc_is_integer rfl hm bd fun cdv A outer s H E hr => by
    show SsJ _ _ _ b_is_integer
    exact (ss_one (sj_ret (fj_ej (ej_and (c_isInt T.m_isinstance T.m_int (ej_var 0)) (ej_one (ej_not (c_isBool T.m_isinstance T.m_bool (ej_var 0))))))))
abbrev s_is_offsets : Stmt := topS 13
theorem sc_is_offsets : FnScope ["value", "offset", "one", "other"] ["value"] (defScope s_is_offsets) := ⟨rfl, rfl, rfl, by decide +kernel, rfl, by decide +kernel, by decide +kernel⟩
theorem ok_is_offsets {f : Addr} {fd : FuncData} (T : Txt K mg) (Fn : Fun K "is_offsets" "is_offsets" s_is_offsets f fd) (hm : mg "is_offsets" = some (.ref f)) (bd : Binds K fd ["value"] []) (c_is_integer : Cal P w K mg base "is_integer" 1 1 F_is_integer) : Cal P w K mg base "is_offsets" 1 2 F_is_offsets :=
  cal_of Fn sc_is_offsets rfl hm bd fun cdv A outer s H E hr => by
    show SsJ _ _ _ b_is_offsets
    exact (ss_cons (sj_if (bj_of (bw_or (bj_not (bj_val (c_isTuple T.m_isinstance T.m_tuple (ej_var 0)))) (bw_or (bj_eq hr (ej_var 0) (ej_tup aj_nil)) (bw_or1 (bj_not (bj_val (c_all rfl T.m_all (aj_cons (ej_lc (own := [("offset", 1)]) rfl sc_is_offsets.nd (ij_data (ej_var 0)) (blkOk_by (by kernel_rfl)) (fun _ _ _ _ _ => (tj_name sc_is_offsets.nd)) (fun _ _ _ _ _ => ts_nil) (fun _ _ _ _ _ => (ej_fj (fj_call c_is_integer hr takes0 (aj_cons (ej_var 1) aj_nil))))) aj_nil)))))))) (ss_one (sj_ret (fj_ej ej_bl))) ss_nil)
    (ss_one (sj_ret (fj_ej (c_all rfl T.m_all (aj_cons (ej_lc (own := [("one", 2), ("other", 3)]) rfl sc_is_offsets.nd (ij_zip (aj_cons (ej_var 0) (aj_cons (ej_sl (ej_var 0) (oj_some ej_int) oj_none) aj_nil)) T.m_zip) (blkOk_by (by kernel_rfl)) (fun _ _ _ _ _ => (tj_two rfl sc_is_offsets.nd)) (fun _ _ _ _ _ => ts_nil) (fun _ _ _ _ _ => (ej_lt (ej_var 2) (ej_var 3)))) aj_nil))))))
abbrev s_spread : Stmt := topS 14
theorem sc_spread : FnScope ["masks", "mask"] ["masks"] (defScope s_spread) := ⟨rfl, rfl, rfl, by decide +kernel, rfl, by decide +kernel, by decide +kernel⟩
theorem ok_spread {f : Addr} {fd : FuncData} (T : Txt K mg) (Fn : Fun K "spread" "spread" s_spread f fd) (hm : mg "spread" = some (.ref f)) (bd : Binds K fd ["masks"] [])  : Cal P w K mg base "spread" 1 1 F_spread :=
  cal_of Fn sc_spread rfl hm bd fun cdv A outer s H E hr => by
    show SsJ _ _ _ b_spread
    exact (ss_one (sj_ret (fj_ej (ej_sub (c_max rfl T.m_max (aj_cons (ej_lc (own := [("mask", 1)]) rfl sc_spread.nd (ij_data (ej_var 0)) (blkOk_by (by kernel_rfl)) (fun _ _ _ _ _ => (tj_name sc_spread.nd)) (fun _ _ _ _ _ => ts_nil) (fun _ _ _ _ _ => (ej_ix (ej_var 1) (ej_neg ej_int)))) aj_nil)) (c_min rfl T.m_min (aj_cons (ej_lc (own := [("mask", 1)]) rfl sc_spread.nd (ij_data (ej_var 0)) (blkOk_by (by kernel_rfl)) (fun _ _ _ _ _ => (tj_name sc_spread.nd)) (fun _ _ _ _ _ => ts_nil) (fun _ _ _ _ _ => (ej_ix (ej_var 1) ej_int))) aj_nil))))))
abbrev s_is_masks : Stmt := topS 15
theorem sc_is_masks : FnScope ["value", "mask"] ["value"] (defScope s_is_masks) := ⟨rfl, rfl, rfl, by decide +kernel, rfl, by decide +kernel, by decide +kernel⟩
theorem ok_is_masks {f : Addr} {fd : FuncData} (T : Txt K mg) (Fn : Fun K "is_masks" "is_masks" s_is_masks f fd) (hm : mg "is_masks" = some (.ref f)) (bd : Binds K fd ["value"] []) (c_spread : Cal P w K mg base "spread" 1 1 F_spread) (c_is_offsets : Cal P w K mg base "is_offsets" 1 2 F_is_offsets) : Cal P w K mg base "is_masks" 1 3 F_is_masks :=
  cal_of Fn sc_is_masks rfl hm bd fun cdv A outer s H E hr => by
    show SsJ _ _ _ b_is_masks
    exact (ss_cons (sj_if (bj_of (bw_or (bj_not (bj_val (c_isTuple T.m_isinstance T.m_tuple (ej_var 0)))) (bw_or (bj_eq hr (ej_var 0) (ej_tup aj_nil)) (bw_or1 (bj_not (bj_val (c_all rfl T.m_all (aj_cons (ej_lc (own := [("mask", 1)]) rfl sc_is_masks.nd (ij_data (ej_var 0)) (blkOk_by (by kernel_rfl)) (fun _ _ _ _ _ => (tj_name sc_is_masks.nd)) (fun _ _ _ _ _ => ts_nil) (fun _ _ _ _ _ => (ej_fj (fj_call c_is_offsets hr takes0 (aj_cons (ej_var 1) aj_nil))))) aj_nil)))))))) (ss_one (sj_ret (fj_ej ej_bl))) ss_nil)
    (ss_one (sj_ret (fj_ej (ej_le (ej_fj (fj_call c_spread hr (takes_of rfl rfl rfl rfl) (aj_cons (ej_var 0) aj_nil))) (ej_glob T.g_MOST_SPAN))))))
abbrev s_number_of : Stmt := topS 17
theorem sc_number_of : FnScope ["mask", "low", "offset"] ["mask", "low"] (defScope s_number_of) := ⟨rfl, rfl, rfl, by decide +kernel, rfl, by decide +kernel, by decide +kernel⟩
theorem ok_number_of {f : Addr} {fd : FuncData} (T : Txt K mg) (Fn : Fun K "number_of" "number_of" s_number_of f fd) (hm : mg "number_of" = some (.ref f)) (bd : Binds K fd ["mask", "low"] [])  : Cal P w K mg base "number_of" 2 1 F_number_of :=
  cal_of Fn sc_number_of rfl hm bd fun cdv A outer s H E hr => by
    show SsJ _ _ _ b_number_of
    exact (ss_one (sj_ret (fj_ej (c_sum rfl T.m_sum (aj_cons (ej_lc (own := [("offset", 2)]) rfl sc_number_of.nd (ij_data (ej_var 0)) (blkOk_by (by kernel_rfl)) (fun _ _ _ _ _ => (tj_name sc_number_of.nd)) (fun _ _ _ _ _ => ts_nil) (fun _ _ _ _ _ => (ej_ix (ej_glob T.g_BITS) (ej_sub (ej_var 2) (ej_var 1))))) aj_nil)))))
abbrev s_numbers_of : Stmt := topS 18
theorem sc_numbers_of : FnScope ["masks", "low", "mask"] ["masks", "low"] (defScope s_numbers_of) := ⟨rfl, rfl, rfl, by decide +kernel, rfl, by decide +kernel, by decide +kernel⟩
theorem ok_numbers_of {f : Addr} {fd : FuncData} (T : Txt K mg) (Fn : Fun K "numbers_of" "numbers_of" s_numbers_of f fd) (hm : mg "numbers_of" = some (.ref f)) (bd : Binds K fd ["masks", "low"] []) (c_number_of : Cal P w K mg base "number_of" 2 1 F_number_of) : Cal P w K mg base "numbers_of" 2 2 F_numbers_of :=
  cal_of Fn sc_numbers_of rfl hm bd fun cdv A outer s H E hr => by
    show SsJ _ _ _ b_numbers_of
    exact (ss_one (sj_ret (fj_ej (ej_lc (own := [("mask", 2)]) rfl sc_numbers_of.nd (ij_data (ej_var 0)) (blkOk_by (by kernel_rfl)) (fun _ _ _ _ _ => (tj_name sc_numbers_of.nd)) (fun _ _ _ _ _ => ts_nil) (fun _ _ _ _ _ => (ej_fj (fj_call c_number_of hr takes0 (aj_cons (ej_var 2) (aj_cons (ej_var 1) aj_nil)))))))))
abbrev s_mask_of : Stmt := topS 19
theorem sc_mask_of : FnScope ["number", "low", "place", "bit"] ["number", "low"] (defScope s_mask_of) := ⟨rfl, rfl, rfl, by decide +kernel, rfl, by decide +kernel, by decide +kernel⟩
theorem ok_mask_of {f : Addr} {fd : FuncData} (T : Txt K mg) (Fn : Fun K "mask_of" "mask_of" s_mask_of f fd) (hm : mg "mask_of" = some (.ref f)) (bd : Binds K fd ["number", "low"] [])  : Cal P w K mg base "mask_of" 2 1 F_mask_of :=
  cal_of Fn sc_mask_of rfl hm bd fun cdv A outer s H E hr => by
    show SsJ _ _ _ b_mask_of
    exact (ss_one (sj_ret (fj_ej (c_tuple T.m_tuple (aj_cons (ej_lc (own := [("place", 2), ("bit", 3)]) rfl sc_mask_of.nd (ij_enum (aj_cons (ej_glob T.g_BITS) aj_nil) T.m_enumerate) (blkOk_by (by kernel_rfl)) (fun _ _ _ _ _ => (tj_two rfl sc_mask_of.nd)) (fun _ _ _ _ _ => (ts_one (bj_eq hr (ej_mod (ej_fdiv (ej_var 0) (ej_var 3)) ej_int) ej_int))) (fun _ _ _ _ _ => (ej_add (ej_var 1) (ej_var 2)))) aj_nil)))))
abbrev s_count_bits : Stmt := topS 20
theorem sc_count_bits : FnScope ["number", "bit"] ["number"] (defScope s_count_bits) := ⟨rfl, rfl, rfl, by decide +kernel, rfl, by decide +kernel, by decide +kernel⟩
theorem ok_count_bits {f : Addr} {fd : FuncData} (T : Txt K mg) (Fn : Fun K "count_bits" "count_bits" s_count_bits f fd) (hm : mg "count_bits" = some (.ref f)) (bd : Binds K fd ["number"] [])  : Cal P w K mg base "count_bits" 1 1 F_count_bits :=
  cal_of Fn sc_count_bits rfl hm bd fun cdv A outer s H E hr => by
    show SsJ _ _ _ b_count_bits
    exact (ss_one (sj_ret (fj_ej (c_len T.m_len (aj_cons (ej_lc (own := [("bit", 1)]) rfl sc_count_bits.nd (ij_data (ej_glob T.g_BITS)) (blkOk_by (by kernel_rfl)) (fun _ _ _ _ _ => (tj_name sc_count_bits.nd)) (fun _ _ _ _ _ => (ts_one (bj_eq hr (ej_mod (ej_fdiv (ej_var 0) (ej_var 1)) ej_int) ej_int))) (fun _ _ _ _ _ => ej_int)) aj_nil)))))
abbrev s_least : Stmt := topS 21
theorem sc_least : FnScope ["numbers", "found", "count", "number", "one"] ["numbers"] (defScope s_least) := ⟨rfl, rfl, rfl, by decide +kernel, rfl, by decide +kernel, by decide +kernel⟩
theorem ok_least {f : Addr} {fd : FuncData} (T : Txt K mg) (Fn : Fun K "least" "least" s_least f fd) (hm : mg "least" = some (.ref f)) (bd : Binds K fd ["numbers"] []) (c_count_bits : Cal P w K mg base "count_bits" 1 1 F_count_bits) : Cal P w K mg base "least" 1 2 F_least :=
  cal_of Fn sc_least rfl hm bd fun cdv A outer s H E hr => by
    show SsJ _ _ _ b_least
    exact (ss_cons (sj_set (i := 1) sc_least.nd (fj_lst aj_nil))
    (ss_cons (sj_for (passes_of rfl) rfl (fj_sorted hr T.m_sorted (aj_cons (ej_lc (own := [("one", 4)]) rfl sc_least.nd (ij_data (c_sortedSet rfl hr T.m_sorted T.m_set (ej_var 0))) (blkOk_by (by kernel_rfl)) (fun _ _ _ _ _ => (tj_name sc_least.nd)) (fun _ _ _ _ _ => ts_nil) (fun _ _ _ _ _ => (ej_tup (aj_cons (ej_fj (fj_call c_count_bits hr takes0 (aj_cons (ej_var 4) aj_nil))) (aj_cons (ej_var 4) aj_nil))))) aj_nil)) (tj_two rfl sc_least.nd) (tgOk_two 2 3) (ss_one (sj_if (bj_not (bj_val (c_any rfl T.m_any (aj_cons (ej_lc (own := [("one", 4)]) rfl sc_least.nd (ij_data (ej_var 1)) (blkOk_by (by kernel_rfl)) (fun _ _ _ _ _ => (tj_name sc_least.nd)) (fun _ _ _ _ _ => ts_nil) (fun _ _ _ _ _ => (ej_eq hr (ej_band (ej_var 4) (ej_var 3)) (ej_var 4)))) aj_nil)))) (ss_one (sj_app (i := 1) (ej_var 3))) ss_nil)))
    (ss_one (sj_retV 1))))
abbrev s_form_by : Stmt := topS 22
theorem sc_form_by : FnScope ["numbers", "low", "number"] ["numbers", "low"] (defScope s_form_by) := ⟨rfl, rfl, rfl, by decide +kernel, rfl, by decide +kernel, by decide +kernel⟩
theorem ok_form_by {f : Addr} {fd : FuncData} (T : Txt K mg) (Fn : Fun K "form_by" "form_by" s_form_by f fd) (hm : mg "form_by" = some (.ref f)) (bd : Binds K fd ["numbers", "low"] []) (c_least : Cal P w K mg base "least" 1 2 F_least) (c_mask_of : Cal P w K mg base "mask_of" 2 1 F_mask_of) : Cal P w K mg base "form_by" 2 3 F_form_by :=
  cal_of Fn sc_form_by rfl hm bd fun cdv A outer s H E hr => by
    show SsJ _ _ _ b_form_by
    exact (ss_one (sj_ret (fj_ej (c_tuple T.m_tuple (aj_cons (c_sorted hr T.m_sorted (aj_cons (ej_lc (own := [("number", 2)]) rfl sc_form_by.nd (ij_data (ej_fj (fj_call c_least hr (takes_of rfl rfl rfl rfl) (aj_cons (ej_var 0) aj_nil)))) (blkOk_by (by kernel_rfl)) (fun _ _ _ _ _ => (tj_name sc_form_by.nd)) (fun _ _ _ _ _ => ts_nil) (fun _ _ _ _ _ => (ej_fj (fj_call c_mask_of hr takes0 (aj_cons (ej_var 2) (aj_cons (ej_var 1) aj_nil)))))) aj_nil)) aj_nil)))))
abbrev s_low_of : Stmt := topS 23
theorem sc_low_of : FnScope ["masks", "mask"] ["masks"] (defScope s_low_of) := ⟨rfl, rfl, rfl, by decide +kernel, rfl, by decide +kernel, by decide +kernel⟩
theorem ok_low_of {f : Addr} {fd : FuncData} (T : Txt K mg) (Fn : Fun K "low_of" "low_of" s_low_of f fd) (hm : mg "low_of" = some (.ref f)) (bd : Binds K fd ["masks"] [])  : Cal P w K mg base "low_of" 1 1 F_low_of :=
  cal_of Fn sc_low_of rfl hm bd fun cdv A outer s H E hr => by
    show SsJ _ _ _ b_low_of
    exact (ss_one (sj_ret (fj_ej (c_min rfl T.m_min (aj_cons (ej_lc (own := [("mask", 1)]) rfl sc_low_of.nd (ij_data (ej_var 0)) (blkOk_by (by kernel_rfl)) (fun _ _ _ _ _ => (tj_name sc_low_of.nd)) (fun _ _ _ _ _ => ts_nil) (fun _ _ _ _ _ => (ej_ix (ej_var 1) ej_int))) aj_nil)))))
abbrev s_form_for : Stmt := topS 24
theorem sc_form_for : FnScope ["masks", "low"] ["masks"] (defScope s_form_for) := ⟨rfl, rfl, rfl, by decide +kernel, rfl, by decide +kernel, by decide +kernel⟩
theorem ok_form_for {f : Addr} {fd : FuncData} (T : Txt K mg) (Fn : Fun K "form_for" "form_for" s_form_for f fd) (hm : mg "form_for" = some (.ref f)) (bd : Binds K fd ["masks"] []) (c_numbers_of : Cal P w K mg base "numbers_of" 2 2 F_numbers_of) (c_form_by : Cal P w K mg base "form_by" 2 3 F_form_by) (c_low_of : Cal P w K mg base "low_of" 1 1 F_low_of) : Cal P w K mg base "form_for" 1 4 F_form_for :=
  cal_of Fn sc_form_for rfl hm bd fun cdv A outer s H E hr => by
    show SsJ _ _ _ b_form_for
    exact (ss_cons (sj_set (i := 1) sc_form_for.nd (fj_call c_low_of hr (takes_of rfl rfl rfl rfl) (aj_cons (ej_var 0) aj_nil)))
    (ss_one (sj_ret (fj_call c_form_by hr (takes_of rfl rfl rfl rfl) (aj_cons (ej_fj (fj_call c_numbers_of hr (takes_of rfl rfl rfl rfl) (aj_cons (ej_var 0) (aj_cons (ej_var 1) aj_nil)))) (aj_cons (ej_var 1) aj_nil))))))
abbrev s_is_filter : Stmt := topS 25
theorem sc_is_filter : FnScope ["value"] ["value"] (defScope s_is_filter) := ⟨rfl, rfl, rfl, by decide +kernel, rfl, by decide +kernel, by decide +kernel⟩
theorem ok_is_filter {f : Addr} {fd : FuncData} (T : Txt K mg) (Fn : Fun K "is_filter" "is_filter" s_is_filter f fd) (hm : mg "is_filter" = some (.ref f)) (bd : Binds K fd ["value"] []) (c_is_masks : Cal P w K mg base "is_masks" 1 3 F_is_masks) (c_form_for : Cal P w K mg base "form_for" 1 4 F_form_for) : Cal P w K mg base "is_filter" 1 5 F_is_filter :=
  cal_of Fn sc_is_filter rfl hm bd fun cdv A outer s H E hr => by
    show SsJ _ _ _ b_is_filter
    exact (ss_one (sj_ret (fj_ej (ej_and (ej_fj (fj_call c_is_masks hr (takes_of rfl rfl rfl rfl) (aj_cons (ej_var 0) aj_nil))) (ej_and (ej_le (c_len T.m_len (aj_cons (ej_var 0) aj_nil)) (ej_glob T.g_MOST_MASKS)) (ej_one (ej_eq hr (ej_fj (fj_call c_form_for hr (takes_of rfl rfl rfl rfl) (aj_cons (ej_var 0) aj_nil))) (ej_var 0))))))))
abbrev s_need_filter : Stmt := topS 26
theorem sc_need_filter : FnScope ["one"] ["one"] (defScope s_need_filter) := ⟨rfl, rfl, rfl, by decide +kernel, rfl, by decide +kernel, by decide +kernel⟩
theorem ok_need_filter {f : Addr} {fd : FuncData} (T : Txt K mg) (Fn : Fun K "need_filter" "need_filter" s_need_filter f fd) (hm : mg "need_filter" = some (.ref f)) (bd : Binds K fd ["one"] []) (c_is_filter : Cal P w K mg base "is_filter" 1 5 F_is_filter) : Cal P w K mg base "need_filter" 1 6 F_need_filter :=
  cal_of Fn sc_need_filter rfl hm bd fun cdv A outer s H E hr => by
    show SsJ _ _ _ b_need_filter
    exact (ss_one (sj_if (bj_not (bj_val (ej_fj (fj_call c_is_filter hr (takes_of rfl rfl rfl rfl) (aj_cons (ej_var 0) aj_nil))))) (ss_one (sj_raise rfl (takes_of rfl rfl rfl rfl) T.x_InvalidFilter)) ss_nil))
abbrev s_need_mask : Stmt := topS 27
theorem sc_need_mask : FnScope ["mask"] ["mask"] (defScope s_need_mask) := ⟨rfl, rfl, rfl, by decide +kernel, rfl, by decide +kernel, by decide +kernel⟩
theorem ok_need_mask {f : Addr} {fd : FuncData} (T : Txt K mg) (Fn : Fun K "need_mask" "need_mask" s_need_mask f fd) (hm : mg "need_mask" = some (.ref f)) (bd : Binds K fd ["mask"] []) (c_is_offsets : Cal P w K mg base "is_offsets" 1 2 F_is_offsets) : Cal P w K mg base "need_mask" 1 3 F_need_mask :=
  cal_of Fn sc_need_mask rfl hm bd fun cdv A outer s H E hr => by
    show SsJ _ _ _ b_need_mask
    exact (ss_one (sj_if (bj_of (bw_or (bj_not (bj_val (ej_fj (fj_call c_is_offsets hr (takes_of rfl rfl rfl rfl) (aj_cons (ej_var 0) aj_nil))))) (bw_or1 (bj_gt (ej_sub (ej_ix (ej_var 0) (ej_neg ej_int)) (ej_ix (ej_var 0) ej_int)) (ej_glob T.g_MOST_SPAN))))) (ss_one (sj_raise rfl (takes_of rfl rfl rfl rfl) T.x_InvalidMask)) ss_nil))
abbrev s_is_ring : Stmt := topS 28
theorem sc_is_ring : FnScope ["value", "sign"] ["value"] (defScope s_is_ring) := ⟨rfl, rfl, rfl, by decide +kernel, rfl, by decide +kernel, by decide +kernel⟩
theorem ok_is_ring {f : Addr} {fd : FuncData} (T : Txt K mg) (Fn : Fun K "is_ring" "is_ring" s_is_ring f fd) (hm : mg "is_ring" = some (.ref f)) (bd : Binds K fd ["value"] [])  : Cal P w K mg base "is_ring" 1 1 F_is_ring :=
  cal_of Fn sc_is_ring rfl hm bd fun cdv A outer s H E hr => by
    show SsJ _ _ _ b_is_ring
    exact (ss_cons (sj_if (bj_of (bw_or (bj_not (bj_val (c_isStr T.m_isinstance T.m_str (ej_var 0)))) (bw_or1 (bj_not (bj_lele ej_int (c_len T.m_len (aj_cons (ej_var 0) aj_nil)) (ej_glob T.g_MOST_PLACES)))))) (ss_one (sj_ret (fj_ej ej_bl))) ss_nil)
    (ss_one (sj_ret (fj_ej (c_all rfl T.m_all (aj_cons (ej_lc (own := [("sign", 1)]) rfl sc_is_ring.nd (ij_data (ej_var 0)) (blkOk_by (by kernel_rfl)) (fun _ _ _ _ _ => (tj_name sc_is_ring.nd)) (fun _ _ _ _ _ => ts_nil) (fun _ _ _ _ _ => (ej_in hr (ej_var 1) (ej_tup (aj_cons (ej_glob T.g_DOT) (aj_cons (ej_glob T.g_BLANK) aj_nil)))))) aj_nil))))))
abbrev s_need_ring : Stmt := topS 29
theorem sc_need_ring : FnScope ["ring"] ["ring"] (defScope s_need_ring) := ⟨rfl, rfl, rfl, by decide +kernel, rfl, by decide +kernel, by decide +kernel⟩
theorem ok_need_ring {f : Addr} {fd : FuncData} (T : Txt K mg) (Fn : Fun K "need_ring" "need_ring" s_need_ring f fd) (hm : mg "need_ring" = some (.ref f)) (bd : Binds K fd ["ring"] []) (c_is_ring : Cal P w K mg base "is_ring" 1 1 F_is_ring) : Cal P w K mg base "need_ring" 1 2 F_need_ring :=
  cal_of Fn sc_need_ring rfl hm bd fun cdv A outer s H E hr => by
    show SsJ _ _ _ b_need_ring
    exact (ss_one (sj_if (bj_not (bj_val (ej_fj (fj_call c_is_ring hr (takes_of rfl rfl rfl rfl) (aj_cons (ej_var 0) aj_nil))))) (ss_one (sj_raise rfl (takes_of rfl rfl rfl rfl) T.x_InvalidRing)) ss_nil))
abbrev s_has_dot : Stmt := topS 30
theorem sc_has_dot : FnScope ["one", "ring", "place", "many", "offset", "mask"] ["one", "ring", "place"] (defScope s_has_dot) := ⟨rfl, rfl, rfl, by decide +kernel, rfl, by decide +kernel, by decide +kernel⟩
theorem ok_has_dot {f : Addr} {fd : FuncData} (T : Txt K mg) (Fn : Fun K "has_dot" "has_dot" s_has_dot f fd) (hm : mg "has_dot" = some (.ref f)) (bd : Binds K fd ["one", "ring", "place"] [])  : Cal P w K mg base "has_dot" 3 1 F_has_dot :=
  cal_of Fn sc_has_dot rfl hm bd fun cdv A outer s H E hr => by
    show SsJ _ _ _ b_has_dot
    exact (ss_cons (sj_set (i := 3) sc_has_dot.nd (fj_ej (c_len T.m_len (aj_cons (ej_var 1) aj_nil))))
    (ss_one (sj_ret (fj_ej (c_any rfl T.m_any (aj_cons (ej_lc (own := [("mask", 5)]) rfl sc_has_dot.nd (ij_data (ej_var 0)) (blkOk_by (by kernel_rfl)) (fun _ _ _ _ _ => (tj_name sc_has_dot.nd)) (fun _ _ _ _ _ => ts_nil) (fun _ _ _ _ _ => (c_all rfl T.m_all (aj_cons (ej_lc (own := [("offset", 4)]) rfl sc_has_dot.nd (ij_data (ej_var 5)) (blkOk_by (by kernel_rfl)) (fun _ _ _ _ _ => (tj_name sc_has_dot.nd)) (fun _ _ _ _ _ => ts_nil) (fun _ _ _ _ _ => (ej_eq hr (ej_ix (ej_var 1) (ej_mod (ej_add (ej_var 2) (ej_var 4)) (ej_var 3))) (ej_glob T.g_DOT)))) aj_nil)))) aj_nil))))))
abbrev s_apply : Stmt := topS 31
theorem sc_apply : FnScope ["one", "ring", "place"] ["one", "ring"] (defScope s_apply) := ⟨rfl, rfl, rfl, by decide +kernel, rfl, by decide +kernel, by decide +kernel⟩
theorem ok_apply {f : Addr} {fd : FuncData} (T : Txt K mg) (Fn : Fun K "apply" "apply" s_apply f fd) (hm : mg "apply" = some (.ref f)) (bd : Binds K fd ["one", "ring"] []) (c_has_dot : Cal P w K mg base "has_dot" 3 1 F_has_dot) : Cal P w K mg base "apply" 2 2 F_apply :=
  cal_of Fn sc_apply rfl hm bd fun cdv A outer s H E hr => by
    show SsJ _ _ _ b_apply
    exact (ss_one (sj_ret (fj_ej (ej_join ej_str (ej_lc (own := [("place", 2)]) rfl sc_apply.nd (ij_range1 (aj_cons (c_len T.m_len (aj_cons (ej_var 1) aj_nil)) aj_nil) T.m_range) (blkOk_by (by kernel_rfl)) (fun _ _ _ _ _ => (tj_name sc_apply.nd)) (fun _ _ _ _ _ => ts_nil) (fun _ _ _ _ _ => (ej_if (bj_val (ej_fj (fj_call c_has_dot hr takes0 (aj_cons (ej_var 0) (aj_cons (ej_var 1) (aj_cons (ej_var 2) aj_nil)))))) (ej_glob T.g_DOT) (ej_glob T.g_BLANK))))))))
abbrev s_filtered : Stmt := topS 32
theorem sc_filtered : FnScope ["one", "ring"] ["one", "ring"] (defScope s_filtered) := ⟨rfl, rfl, rfl, by decide +kernel, rfl, by decide +kernel, by decide +kernel⟩
theorem ok_filtered {f : Addr} {fd : FuncData} (T : Txt K mg) (Fn : Fun K "filtered" "filtered" s_filtered f fd) (hm : mg "filtered" = some (.ref f)) (bd : Binds K fd ["one", "ring"] []) (c_apply : Cal P w K mg base "apply" 2 2 F_apply) (c_need_ring : Cal P w K mg base "need_ring" 1 2 F_need_ring) (c_need_filter : Cal P w K mg base "need_filter" 1 6 F_need_filter) : Cal P w K mg base "filtered" 2 7 F_filtered :=
  cal_of Fn sc_filtered rfl hm bd fun cdv A outer s H E hr => by
    show SsJ _ _ _ b_filtered
    exact (ss_cons (sj_expr (ej_fj (fj_call c_need_filter hr (takes_of rfl rfl rfl rfl) (aj_cons (ej_var 0) aj_nil))))
    (ss_cons (sj_expr (ej_fj (fj_call c_need_ring hr (takes_of rfl rfl rfl rfl) (aj_cons (ej_var 1) aj_nil))))
    (ss_one (sj_ret (fj_call c_apply hr (takes_of rfl rfl rfl rfl) (aj_cons (ej_var 0) (aj_cons (ej_var 1) aj_nil)))))))
abbrev s_levelled : Stmt := topS 33
theorem sc_levelled : FnScope ["one", "levels", "level", "many", "found", "place", "some", "offset", "mask"] ["one", "levels"] (defScope s_levelled) := ⟨rfl, rfl, rfl, by decide +kernel, rfl, by decide +kernel, by decide +kernel⟩
theorem ok_levelled {f : Addr} {fd : FuncData} (T : Txt K mg) (Fn : Fun K "levelled" "levelled" s_levelled f fd) (hm : mg "levelled" = some (.ref f)) (bd : Binds K fd ["one", "levels"] []) (c_is_integer : Cal P w K mg base "is_integer" 1 1 F_is_integer) (c_need_filter : Cal P w K mg base "need_filter" 1 6 F_need_filter) : Cal P w K mg base "levelled" 2 7 F_levelled :=
  cal_of Fn sc_levelled rfl hm bd fun cdv A outer s H E hr => by
    show SsJ _ _ _ b_levelled
    exact (ss_cons (sj_expr (ej_fj (fj_call c_need_filter hr (takes_of rfl rfl rfl rfl) (aj_cons (ej_var 0) aj_nil))))
    (ss_cons (sj_if (bj_of (bw_or (bj_not (bj_val (c_isTuple T.m_isinstance T.m_tuple (ej_var 1)))) (bw_or1 (bj_not (bj_lele ej_int (c_len T.m_len (aj_cons (ej_var 1) aj_nil)) (ej_glob T.g_MOST_PLACES)))))) (ss_one (sj_raise rfl (takes_of rfl rfl rfl rfl) T.x_InvalidLevels)) ss_nil)
    (ss_cons (sj_if (bj_not (bj_val (c_all rfl T.m_all (aj_cons (ej_lc (own := [("level", 2)]) rfl sc_levelled.nd (ij_data (ej_var 1)) (blkOk_by (by kernel_rfl)) (fun _ _ _ _ _ => (tj_name sc_levelled.nd)) (fun _ _ _ _ _ => ts_nil) (fun _ _ _ _ _ => (ej_fj (fj_call c_is_integer hr takes0 (aj_cons (ej_var 2) aj_nil))))) aj_nil)))) (ss_one (sj_raise rfl (takes_of rfl rfl rfl rfl) T.x_InvalidLevels)) ss_nil)
    (ss_cons (sj_asg2F (i := 3) (j := 4) rfl sc_levelled.nd (c_len T.m_len (aj_cons (ej_var 1) aj_nil)) (fj_lst aj_nil))
    (ss_cons (sj_forR (passes_of rfl) rfl (is_range1 (aj_cons (ej_var 3) aj_nil) T.m_range) (tj_name sc_levelled.nd) (tgOk_name 5) (ss_cons (sj_setLcF (i := 6) (own := [("mask", 8)]) rfl sc_levelled.nd (ij_data (ej_var 0)) (blkOk_by (by kernel_rfl)) (fun _ _ _ _ _ => (tj_name sc_levelled.nd)) (fun _ _ _ _ _ => ts_nil) (fun _ _ _ _ _ => (c_min rfl T.m_min (aj_cons (ej_lc (own := [("offset", 7)]) rfl sc_levelled.nd (ij_data (ej_var 8)) (blkOk_by (by kernel_rfl)) (fun _ _ _ _ _ => (tj_name sc_levelled.nd)) (fun _ _ _ _ _ => ts_nil) (fun _ _ _ _ _ => (c_int T.m_int (aj_cons (ej_ix (ej_var 1) (ej_mod (ej_add (ej_var 5) (ej_var 7)) (ej_var 3))) aj_nil)))) aj_nil))))
    (ss_one (sj_app (i := 4) (c_max rfl T.m_max (aj_cons (ej_var 6) aj_nil))))))
    (ss_one (sj_retV 4)))))))
abbrev s_thin_by : Stmt := topS 34
theorem sc_thin_by : FnScope ["mask"] ["mask"] (defScope s_thin_by) := ⟨rfl, rfl, rfl, by decide +kernel, rfl, by decide +kernel, by decide +kernel⟩
theorem ok_thin_by {f : Addr} {fd : FuncData} (T : Txt K mg) (Fn : Fun K "thin_by" "thin_by" s_thin_by f fd) (hm : mg "thin_by" = some (.ref f)) (bd : Binds K fd ["mask"] [])  : Cal P w K mg base "thin_by" 1 1 F_thin_by :=
  cal_of Fn sc_thin_by rfl hm bd fun cdv A outer s H E hr => by
    show SsJ _ _ _ b_thin_by
    exact (ss_one (sj_ret (fj_ej (ej_tup (aj_cons (ej_var 0) aj_nil)))))
abbrev s_thicken_by : Stmt := topS 35
theorem sc_thicken_by : FnScope ["mask", "offset"] ["mask"] (defScope s_thicken_by) := ⟨rfl, rfl, rfl, by decide +kernel, rfl, by decide +kernel, by decide +kernel⟩
theorem ok_thicken_by {f : Addr} {fd : FuncData} (T : Txt K mg) (Fn : Fun K "thicken_by" "thicken_by" s_thicken_by f fd) (hm : mg "thicken_by" = some (.ref f)) (bd : Binds K fd ["mask"] [])  : Cal P w K mg base "thicken_by" 1 1 F_thicken_by :=
  cal_of Fn sc_thicken_by rfl hm bd fun cdv A outer s H E hr => by
    show SsJ _ _ _ b_thicken_by
    exact (ss_one (sj_ret (fj_ej (c_tuple T.m_tuple (aj_cons (ej_lc (own := [("offset", 1)]) rfl sc_thicken_by.nd (ij_data (ej_var 0)) (blkOk_by (by kernel_rfl)) (fun _ _ _ _ _ => (tj_name sc_thicken_by.nd)) (fun _ _ _ _ _ => ts_nil) (fun _ _ _ _ _ => (ej_tup (aj_cons (ej_var 1) aj_nil)))) aj_nil)))))
abbrev s_thinning : Stmt := topS 36
theorem sc_thinning : FnScope ["mask"] ["mask"] (defScope s_thinning) := ⟨rfl, rfl, rfl, by decide +kernel, rfl, by decide +kernel, by decide +kernel⟩
theorem ok_thinning {f : Addr} {fd : FuncData} (T : Txt K mg) (Fn : Fun K "thinning" "thinning" s_thinning f fd) (hm : mg "thinning" = some (.ref f)) (bd : Binds K fd ["mask"] []) (c_thin_by : Cal P w K mg base "thin_by" 1 1 F_thin_by) (c_need_mask : Cal P w K mg base "need_mask" 1 3 F_need_mask) : Cal P w K mg base "thinning" 1 4 F_thinning :=
  cal_of Fn sc_thinning rfl hm bd fun cdv A outer s H E hr => by
    show SsJ _ _ _ b_thinning
    exact (ss_cons (sj_expr (ej_fj (fj_call c_need_mask hr (takes_of rfl rfl rfl rfl) (aj_cons (ej_var 0) aj_nil))))
    (ss_one (sj_ret (fj_call c_thin_by hr (takes_of rfl rfl rfl rfl) (aj_cons (ej_var 0) aj_nil)))))
abbrev s_thickening : Stmt := topS 37
theorem sc_thickening : FnScope ["mask"] ["mask"] (defScope s_thickening) := ⟨rfl, rfl, rfl, by decide +kernel, rfl, by decide +kernel, by decide +kernel⟩
theorem ok_thickening {f : Addr} {fd : FuncData} (T : Txt K mg) (Fn : Fun K "thickening" "thickening" s_thickening f fd) (hm : mg "thickening" = some (.ref f)) (bd : Binds K fd ["mask"] []) (c_thicken_by : Cal P w K mg base "thicken_by" 1 1 F_thicken_by) (c_need_mask : Cal P w K mg base "need_mask" 1 3 F_need_mask) : Cal P w K mg base "thickening" 1 4 F_thickening :=
  cal_of Fn sc_thickening rfl hm bd fun cdv A outer s H E hr => by
    show SsJ _ _ _ b_thickening
    exact (ss_cons (sj_expr (ej_fj (fj_call c_need_mask hr (takes_of rfl rfl rfl rfl) (aj_cons (ej_var 0) aj_nil))))
    (ss_one (sj_ret (fj_call c_thicken_by hr (takes_of rfl rfl rfl rfl) (aj_cons (ej_var 0) aj_nil)))))
abbrev s__law_source : Stmt := topS 39
theorem sc__law_source : FnScope ["script", "index", "cell"] ["script", "index"] (defScope s__law_source) := ⟨rfl, rfl, rfl, by decide +kernel, rfl, by decide +kernel, by decide +kernel⟩
theorem ok__law_source {f : Addr} {fd : FuncData} (T : Txt K mg) (Fn : Fun K "_law_source" "_law_source" s__law_source f fd) (hm : mg "_law_source" = some (.ref f)) (bd : Binds K fd ["script", "index"] [])  : Cal P w K mg base "_law_source" 2 1 F__law_source :=
  cal_of Fn sc__law_source rfl hm bd fun cdv A outer s H E hr => by
    show SsJ _ _ _ b__law_source
    exact (ss_cons (sj_set (i := 2) sc__law_source.nd (fj_ej ej_int))
    (ss_cons (sj_if (bj_lt (ej_var 1) (c_len T.m_len (aj_cons (ej_var 0) aj_nil))) (ss_one (sj_set (i := 2) sc__law_source.nd (fj_ej (c_abs T.m_abs (aj_cons (ej_ix (ej_var 0) (ej_var 1)) aj_nil))))) ss_nil)
    (ss_cons (sj_if (bj_lt (ej_var 2) (ej_pow ej_int ej_int)) (ss_one (sj_ret (fj_lst (aj_cons ej_int (aj_cons (ej_add ej_int (ej_mod (c_int T.m_int (aj_cons (ej_add (ej_mulA (ej_var 2) ej_int) (ej_mulA ej_int (ej_var 1))) aj_nil)) ej_int)) aj_nil))))) ss_nil)
    (ss_one (sj_ret (fj_lst (aj_cons (ej_var 2) (aj_cons (ej_add ej_int (ej_mod (c_int T.m_int (aj_cons (ej_add (ej_var 2) (ej_var 1)) aj_nil)) ej_int)) aj_nil))))))))
abbrev s__law_draw : Stmt := topS 40
theorem sc__law_draw : FnScope ["source", "size", "drawn"] ["source", "size"] (defScope s__law_draw) := ⟨rfl, rfl, rfl, by decide +kernel, rfl, by decide +kernel, by decide +kernel⟩
theorem ok__law_draw {f : Addr} {fd : FuncData} (T : Txt K mg) (Fn : Fun K "_law_draw" "_law_draw" s__law_draw f fd) (hm : mg "_law_draw" = some (.ref f)) (bd : Binds K fd ["source", "size"] [])  : Cal P w K mg base "_law_draw" 2 1 F__law_draw :=
  cal_of Fn sc__law_draw rfl hm bd fun cdv A outer s H E hr => by
    show SsJ _ _ _ b__law_draw
    exact (ss_cons (sj_if (bj_gt (ej_ix (ej_var 0) ej_int) ej_int) (ss_cons (sj_set (i := 2) sc__law_draw.nd (fj_ej (ej_mod (c_int T.m_int (aj_cons (ej_ix (ej_var 0) ej_int) aj_nil)) (ej_var 1))))
    (ss_cons (sj_setH (i := 0) (j := 0) (ej_fdiv (ej_ix (ej_var 0) ej_int) (ej_var 1)))
    (ss_one (sj_retV 2)))) ss_nil)
    (ss_cons (sj_setH (i := 0) (j := 1) (ej_mod (c_int T.m_int (aj_cons (ej_mulA (ej_ix (ej_var 0) ej_int) ej_int) aj_nil)) ej_int))
    (ss_one (sj_ret (fj_ej (ej_mod (c_int T.m_int (aj_cons (ej_fdiv (ej_mod (c_int T.m_int (aj_cons (ej_mulA (ej_ix (ej_var 0) ej_int) (ej_ix (ej_var 0) ej_int)) aj_nil)) ej_int) ej_int) aj_nil)) (ej_var 1)))))))
abbrev s__law_choice : Stmt := topS 41
theorem sc__law_choice : FnScope ["source", "items"] ["source", "items"] (defScope s__law_choice) := ⟨rfl, rfl, rfl, by decide +kernel, rfl, by decide +kernel, by decide +kernel⟩
theorem ok__law_choice {f : Addr} {fd : FuncData} (T : Txt K mg) (Fn : Fun K "_law_choice" "_law_choice" s__law_choice f fd) (hm : mg "_law_choice" = some (.ref f)) (bd : Binds K fd ["source", "items"] []) (c__law_draw : Cal P w K mg base "_law_draw" 2 1 F__law_draw) : Cal P w K mg base "_law_choice" 2 2 F__law_choice :=
  cal_of Fn sc__law_choice rfl hm bd fun cdv A outer s H E hr => by
    show SsJ _ _ _ b__law_choice
    exact (ss_one (sj_ret (fj_ej (ej_ix (ej_var 1) (ej_fj (fj_call c__law_draw hr (takes_of rfl rfl rfl rfl) (aj_cons (ej_var 0) (aj_cons (c_len T.m_len (aj_cons (ej_var 1) aj_nil)) aj_nil))))))))
abbrev s__law_mask : Stmt := topS 42
theorem sc__law_mask : FnScope ["source", "most", "found", "offset"] ["source", "most"] (defScope s__law_mask) := ⟨rfl, rfl, rfl, by decide +kernel, rfl, by decide +kernel, by decide +kernel⟩
theorem ok__law_mask {f : Addr} {fd : FuncData} (T : Txt K mg) (Fn : Fun K "_law_mask" "_law_mask" s__law_mask f fd) (hm : mg "_law_mask" = some (.ref f)) (bd : Binds K fd ["source", "most"] []) (c__law_draw : Cal P w K mg base "_law_draw" 2 1 F__law_draw) : Cal P w K mg base "_law_mask" 2 2 F__law_mask :=
  cal_of Fn sc__law_mask rfl hm bd fun cdv A outer s H E hr => by
    show SsJ _ _ _ b__law_mask
    exact (ss_cons (sj_setLc (i := 2) (own := [("offset", 3)]) rfl sc__law_mask.nd (ij_range2 (aj_cons (ej_neg (ej_var 1)) (aj_cons (ej_add (ej_var 1) ej_int) aj_nil)) T.m_range) (blkOk_by (by kernel_rfl)) (fun _ _ _ _ _ => (tj_name sc__law_mask.nd)) (fun _ _ _ _ _ => (ts_one (bj_eq hr (ej_fj (fj_call c__law_draw hr takes0 (aj_cons (ej_var 0) (aj_cons ej_int aj_nil)))) ej_int))) (fun _ _ _ _ _ => (ej_var 3)))
    (ss_one (sj_ret (fj_ej (ej_if (bj_ne hr (ej_var 2) (ej_lst aj_nil)) (c_tuple T.m_tuple (aj_cons (ej_var 2) aj_nil)) (ej_tup (aj_cons (ej_sub (ej_fj (fj_call c__law_draw hr (takes_of rfl rfl rfl rfl) (aj_cons (ej_var 0) (aj_cons (ej_add (ej_mulA ej_int (ej_var 1)) ej_int) aj_nil)))) (ej_var 1)) aj_nil)))))))
abbrev s__law_within : Stmt := topS 43
theorem sc__law_within : FnScope ["one", "other", "offset"] ["one", "other"] (defScope s__law_within) := ⟨rfl, rfl, rfl, by decide +kernel, rfl, by decide +kernel, by decide +kernel⟩
theorem ok__law_within {f : Addr} {fd : FuncData} (T : Txt K mg) (Fn : Fun K "_law_within" "_law_within" s__law_within f fd) (hm : mg "_law_within" = some (.ref f)) (bd : Binds K fd ["one", "other"] [])  : Cal P w K mg base "_law_within" 2 1 F__law_within :=
  cal_of Fn sc__law_within rfl hm bd fun cdv A outer s H E hr => by
    show SsJ _ _ _ b__law_within
    exact (ss_one (sj_ret (fj_ej (ej_eq hr (ej_lc (own := [("offset", 2)]) rfl sc__law_within.nd (ij_data (ej_var 0)) (blkOk_by (by kernel_rfl)) (fun _ _ _ _ _ => (tj_name sc__law_within.nd)) (fun _ _ _ _ _ => (ts_one (bj_nin hr (ej_var 2) (ej_var 1)))) (fun _ _ _ _ _ => (ej_var 2))) (ej_lst aj_nil)))))
abbrev s__law_least : Stmt := topS 44
theorem sc__law_least : FnScope ["masks", "found", "size", "mask", "one"] ["masks"] (defScope s__law_least) := ⟨rfl, rfl, rfl, by decide +kernel, rfl, by decide +kernel, by decide +kernel⟩
theorem ok__law_least {f : Addr} {fd : FuncData} (T : Txt K mg) (Fn : Fun K "_law_least" "_law_least" s__law_least f fd) (hm : mg "_law_least" = some (.ref f)) (bd : Binds K fd ["masks"] []) (c__law_within : Cal P w K mg base "_law_within" 2 1 F__law_within) : Cal P w K mg base "_law_least" 1 2 F__law_least :=
  cal_of Fn sc__law_least rfl hm bd fun cdv A outer s H E hr => by
    show SsJ _ _ _ b__law_least
    exact (ss_cons (sj_set (i := 1) sc__law_least.nd (fj_lst aj_nil))
    (ss_cons (sj_for (passes_of rfl) rfl (fj_sorted hr T.m_sorted (aj_cons (ej_lc (own := [("mask", 3)]) rfl sc__law_least.nd (ij_data (c_sortedSet rfl hr T.m_sorted T.m_set (ej_var 0))) (blkOk_by (by kernel_rfl)) (fun _ _ _ _ _ => (tj_name sc__law_least.nd)) (fun _ _ _ _ _ => ts_nil) (fun _ _ _ _ _ => (ej_tup (aj_cons (c_len T.m_len (aj_cons (ej_var 3) aj_nil)) (aj_cons (ej_var 3) aj_nil))))) aj_nil)) (tj_two rfl sc__law_least.nd) (tgOk_two 2 3) (ss_one (sj_if (bj_eq hr (ej_lc (own := [("one", 4)]) rfl sc__law_least.nd (ij_data (ej_var 1)) (blkOk_by (by kernel_rfl)) (fun _ _ _ _ _ => (tj_name sc__law_least.nd)) (fun _ _ _ _ _ => (ts_one (bj_val (ej_fj (fj_call c__law_within hr takes0 (aj_cons (ej_var 4) (aj_cons (ej_var 3) aj_nil))))))) (fun _ _ _ _ _ => (ej_var 4))) (ej_lst aj_nil)) (ss_one (sj_app (i := 1) (ej_var 3))) ss_nil)))
    (ss_one (sj_ret (fj_ej (c_tuple T.m_tuple (aj_cons (c_sorted hr T.m_sorted (aj_cons (ej_var 1) aj_nil)) aj_nil)))))))
abbrev s__law_filter : Stmt := topS 45
theorem sc__law_filter : FnScope ["source", "most", "mask_so"] ["source", "most"] (defScope s__law_filter) := ⟨rfl, rfl, rfl, by decide +kernel, rfl, by decide +kernel, by decide +kernel⟩
theorem ok__law_filter {f : Addr} {fd : FuncData} (T : Txt K mg) (Fn : Fun K "_law_filter" "_law_filter" s__law_filter f fd) (hm : mg "_law_filter" = some (.ref f)) (bd : Binds K fd ["source", "most"] []) (c__law_draw : Cal P w K mg base "_law_draw" 2 1 F__law_draw) (c__law_mask : Cal P w K mg base "_law_mask" 2 2 F__law_mask) (c__law_least : Cal P w K mg base "_law_least" 1 2 F__law_least) : Cal P w K mg base "_law_filter" 2 3 F__law_filter :=
  cal_of Fn sc__law_filter rfl hm bd fun cdv A outer s H E hr => by
    show SsJ _ _ _ b__law_filter
    exact (ss_one (sj_ret (fj_call c__law_least hr (takes_of rfl rfl rfl rfl) (aj_cons (ej_lc (own := [("mask_so", 2)]) rfl sc__law_filter.nd (ij_range1 (aj_cons (ej_add ej_int (ej_fj (fj_call c__law_draw hr (takes_of rfl rfl rfl rfl) (aj_cons (ej_var 0) (aj_cons ej_int aj_nil))))) aj_nil) T.m_range) (blkOk_by (by kernel_rfl)) (fun _ _ _ _ _ => (tj_name sc__law_filter.nd)) (fun _ _ _ _ _ => ts_nil) (fun _ _ _ _ _ => (ej_fj (fj_call c__law_mask hr takes0 (aj_cons (ej_var 0) (aj_cons (ej_var 1) aj_nil)))))) aj_nil))))
abbrev s__law_ring : Stmt := topS 46
theorem sc__law_ring : FnScope ["source", "most", "signs", "place_so"] ["source", "most"] (defScope s__law_ring) := ⟨rfl, rfl, rfl, by decide +kernel, rfl, by decide +kernel, by decide +kernel⟩
theorem ok__law_ring {f : Addr} {fd : FuncData} (T : Txt K mg) (Fn : Fun K "_law_ring" "_law_ring" s__law_ring f fd) (hm : mg "_law_ring" = some (.ref f)) (bd : Binds K fd ["source", "most"] []) (c__law_draw : Cal P w K mg base "_law_draw" 2 1 F__law_draw) (c__law_choice : Cal P w K mg base "_law_choice" 2 2 F__law_choice) : Cal P w K mg base "_law_ring" 2 3 F__law_ring :=
  cal_of Fn sc__law_ring rfl hm bd fun cdv A outer s H E hr => by
    show SsJ _ _ _ b__law_ring
    exact (ss_cons (sj_set (i := 2) sc__law_ring.nd (fj_call c__law_choice hr (takes_of rfl rfl rfl rfl) (aj_cons (ej_var 0) (aj_cons (ej_lst (aj_cons ej_str (aj_cons ej_str (aj_cons ej_str (aj_cons ej_str aj_nil))))) aj_nil))))
    (ss_one (sj_ret (fj_ej (ej_join ej_str (ej_lc (own := [("place_so", 3)]) rfl sc__law_ring.nd (ij_range1 (aj_cons (ej_add ej_int (ej_fj (fj_call c__law_draw hr (takes_of rfl rfl rfl rfl) (aj_cons (ej_var 0) (aj_cons (ej_var 1) aj_nil))))) aj_nil) T.m_range) (blkOk_by (by kernel_rfl)) (fun _ _ _ _ _ => (tj_name sc__law_ring.nd)) (fun _ _ _ _ _ => ts_nil) (fun _ _ _ _ _ => (ej_fj (fj_call c__law_choice hr takes0 (aj_cons (ej_var 0) (aj_cons (c_list rfl T.m_list (aj_cons (ej_var 2) aj_nil)) aj_nil)))))))))))
abbrev s__law_lies : Stmt := topS 47
theorem sc__law_lies : FnScope ["one", "other", "sign", "more"] ["one", "other"] (defScope s__law_lies) := ⟨rfl, rfl, rfl, by decide +kernel, rfl, by decide +kernel, by decide +kernel⟩
theorem ok__law_lies {f : Addr} {fd : FuncData} (T : Txt K mg) (Fn : Fun K "_law_lies" "_law_lies" s__law_lies f fd) (hm : mg "_law_lies" = some (.ref f)) (bd : Binds K fd ["one", "other"] [])  : Cal P w K mg base "_law_lies" 2 1 F__law_lies :=
  cal_of Fn sc__law_lies rfl hm bd fun cdv A outer s H E hr => by
    show SsJ _ _ _ b__law_lies
    exact (ss_one (sj_ret (fj_ej (ej_nin hr ej_str (ej_lc (own := [("sign", 2), ("more", 3)]) rfl sc__law_lies.nd (ij_zipS (aj_cons (ej_var 0) (aj_cons (ej_var 1) aj_nil)) T.m_zip) (blkOk_by (by kernel_rfl)) (fun _ _ _ _ _ => (tj_two rfl sc__law_lies.nd)) (fun _ _ _ _ _ => ts_nil) (fun _ _ _ _ _ => (ej_add (ej_var 2) (ej_var 3))))))))
abbrev s__law_joined : Stmt := topS 48
theorem sc__law_joined : FnScope ["one", "other", "sign", "more"] ["one", "other"] (defScope s__law_joined) := ⟨rfl, rfl, rfl, by decide +kernel, rfl, by decide +kernel, by decide +kernel⟩
theorem ok__law_joined {f : Addr} {fd : FuncData} (T : Txt K mg) (Fn : Fun K "_law_joined" "_law_joined" s__law_joined f fd) (hm : mg "_law_joined" = some (.ref f)) (bd : Binds K fd ["one", "other"] [])  : Cal P w K mg base "_law_joined" 2 1 F__law_joined :=
  cal_of Fn sc__law_joined rfl hm bd fun cdv A outer s H E hr => by
    show SsJ _ _ _ b__law_joined
    exact (ss_one (sj_ret (fj_ej (ej_join ej_str (ej_lc (own := [("sign", 2), ("more", 3)]) rfl sc__law_joined.nd (ij_zipS (aj_cons (ej_var 0) (aj_cons (ej_var 1) aj_nil)) T.m_zip) (blkOk_by (by kernel_rfl)) (fun _ _ _ _ _ => (tj_two rfl sc__law_joined.nd)) (fun _ _ _ _ _ => ts_nil) (fun _ _ _ _ _ => (ej_if (bj_in hr ej_str (ej_lst (aj_cons (ej_var 2) (aj_cons (ej_var 3) aj_nil)))) ej_str ej_str)))))))
abbrev s__law_shared : Stmt := topS 49
theorem sc__law_shared : FnScope ["one", "other", "sign", "more"] ["one", "other"] (defScope s__law_shared) := ⟨rfl, rfl, rfl, by decide +kernel, rfl, by decide +kernel, by decide +kernel⟩
theorem ok__law_shared {f : Addr} {fd : FuncData} (T : Txt K mg) (Fn : Fun K "_law_shared" "_law_shared" s__law_shared f fd) (hm : mg "_law_shared" = some (.ref f)) (bd : Binds K fd ["one", "other"] [])  : Cal P w K mg base "_law_shared" 2 1 F__law_shared :=
  cal_of Fn sc__law_shared rfl hm bd fun cdv A outer s H E hr => by
    show SsJ _ _ _ b__law_shared
    exact (ss_one (sj_ret (fj_ej (ej_join ej_str (ej_lc (own := [("sign", 2), ("more", 3)]) rfl sc__law_shared.nd (ij_zipS (aj_cons (ej_var 0) (aj_cons (ej_var 1) aj_nil)) T.m_zip) (blkOk_by (by kernel_rfl)) (fun _ _ _ _ _ => (tj_two rfl sc__law_shared.nd)) (fun _ _ _ _ _ => ts_nil) (fun _ _ _ _ _ => (ej_if (bj_eqeq hr (ej_var 2) (ej_var 3) ej_str) ej_str ej_str)))))))
abbrev s_law : Stmt := topS 50
theorem sc_law : FnScope ["script", "k", "source", "turn", "one", "ring", "other", "sign_so", "more", "less", "made", "made_other", "mask", "thin", "thick", "levels", "higher", "level", "low", "high"] ["script"] (defScope s_law) := ⟨rfl, rfl, rfl, by decide +kernel, rfl, by decide +kernel, by decide +kernel⟩
theorem ok_law {f : Addr} {fd : FuncData} (T : Txt K mg) (Fn : Fun K "law" "law" s_law f fd) (c_thickening : Cal P w K mg base "thickening" 1 4 F_thickening) (c_filtered : Cal P w K mg base "filtered" 2 7 F_filtered) (c_thinning : Cal P w K mg base "thinning" 1 4 F_thinning) (c_levelled : Cal P w K mg base "levelled" 2 7 F_levelled) (c__law_draw : Cal P w K mg base "_law_draw" 2 1 F__law_draw) (c__law_joined : Cal P w K mg base "_law_joined" 2 1 F__law_joined) (c__law_shared : Cal P w K mg base "_law_shared" 2 1 F__law_shared) (c__law_mask : Cal P w K mg base "_law_mask" 2 2 F__law_mask) (c__law_lies : Cal P w K mg base "_law_lies" 2 1 F__law_lies) (c__law_choice : Cal P w K mg base "_law_choice" 2 2 F__law_choice) (c__law_ring : Cal P w K mg base "_law_ring" 2 3 F__law_ring) (c__law_filter : Cal P w K mg base "_law_filter" 2 3 F__law_filter) (c__law_source : Cal P w K mg base "_law_source" 2 1 F__law_source) : FnOk P w K mg base (L2.CX P w) 8 f fd ["script"] (spD K mg 1 F_law) :=
  ok_def Fn sc_law fun cdv A outer s H E hr => by
    show SsJ _ _ _ b_law
    exact (ss_cons (sj_forR (passes_of rfl) rfl (is_range1 (aj_cons (ej_add ej_int (c_min rfl T.m_min (aj_cons (c_len T.m_len (aj_cons (ej_var 0) aj_nil)) (aj_cons ej_int aj_nil)))) aj_nil) T.m_range) (tj_name sc_law.nd) (tgOk_name 1) (ss_cons (sj_adopt (i := 2) sc_law.nd (fj_call c__law_source hr (takes_of rfl rfl rfl rfl) (aj_cons (ej_var 0) (aj_cons (ej_var 1) aj_nil))))
    (ss_one (sj_forR (passes_of rfl) rfl (is_range1 (aj_cons ej_int aj_nil) T.m_range) (tj_name sc_law.nd) (tgOk_name 3) (ss_cons (sj_par2 (i := 4) (j := 5) rfl sc_law.nd (aj_cons (ej_fj (fj_call c__law_filter hr (takes_of rfl rfl rfl rfl) (aj_cons (ej_var 2) (aj_cons (ej_fj (fj_call c__law_choice hr (takes_of rfl rfl rfl rfl) (aj_cons (ej_var 2) (aj_cons (ej_lst (aj_cons ej_int (aj_cons ej_int aj_nil))) aj_nil)))) aj_nil)))) (aj_cons (ej_fj (fj_call c__law_ring hr (takes_of rfl rfl rfl rfl) (aj_cons (ej_var 2) (aj_cons ej_int aj_nil)))) aj_nil)))
    (ss_cons (sj_set (i := 6) sc_law.nd (fj_ej (ej_join ej_str (ej_lc (own := [("sign_so", 7)]) rfl sc_law.nd (ij_data (ej_var 5)) (blkOk_by (by kernel_rfl)) (fun _ _ _ _ _ => (tj_name sc_law.nd)) (fun _ _ _ _ _ => ts_nil) (fun _ _ _ _ _ => (ej_fj (fj_call c__law_choice hr takes0 (aj_cons (ej_var 2) (aj_cons (ej_lst (aj_cons ej_str (aj_cons ej_str aj_nil))) aj_nil)))))))))
    (ss_cons (sj_par2 (i := 8) (j := 9) rfl sc_law.nd (aj_cons (ej_fj (fj_call c__law_joined hr (takes_of rfl rfl rfl rfl) (aj_cons (ej_var 5) (aj_cons (ej_var 6) aj_nil)))) (aj_cons (ej_fj (fj_call c__law_shared hr (takes_of rfl rfl rfl rfl) (aj_cons (ej_var 5) (aj_cons (ej_var 6) aj_nil)))) aj_nil)))
    (ss_cons (sj_par2 (i := 10) (j := 11) rfl sc_law.nd (aj_cons (ej_fj (fj_call c_filtered hr (takes_of rfl rfl rfl rfl) (aj_cons (ej_var 4) (aj_cons (ej_var 5) aj_nil)))) (aj_cons (ej_fj (fj_call c_filtered hr (takes_of rfl rfl rfl rfl) (aj_cons (ej_var 4) (aj_cons (ej_var 6) aj_nil)))) aj_nil)))
    (ss_cons (sj_if (bj_of (bw_or (bj_not (bj_val (ej_fj (fj_call c__law_lies hr (takes_of rfl rfl rfl rfl) (aj_cons (ej_var 10) (aj_cons (ej_fj (fj_call c_filtered hr (takes_of rfl rfl rfl rfl) (aj_cons (ej_var 4) (aj_cons (ej_var 8) aj_nil)))) aj_nil)))))) (bw_or1 (bj_not (bj_val (ej_fj (fj_call c__law_lies hr (takes_of rfl rfl rfl rfl) (aj_cons (ej_fj (fj_call c_filtered hr (takes_of rfl rfl rfl rfl) (aj_cons (ej_var 4) (aj_cons (ej_var 9) aj_nil)))) (aj_cons (ej_var 10) aj_nil))))))))) (ss_one (sj_ret (fj_ej ej_bl))) ss_nil)
    (ss_cons (sj_if (bj_not (bj_val (ej_fj (fj_call c__law_lies hr (takes_of rfl rfl rfl rfl) (aj_cons (ej_fj (fj_call c__law_joined hr (takes_of rfl rfl rfl rfl) (aj_cons (ej_var 10) (aj_cons (ej_var 11) aj_nil)))) (aj_cons (ej_fj (fj_call c_filtered hr (takes_of rfl rfl rfl rfl) (aj_cons (ej_var 4) (aj_cons (ej_var 8) aj_nil)))) aj_nil)))))) (ss_one (sj_ret (fj_ej ej_bl))) ss_nil)
    (ss_cons (sj_if (bj_not (bj_val (ej_fj (fj_call c__law_lies hr (takes_of rfl rfl rfl rfl) (aj_cons (ej_fj (fj_call c_filtered hr (takes_of rfl rfl rfl rfl) (aj_cons (ej_var 4) (aj_cons (ej_var 9) aj_nil)))) (aj_cons (ej_fj (fj_call c__law_shared hr (takes_of rfl rfl rfl rfl) (aj_cons (ej_var 10) (aj_cons (ej_var 11) aj_nil)))) aj_nil)))))) (ss_one (sj_ret (fj_ej ej_bl))) ss_nil)
    (ss_cons (sj_set (i := 12) sc_law.nd (fj_call c__law_mask hr (takes_of rfl rfl rfl rfl) (aj_cons (ej_var 2) (aj_cons ej_int aj_nil))))
    (ss_cons (sj_par2 (i := 13) (j := 14) rfl sc_law.nd (aj_cons (ej_fj (fj_call c_thinning hr (takes_of rfl rfl rfl rfl) (aj_cons (ej_var 12) aj_nil))) (aj_cons (ej_fj (fj_call c_thickening hr (takes_of rfl rfl rfl rfl) (aj_cons (ej_var 12) aj_nil))) aj_nil)))
    (ss_cons (sj_if (bj_ne hr (ej_fj (fj_call c_filtered hr (takes_of rfl rfl rfl rfl) (aj_cons (ej_var 13) (aj_cons (ej_var 9) aj_nil)))) (ej_fj (fj_call c__law_shared hr (takes_of rfl rfl rfl rfl) (aj_cons (ej_fj (fj_call c_filtered hr (takes_of rfl rfl rfl rfl) (aj_cons (ej_var 13) (aj_cons (ej_var 5) aj_nil)))) (aj_cons (ej_fj (fj_call c_filtered hr (takes_of rfl rfl rfl rfl) (aj_cons (ej_var 13) (aj_cons (ej_var 6) aj_nil)))) aj_nil))))) (ss_one (sj_ret (fj_ej ej_bl))) ss_nil)
    (ss_cons (sj_if (bj_ne hr (ej_fj (fj_call c_filtered hr (takes_of rfl rfl rfl rfl) (aj_cons (ej_var 14) (aj_cons (ej_var 8) aj_nil)))) (ej_fj (fj_call c__law_joined hr (takes_of rfl rfl rfl rfl) (aj_cons (ej_fj (fj_call c_filtered hr (takes_of rfl rfl rfl rfl) (aj_cons (ej_var 14) (aj_cons (ej_var 5) aj_nil)))) (aj_cons (ej_fj (fj_call c_filtered hr (takes_of rfl rfl rfl rfl) (aj_cons (ej_var 14) (aj_cons (ej_var 6) aj_nil)))) aj_nil))))) (ss_one (sj_ret (fj_ej ej_bl))) ss_nil)
    (ss_cons (sj_set (i := 15) sc_law.nd (fj_ej (c_tuple T.m_tuple (aj_cons (ej_lc (own := [("sign_so", 7)]) rfl sc_law.nd (ij_data (ej_var 5)) (blkOk_by (by kernel_rfl)) (fun _ _ _ _ _ => (tj_name sc_law.nd)) (fun _ _ _ _ _ => ts_nil) (fun _ _ _ _ _ => (ej_fj (fj_call c__law_draw hr takes0 (aj_cons (ej_var 2) (aj_cons ej_int aj_nil)))))) aj_nil))))
    (ss_cons (sj_set (i := 16) sc_law.nd (fj_ej (c_tuple T.m_tuple (aj_cons (ej_lc (own := [("level", 17)]) rfl sc_law.nd (ij_data (ej_var 15)) (blkOk_by (by kernel_rfl)) (fun _ _ _ _ _ => (tj_name sc_law.nd)) (fun _ _ _ _ _ => ts_nil) (fun _ _ _ _ _ => (ej_add (ej_var 17) (ej_fj (fj_call c__law_draw hr takes0 (aj_cons (ej_var 2) (aj_cons ej_int aj_nil))))))) aj_nil))))
    (ss_one (sj_if (bj_ne hr (ej_lc (own := [("low", 18), ("high", 19)]) rfl sc_law.nd (ij_zip (aj_cons (ej_fj (fj_call c_levelled hr (takes_of rfl rfl rfl rfl) (aj_cons (ej_var 4) (aj_cons (ej_var 15) aj_nil)))) (aj_cons (ej_fj (fj_call c_levelled hr (takes_of rfl rfl rfl rfl) (aj_cons (ej_var 4) (aj_cons (ej_var 16) aj_nil)))) aj_nil)) T.m_zip) (blkOk_by (by kernel_rfl)) (fun _ _ _ _ _ => (tj_two rfl sc_law.nd)) (fun _ _ _ _ _ => (ts_one (bj_gt (ej_var 18) (ej_var 19)))) (fun _ _ _ _ _ => ej_int)) (ej_lst aj_nil)) (ss_one (sj_ret (fj_ej ej_bl))) ss_nil)))))))))))))))))))
    (ss_cons (sj_if (bj_ne hr (ej_fj (fj_call c_filtered hr (takes_of rfl rfl rfl rfl) (aj_cons (ej_fj (fj_call c_thickening hr (takes_of rfl rfl rfl rfl) (aj_cons (ej_tup (aj_cons ej_int (aj_cons ej_int (aj_cons ej_int (aj_cons ej_int aj_nil))))) aj_nil))) (aj_cons ej_str aj_nil)))) ej_str) (ss_one (sj_ret (fj_ej ej_bl))) ss_nil)
    (ss_one (sj_ret (fj_ej (ej_and (ej_eq hr (ej_fj (fj_call c_filtered hr (takes_of rfl rfl rfl rfl) (aj_cons (ej_fj (fj_call c_thickening hr (takes_of rfl rfl rfl rfl) (aj_cons (ej_tup (aj_cons ej_int (aj_cons ej_int aj_nil))) aj_nil))) (aj_cons ej_str aj_nil)))) ej_str) (ej_one (ej_eq hr (ej_fj (fj_call c_filtered hr (takes_of rfl rfl rfl rfl) (aj_cons (ej_fj (fj_call c_thinning hr (takes_of rfl rfl rfl rfl) (aj_cons (ej_tup (aj_cons ej_int (aj_cons ej_int aj_nil))) aj_nil))) (aj_cons ej_str aj_nil)))) ej_str))))))))
end
abbrev lvl : Nat := 8
theorem all_mk {P : Program} {w : World} {K : PySem.W.Frag} {h : Heap} {mg : Str → Option Value} {fa : Addr} (X : K.In h) (G : h.Ns mainGlobals mg) (hfa : mg "law" = some (.ref fa))
    {ct0 : Tok} {ct1 : Tok} {ct2 : Tok} {ct3 : Tok} {ct4 : Tok} {ct6 : Tok} {ct7 : Tok} {ct8 : Tok} {ct9 : Tok} {ct10 : Tok} {ct11 : Tok} {ct12 : Tok} {ct13 : Tok} {ct14 : Tok} {ct15 : Tok} {cA5 : Addr} {cO5 : Option Addr} {cN5 : Nat} {cS5 : Array (Option Value)} {C_InvalidFilter : Addr} {C_InvalidLevels : Addr} {C_InvalidMask : Addr} {C_InvalidRing : Addr} {f0 : Addr} {od0 an0 : Option Addr} {sl0 : Array (Option Value)} {oc0 kV0 dc0 pm0 cd0 ct_0 : Value} {f1 : Addr} {od1 an1 : Option Addr} {sl1 : Array (Option Value)} {oc1 kV1 dc1 pm1 cd1 ct_1 : Value} {f2 : Addr} {od2 an2 : Option Addr} {sl2 : Array (Option Value)} {oc2 kV2 dc2 pm2 cd2 ct_2 : Value} {f3 : Addr} {od3 an3 : Option Addr} {sl3 : Array (Option Value)} {oc3 kV3 dc3 pm3 cd3 ct_3 : Value} {f4 : Addr} {od4 an4 : Option Addr} {sl4 : Array (Option Value)} {oc4 kV4 dc4 pm4 cd4 ct_4 : Value} {f5 : Addr} {od5 an5 : Option Addr} {sl5 : Array (Option Value)} {oc5 kV5 dc5 pm5 cd5 ct_5 : Value} {f6 : Addr} {od6 an6 : Option Addr} {sl6 : Array (Option Value)} {oc6 kV6 dc6 pm6 cd6 ct_6 : Value} {f7 : Addr} {od7 an7 : Option Addr} {sl7 : Array (Option Value)} {oc7 kV7 dc7 pm7 cd7 ct_7 : Value} {f8 : Addr} {od8 an8 : Option Addr} {sl8 : Array (Option Value)} {oc8 kV8 dc8 pm8 cd8 ct_8 : Value} {f9 : Addr} {od9 an9 : Option Addr} {sl9 : Array (Option Value)} {oc9 kV9 dc9 pm9 cd9 ct_9 : Value} {f10 : Addr} {od10 an10 : Option Addr} {sl10 : Array (Option Value)} {oc10 kV10 dc10 pm10 cd10 ct_10 : Value} {f11 : Addr} {od11 an11 : Option Addr} {sl11 : Array (Option Value)} {oc11 kV11 dc11 pm11 cd11 ct_11 : Value} {f12 : Addr} {od12 an12 : Option Addr} {sl12 : Array (Option Value)} {oc12 kV12 dc12 pm12 cd12 ct_12 : Value} {f13 : Addr} {od13 an13 : Option Addr} {sl13 : Array (Option Value)} {oc13 kV13 dc13 pm13 cd13 ct_13 : Value} {f14 : Addr} {od14 an14 : Option Addr} {sl14 : Array (Option Value)} {oc14 kV14 dc14 pm14 cd14 ct_14 : Value} {f15 : Addr} {od15 an15 : Option Addr} {sl15 : Array (Option Value)} {oc15 kV15 dc15 pm15 cd15 ct_15 : Value} {f16 : Addr} {od16 an16 : Option Addr} {sl16 : Array (Option Value)} {oc16 kV16 dc16 pm16 cd16 ct_16 : Value} {f17 : Addr} {od17 an17 : Option Addr} {sl17 : Array (Option Value)} {oc17 kV17 dc17 pm17 cd17 ct_17 : Value} {f18 : Addr} {od18 an18 : Option Addr} {sl18 : Array (Option Value)} {oc18 kV18 dc18 pm18 cd18 ct_18 : Value} {f19 : Addr} {od19 an19 : Option Addr} {sl19 : Array (Option Value)} {oc19 kV19 dc19 pm19 cd19 ct_19 : Value} {f20 : Addr} {od20 an20 : Option Addr} {sl20 : Array (Option Value)} {oc20 kV20 dc20 pm20 cd20 ct_20 : Value} {f21 : Addr} {od21 an21 : Option Addr} {sl21 : Array (Option Value)} {oc21 kV21 dc21 pm21 cd21 ct_21 : Value} {f22 : Addr} {od22 an22 : Option Addr} {sl22 : Array (Option Value)} {oc22 kV22 dc22 pm22 cd22 ct_22 : Value} {f23 : Addr} {od23 an23 : Option Addr} {sl23 : Array (Option Value)} {oc23 kV23 dc23 pm23 cd23 ct_23 : Value} {f24 : Addr} {od24 an24 : Option Addr} {sl24 : Array (Option Value)} {oc24 kV24 dc24 pm24 cd24 ct_24 : Value} {f25 : Addr} {od25 an25 : Option Addr} {sl25 : Array (Option Value)} {oc25 kV25 dc25 pm25 cd25 ct_25 : Value} {f26 : Addr} {od26 an26 : Option Addr} {sl26 : Array (Option Value)} {oc26 kV26 dc26 pm26 cd26 ct_26 : Value} {f27 : Addr} {od27 an27 : Option Addr} {sl27 : Array (Option Value)} {oc27 kV27 dc27 pm27 cd27 ct_27 : Value} {f28 : Addr} {od28 an28 : Option Addr} {sl28 : Array (Option Value)} {oc28 kV28 dc28 pm28 cd28 ct_28 : Value} {f29 : Addr} {od29 an29 : Option Addr} {sl29 : Array (Option Value)} {oc29 kV29 dc29 pm29 cd29 ct_29 : Value} {f30 : Addr} {od30 an30 : Option Addr} {sl30 : Array (Option Value)} {oc30 kV30 dc30 pm30 cd30 ct_30 : Value} {f31 : Addr} {od31 an31 : Option Addr} {sl31 : Array (Option Value)} {oc31 kV31 dc31 pm31 cd31 ct_31 : Value} {f32 : Addr} {od32 an32 : Option Addr} {sl32 : Array (Option Value)} {oc32 kV32 dc32 pm32 cd32 ct_32 : Value} {f33 : Addr} {od33 an33 : Option Addr} {sl33 : Array (Option Value)} {oc33 kV33 dc33 pm33 cd33 ct_33 : Value} {f34 : Addr} {od34 an34 : Option Addr} {sl34 : Array (Option Value)} {oc34 kV34 dc34 pm34 cd34 ct_34 : Value} {f35 : Addr} {od35 an35 : Option Addr} {sl35 : Array (Option Value)} {oc35 kV35 dc35 pm35 cd35 ct_35 : Value} {f36 : Addr} {od36 an36 : Option Addr} {sl36 : Array (Option Value)} {oc36 kV36 dc36 pm36 cd36 ct_36 : Value}
    (n_abs : PySem.W.nsIn K mainGlobals "abs" = some none)
    (n_all : PySem.W.nsIn K mainGlobals "all" = some none)
    (n_any : PySem.W.nsIn K mainGlobals "any" = some none)
    (n_bool : PySem.W.nsIn K mainGlobals "bool" = some none)
    (n_enumerate : PySem.W.nsIn K mainGlobals "enumerate" = some none)
    (n_int : PySem.W.nsIn K mainGlobals "int" = some none)
    (n_isinstance : PySem.W.nsIn K mainGlobals "isinstance" = some none)
    (n_len : PySem.W.nsIn K mainGlobals "len" = some none)
    (n_list : PySem.W.nsIn K mainGlobals "list" = some none)
    (n_max : PySem.W.nsIn K mainGlobals "max" = some none)
    (n_min : PySem.W.nsIn K mainGlobals "min" = some none)
    (n_range : PySem.W.nsIn K mainGlobals "range" = some none)
    (n_set : PySem.W.nsIn K mainGlobals "set" = some none)
    (n_sorted : PySem.W.nsIn K mainGlobals "sorted" = some none)
    (n_str : PySem.W.nsIn K mainGlobals "str" = some none)
    (n_sum : PySem.W.nsIn K mainGlobals "sum" = some none)
    (n_tuple : PySem.W.nsIn K mainGlobals "tuple" = some none)
    (n_zip : PySem.W.nsIn K mainGlobals "zip" = some none)
    (g_MOST_SPAN : PySem.W.nsIn K mainGlobals "MOST_SPAN" = some (some (.int 8 ct0)))
    (g_MOST_MASKS : PySem.W.nsIn K mainGlobals "MOST_MASKS" = some (some (.int 130 ct1)))
    (g_MOST_PLACES : PySem.W.nsIn K mainGlobals "MOST_PLACES" = some (some (.int 24 ct2)))
    (g_DOT : PySem.W.nsIn K mainGlobals "DOT" = some (some (.str "#" ct3)))
    (g_BLANK : PySem.W.nsIn K mainGlobals "BLANK" = some (some (.str "." ct4)))
    (g_BITS : PySem.W.nsIn K mainGlobals "BITS" = some (some (.ref cA5)))
    (cl5 : K.lookup cA5 = some ⟨.type "tuple", cO5, .seq #[(.int 1 ct6), (.int 2 ct7), (.int 4 ct8), (.int 8 ct9), (.int 16 ct10), (.int 32 ct11), (.int 64 ct12), (.int 128 ct13), (.int 256 ct14), (.int 512 ct15)] cN5, cS5⟩)
    (a_InvalidFilter : PySem.W.nsIn K mainGlobals "InvalidFilter" = some (some (.ref C_InvalidFilter)))
    (xe_InvalidFilter : PySem.W.excIn K C_InvalidFilter [.type "ValueError", .type "Exception", .type "BaseException", .type "object"] "ValueError.__new__" = true)
    (ke_InvalidFilter : PySem.W.keepIn K (.ref C_InvalidFilter) = true)
    (be_InvalidFilter : PySem.W.subIn K (.ref C_InvalidFilter) (.type "BaseException") = some true)
    (te_InvalidFilter : PySem.W.typeIn K (.ref C_InvalidFilter) = some (.type "type"))
    (a_InvalidLevels : PySem.W.nsIn K mainGlobals "InvalidLevels" = some (some (.ref C_InvalidLevels)))
    (xe_InvalidLevels : PySem.W.excIn K C_InvalidLevels [.type "ValueError", .type "Exception", .type "BaseException", .type "object"] "ValueError.__new__" = true)
    (ke_InvalidLevels : PySem.W.keepIn K (.ref C_InvalidLevels) = true)
    (be_InvalidLevels : PySem.W.subIn K (.ref C_InvalidLevels) (.type "BaseException") = some true)
    (te_InvalidLevels : PySem.W.typeIn K (.ref C_InvalidLevels) = some (.type "type"))
    (a_InvalidMask : PySem.W.nsIn K mainGlobals "InvalidMask" = some (some (.ref C_InvalidMask)))
    (xe_InvalidMask : PySem.W.excIn K C_InvalidMask [.type "ValueError", .type "Exception", .type "BaseException", .type "object"] "ValueError.__new__" = true)
    (ke_InvalidMask : PySem.W.keepIn K (.ref C_InvalidMask) = true)
    (be_InvalidMask : PySem.W.subIn K (.ref C_InvalidMask) (.type "BaseException") = some true)
    (te_InvalidMask : PySem.W.typeIn K (.ref C_InvalidMask) = some (.type "type"))
    (a_InvalidRing : PySem.W.nsIn K mainGlobals "InvalidRing" = some (some (.ref C_InvalidRing)))
    (xe_InvalidRing : PySem.W.excIn K C_InvalidRing [.type "ValueError", .type "Exception", .type "BaseException", .type "object"] "ValueError.__new__" = true)
    (ke_InvalidRing : PySem.W.keepIn K (.ref C_InvalidRing) = true)
    (be_InvalidRing : PySem.W.subIn K (.ref C_InvalidRing) (.type "BaseException") = some true)
    (te_InvalidRing : PySem.W.typeIn K (.ref C_InvalidRing) = some (.type "type"))
    (a0 : PySem.W.nsIn K mainGlobals "is_integer" = some (some (.ref f0)))
    (l0 : K.lookup f0 = some ⟨oc0, od0, .func (PySem.W.fnOf "is_integer" "is_integer" (defArgs s_is_integer) (defBody s_is_integer) (defScope s_is_integer) .none kV0 dc0 pm0 an0 cd0 ct_0), sl0⟩)
    (c0 : PySem.W.codeIn K cd0 "is_integer" = true)
    (k0 : PySem.W.keepIn K (.ref f0) = true)
    (a1 : PySem.W.nsIn K mainGlobals "is_offsets" = some (some (.ref f1)))
    (l1 : K.lookup f1 = some ⟨oc1, od1, .func (PySem.W.fnOf "is_offsets" "is_offsets" (defArgs s_is_offsets) (defBody s_is_offsets) (defScope s_is_offsets) .none kV1 dc1 pm1 an1 cd1 ct_1), sl1⟩)
    (c1 : PySem.W.codeIn K cd1 "is_offsets" = true)
    (k1 : PySem.W.keepIn K (.ref f1) = true)
    (a2 : PySem.W.nsIn K mainGlobals "spread" = some (some (.ref f2)))
    (l2 : K.lookup f2 = some ⟨oc2, od2, .func (PySem.W.fnOf "spread" "spread" (defArgs s_spread) (defBody s_spread) (defScope s_spread) .none kV2 dc2 pm2 an2 cd2 ct_2), sl2⟩)
    (c2 : PySem.W.codeIn K cd2 "spread" = true)
    (k2 : PySem.W.keepIn K (.ref f2) = true)
    (a3 : PySem.W.nsIn K mainGlobals "is_masks" = some (some (.ref f3)))
    (l3 : K.lookup f3 = some ⟨oc3, od3, .func (PySem.W.fnOf "is_masks" "is_masks" (defArgs s_is_masks) (defBody s_is_masks) (defScope s_is_masks) .none kV3 dc3 pm3 an3 cd3 ct_3), sl3⟩)
    (c3 : PySem.W.codeIn K cd3 "is_masks" = true)
    (k3 : PySem.W.keepIn K (.ref f3) = true)
    (a4 : PySem.W.nsIn K mainGlobals "number_of" = some (some (.ref f4)))
    (l4 : K.lookup f4 = some ⟨oc4, od4, .func (PySem.W.fnOf "number_of" "number_of" (defArgs s_number_of) (defBody s_number_of) (defScope s_number_of) .none kV4 dc4 pm4 an4 cd4 ct_4), sl4⟩)
    (c4 : PySem.W.codeIn K cd4 "number_of" = true)
    (k4 : PySem.W.keepIn K (.ref f4) = true)
    (a5 : PySem.W.nsIn K mainGlobals "numbers_of" = some (some (.ref f5)))
    (l5 : K.lookup f5 = some ⟨oc5, od5, .func (PySem.W.fnOf "numbers_of" "numbers_of" (defArgs s_numbers_of) (defBody s_numbers_of) (defScope s_numbers_of) .none kV5 dc5 pm5 an5 cd5 ct_5), sl5⟩)
    (c5 : PySem.W.codeIn K cd5 "numbers_of" = true)
    (k5 : PySem.W.keepIn K (.ref f5) = true)
    (a6 : PySem.W.nsIn K mainGlobals "mask_of" = some (some (.ref f6)))
    (l6 : K.lookup f6 = some ⟨oc6, od6, .func (PySem.W.fnOf "mask_of" "mask_of" (defArgs s_mask_of) (defBody s_mask_of) (defScope s_mask_of) .none kV6 dc6 pm6 an6 cd6 ct_6), sl6⟩)
    (c6 : PySem.W.codeIn K cd6 "mask_of" = true)
    (k6 : PySem.W.keepIn K (.ref f6) = true)
    (a7 : PySem.W.nsIn K mainGlobals "count_bits" = some (some (.ref f7)))
    (l7 : K.lookup f7 = some ⟨oc7, od7, .func (PySem.W.fnOf "count_bits" "count_bits" (defArgs s_count_bits) (defBody s_count_bits) (defScope s_count_bits) .none kV7 dc7 pm7 an7 cd7 ct_7), sl7⟩)
    (c7 : PySem.W.codeIn K cd7 "count_bits" = true)
    (k7 : PySem.W.keepIn K (.ref f7) = true)
    (a8 : PySem.W.nsIn K mainGlobals "least" = some (some (.ref f8)))
    (l8 : K.lookup f8 = some ⟨oc8, od8, .func (PySem.W.fnOf "least" "least" (defArgs s_least) (defBody s_least) (defScope s_least) .none kV8 dc8 pm8 an8 cd8 ct_8), sl8⟩)
    (c8 : PySem.W.codeIn K cd8 "least" = true)
    (k8 : PySem.W.keepIn K (.ref f8) = true)
    (a9 : PySem.W.nsIn K mainGlobals "form_by" = some (some (.ref f9)))
    (l9 : K.lookup f9 = some ⟨oc9, od9, .func (PySem.W.fnOf "form_by" "form_by" (defArgs s_form_by) (defBody s_form_by) (defScope s_form_by) .none kV9 dc9 pm9 an9 cd9 ct_9), sl9⟩)
    (c9 : PySem.W.codeIn K cd9 "form_by" = true)
    (k9 : PySem.W.keepIn K (.ref f9) = true)
    (a10 : PySem.W.nsIn K mainGlobals "low_of" = some (some (.ref f10)))
    (l10 : K.lookup f10 = some ⟨oc10, od10, .func (PySem.W.fnOf "low_of" "low_of" (defArgs s_low_of) (defBody s_low_of) (defScope s_low_of) .none kV10 dc10 pm10 an10 cd10 ct_10), sl10⟩)
    (c10 : PySem.W.codeIn K cd10 "low_of" = true)
    (k10 : PySem.W.keepIn K (.ref f10) = true)
    (a11 : PySem.W.nsIn K mainGlobals "form_for" = some (some (.ref f11)))
    (l11 : K.lookup f11 = some ⟨oc11, od11, .func (PySem.W.fnOf "form_for" "form_for" (defArgs s_form_for) (defBody s_form_for) (defScope s_form_for) .none kV11 dc11 pm11 an11 cd11 ct_11), sl11⟩)
    (c11 : PySem.W.codeIn K cd11 "form_for" = true)
    (k11 : PySem.W.keepIn K (.ref f11) = true)
    (a12 : PySem.W.nsIn K mainGlobals "is_filter" = some (some (.ref f12)))
    (l12 : K.lookup f12 = some ⟨oc12, od12, .func (PySem.W.fnOf "is_filter" "is_filter" (defArgs s_is_filter) (defBody s_is_filter) (defScope s_is_filter) .none kV12 dc12 pm12 an12 cd12 ct_12), sl12⟩)
    (c12 : PySem.W.codeIn K cd12 "is_filter" = true)
    (k12 : PySem.W.keepIn K (.ref f12) = true)
    (a13 : PySem.W.nsIn K mainGlobals "need_filter" = some (some (.ref f13)))
    (l13 : K.lookup f13 = some ⟨oc13, od13, .func (PySem.W.fnOf "need_filter" "need_filter" (defArgs s_need_filter) (defBody s_need_filter) (defScope s_need_filter) .none kV13 dc13 pm13 an13 cd13 ct_13), sl13⟩)
    (c13 : PySem.W.codeIn K cd13 "need_filter" = true)
    (k13 : PySem.W.keepIn K (.ref f13) = true)
    (a14 : PySem.W.nsIn K mainGlobals "need_mask" = some (some (.ref f14)))
    (l14 : K.lookup f14 = some ⟨oc14, od14, .func (PySem.W.fnOf "need_mask" "need_mask" (defArgs s_need_mask) (defBody s_need_mask) (defScope s_need_mask) .none kV14 dc14 pm14 an14 cd14 ct_14), sl14⟩)
    (c14 : PySem.W.codeIn K cd14 "need_mask" = true)
    (k14 : PySem.W.keepIn K (.ref f14) = true)
    (a15 : PySem.W.nsIn K mainGlobals "is_ring" = some (some (.ref f15)))
    (l15 : K.lookup f15 = some ⟨oc15, od15, .func (PySem.W.fnOf "is_ring" "is_ring" (defArgs s_is_ring) (defBody s_is_ring) (defScope s_is_ring) .none kV15 dc15 pm15 an15 cd15 ct_15), sl15⟩)
    (c15 : PySem.W.codeIn K cd15 "is_ring" = true)
    (k15 : PySem.W.keepIn K (.ref f15) = true)
    (a16 : PySem.W.nsIn K mainGlobals "need_ring" = some (some (.ref f16)))
    (l16 : K.lookup f16 = some ⟨oc16, od16, .func (PySem.W.fnOf "need_ring" "need_ring" (defArgs s_need_ring) (defBody s_need_ring) (defScope s_need_ring) .none kV16 dc16 pm16 an16 cd16 ct_16), sl16⟩)
    (c16 : PySem.W.codeIn K cd16 "need_ring" = true)
    (k16 : PySem.W.keepIn K (.ref f16) = true)
    (a17 : PySem.W.nsIn K mainGlobals "has_dot" = some (some (.ref f17)))
    (l17 : K.lookup f17 = some ⟨oc17, od17, .func (PySem.W.fnOf "has_dot" "has_dot" (defArgs s_has_dot) (defBody s_has_dot) (defScope s_has_dot) .none kV17 dc17 pm17 an17 cd17 ct_17), sl17⟩)
    (c17 : PySem.W.codeIn K cd17 "has_dot" = true)
    (k17 : PySem.W.keepIn K (.ref f17) = true)
    (a18 : PySem.W.nsIn K mainGlobals "apply" = some (some (.ref f18)))
    (l18 : K.lookup f18 = some ⟨oc18, od18, .func (PySem.W.fnOf "apply" "apply" (defArgs s_apply) (defBody s_apply) (defScope s_apply) .none kV18 dc18 pm18 an18 cd18 ct_18), sl18⟩)
    (c18 : PySem.W.codeIn K cd18 "apply" = true)
    (k18 : PySem.W.keepIn K (.ref f18) = true)
    (a19 : PySem.W.nsIn K mainGlobals "filtered" = some (some (.ref f19)))
    (l19 : K.lookup f19 = some ⟨oc19, od19, .func (PySem.W.fnOf "filtered" "filtered" (defArgs s_filtered) (defBody s_filtered) (defScope s_filtered) .none kV19 dc19 pm19 an19 cd19 ct_19), sl19⟩)
    (c19 : PySem.W.codeIn K cd19 "filtered" = true)
    (k19 : PySem.W.keepIn K (.ref f19) = true)
    (a20 : PySem.W.nsIn K mainGlobals "levelled" = some (some (.ref f20)))
    (l20 : K.lookup f20 = some ⟨oc20, od20, .func (PySem.W.fnOf "levelled" "levelled" (defArgs s_levelled) (defBody s_levelled) (defScope s_levelled) .none kV20 dc20 pm20 an20 cd20 ct_20), sl20⟩)
    (c20 : PySem.W.codeIn K cd20 "levelled" = true)
    (k20 : PySem.W.keepIn K (.ref f20) = true)
    (a21 : PySem.W.nsIn K mainGlobals "thin_by" = some (some (.ref f21)))
    (l21 : K.lookup f21 = some ⟨oc21, od21, .func (PySem.W.fnOf "thin_by" "thin_by" (defArgs s_thin_by) (defBody s_thin_by) (defScope s_thin_by) .none kV21 dc21 pm21 an21 cd21 ct_21), sl21⟩)
    (c21 : PySem.W.codeIn K cd21 "thin_by" = true)
    (k21 : PySem.W.keepIn K (.ref f21) = true)
    (a22 : PySem.W.nsIn K mainGlobals "thicken_by" = some (some (.ref f22)))
    (l22 : K.lookup f22 = some ⟨oc22, od22, .func (PySem.W.fnOf "thicken_by" "thicken_by" (defArgs s_thicken_by) (defBody s_thicken_by) (defScope s_thicken_by) .none kV22 dc22 pm22 an22 cd22 ct_22), sl22⟩)
    (c22 : PySem.W.codeIn K cd22 "thicken_by" = true)
    (k22 : PySem.W.keepIn K (.ref f22) = true)
    (a23 : PySem.W.nsIn K mainGlobals "thinning" = some (some (.ref f23)))
    (l23 : K.lookup f23 = some ⟨oc23, od23, .func (PySem.W.fnOf "thinning" "thinning" (defArgs s_thinning) (defBody s_thinning) (defScope s_thinning) .none kV23 dc23 pm23 an23 cd23 ct_23), sl23⟩)
    (c23 : PySem.W.codeIn K cd23 "thinning" = true)
    (k23 : PySem.W.keepIn K (.ref f23) = true)
    (a24 : PySem.W.nsIn K mainGlobals "thickening" = some (some (.ref f24)))
    (l24 : K.lookup f24 = some ⟨oc24, od24, .func (PySem.W.fnOf "thickening" "thickening" (defArgs s_thickening) (defBody s_thickening) (defScope s_thickening) .none kV24 dc24 pm24 an24 cd24 ct_24), sl24⟩)
    (c24 : PySem.W.codeIn K cd24 "thickening" = true)
    (k24 : PySem.W.keepIn K (.ref f24) = true)
    (a25 : PySem.W.nsIn K mainGlobals "_law_source" = some (some (.ref f25)))
    (l25 : K.lookup f25 = some ⟨oc25, od25, .func (PySem.W.fnOf "_law_source" "_law_source" (defArgs s__law_source) (defBody s__law_source) (defScope s__law_source) .none kV25 dc25 pm25 an25 cd25 ct_25), sl25⟩)
    (c25 : PySem.W.codeIn K cd25 "_law_source" = true)
    (k25 : PySem.W.keepIn K (.ref f25) = true)
    (a26 : PySem.W.nsIn K mainGlobals "_law_draw" = some (some (.ref f26)))
    (l26 : K.lookup f26 = some ⟨oc26, od26, .func (PySem.W.fnOf "_law_draw" "_law_draw" (defArgs s__law_draw) (defBody s__law_draw) (defScope s__law_draw) .none kV26 dc26 pm26 an26 cd26 ct_26), sl26⟩)
    (c26 : PySem.W.codeIn K cd26 "_law_draw" = true)
    (k26 : PySem.W.keepIn K (.ref f26) = true)
    (a27 : PySem.W.nsIn K mainGlobals "_law_choice" = some (some (.ref f27)))
    (l27 : K.lookup f27 = some ⟨oc27, od27, .func (PySem.W.fnOf "_law_choice" "_law_choice" (defArgs s__law_choice) (defBody s__law_choice) (defScope s__law_choice) .none kV27 dc27 pm27 an27 cd27 ct_27), sl27⟩)
    (c27 : PySem.W.codeIn K cd27 "_law_choice" = true)
    (k27 : PySem.W.keepIn K (.ref f27) = true)
    (a28 : PySem.W.nsIn K mainGlobals "_law_mask" = some (some (.ref f28)))
    (l28 : K.lookup f28 = some ⟨oc28, od28, .func (PySem.W.fnOf "_law_mask" "_law_mask" (defArgs s__law_mask) (defBody s__law_mask) (defScope s__law_mask) .none kV28 dc28 pm28 an28 cd28 ct_28), sl28⟩)
    (c28 : PySem.W.codeIn K cd28 "_law_mask" = true)
    (k28 : PySem.W.keepIn K (.ref f28) = true)
    (a29 : PySem.W.nsIn K mainGlobals "_law_within" = some (some (.ref f29)))
    (l29 : K.lookup f29 = some ⟨oc29, od29, .func (PySem.W.fnOf "_law_within" "_law_within" (defArgs s__law_within) (defBody s__law_within) (defScope s__law_within) .none kV29 dc29 pm29 an29 cd29 ct_29), sl29⟩)
    (c29 : PySem.W.codeIn K cd29 "_law_within" = true)
    (k29 : PySem.W.keepIn K (.ref f29) = true)
    (a30 : PySem.W.nsIn K mainGlobals "_law_least" = some (some (.ref f30)))
    (l30 : K.lookup f30 = some ⟨oc30, od30, .func (PySem.W.fnOf "_law_least" "_law_least" (defArgs s__law_least) (defBody s__law_least) (defScope s__law_least) .none kV30 dc30 pm30 an30 cd30 ct_30), sl30⟩)
    (c30 : PySem.W.codeIn K cd30 "_law_least" = true)
    (k30 : PySem.W.keepIn K (.ref f30) = true)
    (a31 : PySem.W.nsIn K mainGlobals "_law_filter" = some (some (.ref f31)))
    (l31 : K.lookup f31 = some ⟨oc31, od31, .func (PySem.W.fnOf "_law_filter" "_law_filter" (defArgs s__law_filter) (defBody s__law_filter) (defScope s__law_filter) .none kV31 dc31 pm31 an31 cd31 ct_31), sl31⟩)
    (c31 : PySem.W.codeIn K cd31 "_law_filter" = true)
    (k31 : PySem.W.keepIn K (.ref f31) = true)
    (a32 : PySem.W.nsIn K mainGlobals "_law_ring" = some (some (.ref f32)))
    (l32 : K.lookup f32 = some ⟨oc32, od32, .func (PySem.W.fnOf "_law_ring" "_law_ring" (defArgs s__law_ring) (defBody s__law_ring) (defScope s__law_ring) .none kV32 dc32 pm32 an32 cd32 ct_32), sl32⟩)
    (c32 : PySem.W.codeIn K cd32 "_law_ring" = true)
    (k32 : PySem.W.keepIn K (.ref f32) = true)
    (a33 : PySem.W.nsIn K mainGlobals "_law_lies" = some (some (.ref f33)))
    (l33 : K.lookup f33 = some ⟨oc33, od33, .func (PySem.W.fnOf "_law_lies" "_law_lies" (defArgs s__law_lies) (defBody s__law_lies) (defScope s__law_lies) .none kV33 dc33 pm33 an33 cd33 ct_33), sl33⟩)
    (c33 : PySem.W.codeIn K cd33 "_law_lies" = true)
    (k33 : PySem.W.keepIn K (.ref f33) = true)
    (a34 : PySem.W.nsIn K mainGlobals "_law_joined" = some (some (.ref f34)))
    (l34 : K.lookup f34 = some ⟨oc34, od34, .func (PySem.W.fnOf "_law_joined" "_law_joined" (defArgs s__law_joined) (defBody s__law_joined) (defScope s__law_joined) .none kV34 dc34 pm34 an34 cd34 ct_34), sl34⟩)
    (c34 : PySem.W.codeIn K cd34 "_law_joined" = true)
    (k34 : PySem.W.keepIn K (.ref f34) = true)
    (a35 : PySem.W.nsIn K mainGlobals "_law_shared" = some (some (.ref f35)))
    (l35 : K.lookup f35 = some ⟨oc35, od35, .func (PySem.W.fnOf "_law_shared" "_law_shared" (defArgs s__law_shared) (defBody s__law_shared) (defScope s__law_shared) .none kV35 dc35 pm35 an35 cd35 ct_35), sl35⟩)
    (c35 : PySem.W.codeIn K cd35 "_law_shared" = true)
    (k35 : PySem.W.keepIn K (.ref f35) = true)
    (a36 : PySem.W.nsIn K mainGlobals "law" = some (some (.ref f36)))
    (l36 : K.lookup f36 = some ⟨oc36, od36, .func (PySem.W.fnOf "law" "law" (defArgs s_law) (defBody s_law) (defScope s_law) .none kV36 dc36 pm36 an36 cd36 ct_36), sl36⟩)
    (c36 : PySem.W.codeIn K cd36 "law" = true)
    (k36 : PySem.W.keepIn K (.ref f36) = true)
    : ∃ fd : FuncData, (∀ (s : Shared) (u : Value), BindsTo s fd ⟨[u], []⟩ [("script", u)]) ∧ ∀ base : Heap, K.In base → base.Ns mainGlobals mg → FnOk P w K mg base (L2.CX P w) lvl fa fd ["script"] (spLaw K 63) := by
  have e := hfa.symm.trans (PySem.W.mg_of X G a36)
  cases e
  have T : Txt K mg := ⟨PySem.W.mg_none_of X G n_abs, PySem.W.mg_none_of X G n_all, PySem.W.mg_none_of X G n_any, PySem.W.mg_none_of X G n_bool, PySem.W.mg_none_of X G n_enumerate, PySem.W.mg_none_of X G n_int, PySem.W.mg_none_of X G n_isinstance, PySem.W.mg_none_of X G n_len, PySem.W.mg_none_of X G n_list, PySem.W.mg_none_of X G n_max, PySem.W.mg_none_of X G n_min, PySem.W.mg_none_of X G n_range, PySem.W.mg_none_of X G n_set, PySem.W.mg_none_of X G n_sorted, PySem.W.mg_none_of X G n_str, PySem.W.mg_none_of X G n_sum, PySem.W.mg_none_of X G n_tuple, PySem.W.mg_none_of X G n_zip, glk (PySem.W.mg_of X G g_MOST_SPAN) kv_int, glk (PySem.W.mg_of X G g_MOST_MASKS) kv_int, glk (PySem.W.mg_of X G g_MOST_PLACES) kv_int, glk (PySem.W.mg_of X G g_DOT) kv_str, glk (PySem.W.mg_of X G g_BLANK) kv_str, glk (PySem.W.mg_of X G g_BITS) (kv_tup (us := [(.int 1 ct6), (.int 2 ct7), (.int 4 ct8), (.int 8 ct9), (.int 16 ct10), (.int 32 ct11), (.int 64 ct12), (.int 128 ct13), (.int 256 ct14), (.int 512 ct15)]) cl5 (.cons kv_int (.cons kv_int (.cons kv_int (.cons kv_int (.cons kv_int (.cons kv_int (.cons kv_int (.cons kv_int (.cons kv_int (.cons kv_int KVs.nil)))))))))) rfl), ⟨C_InvalidFilter, PySem.W.mg_of X G a_InvalidFilter, xe_InvalidFilter, ke_InvalidFilter, be_InvalidFilter, te_InvalidFilter⟩, ⟨C_InvalidLevels, PySem.W.mg_of X G a_InvalidLevels, xe_InvalidLevels, ke_InvalidLevels, be_InvalidLevels, te_InvalidLevels⟩, ⟨C_InvalidMask, PySem.W.mg_of X G a_InvalidMask, xe_InvalidMask, ke_InvalidMask, be_InvalidMask, te_InvalidMask⟩, ⟨C_InvalidRing, PySem.W.mg_of X G a_InvalidRing, xe_InvalidRing, ke_InvalidRing, be_InvalidRing, te_InvalidRing⟩⟩
  have F0 := fun_mk (st := s_is_integer) l0 c0 k0
  have b0 := F0.binds (ps := ["value"]) fun _ _ _ _ _ _ us hl => match us, hl with | [_], _ => rfl
  have o_is_integer : ∀ base : Heap, Cal P w K mg base "is_integer" 1 1 F_is_integer := fun base => ok_is_integer T F0 (PySem.W.mg_of X G a0) b0 
  have F1 := fun_mk (st := s_is_offsets) l1 c1 k1
  have b1 := F1.binds (ps := ["value"]) fun _ _ _ _ _ _ us hl => match us, hl with | [_], _ => rfl
  have o_is_offsets : ∀ base : Heap, Cal P w K mg base "is_offsets" 1 2 F_is_offsets := fun base => ok_is_offsets T F1 (PySem.W.mg_of X G a1) b1 (o_is_integer base)
  have F2 := fun_mk (st := s_spread) l2 c2 k2
  have b2 := F2.binds (ps := ["masks"]) fun _ _ _ _ _ _ us hl => match us, hl with | [_], _ => rfl
  have o_spread : ∀ base : Heap, Cal P w K mg base "spread" 1 1 F_spread := fun base => ok_spread T F2 (PySem.W.mg_of X G a2) b2 
  have F3 := fun_mk (st := s_is_masks) l3 c3 k3
  have b3 := F3.binds (ps := ["value"]) fun _ _ _ _ _ _ us hl => match us, hl with | [_], _ => rfl
  have o_is_masks : ∀ base : Heap, Cal P w K mg base "is_masks" 1 3 F_is_masks := fun base => ok_is_masks T F3 (PySem.W.mg_of X G a3) b3 (o_spread base) (o_is_offsets base)
  have F4 := fun_mk (st := s_number_of) l4 c4 k4
  have b4 := F4.binds (ps := ["mask", "low"]) fun _ _ _ _ _ _ us hl => match us, hl with | [_, _], _ => rfl
  have o_number_of : ∀ base : Heap, Cal P w K mg base "number_of" 2 1 F_number_of := fun base => ok_number_of T F4 (PySem.W.mg_of X G a4) b4 
  have F5 := fun_mk (st := s_numbers_of) l5 c5 k5
  have b5 := F5.binds (ps := ["masks", "low"]) fun _ _ _ _ _ _ us hl => match us, hl with | [_, _], _ => rfl
  have o_numbers_of : ∀ base : Heap, Cal P w K mg base "numbers_of" 2 2 F_numbers_of := fun base => ok_numbers_of T F5 (PySem.W.mg_of X G a5) b5 (o_number_of base)
  have F6 := fun_mk (st := s_mask_of) l6 c6 k6
  have b6 := F6.binds (ps := ["number", "low"]) fun _ _ _ _ _ _ us hl => match us, hl with | [_, _], _ => rfl
  have o_mask_of : ∀ base : Heap, Cal P w K mg base "mask_of" 2 1 F_mask_of := fun base => ok_mask_of T F6 (PySem.W.mg_of X G a6) b6 
  have F7 := fun_mk (st := s_count_bits) l7 c7 k7
  have b7 := F7.binds (ps := ["number"]) fun _ _ _ _ _ _ us hl => match us, hl with | [_], _ => rfl
  have o_count_bits : ∀ base : Heap, Cal P w K mg base "count_bits" 1 1 F_count_bits := fun base => ok_count_bits T F7 (PySem.W.mg_of X G a7) b7 
  have F8 := fun_mk (st := s_least) l8 c8 k8
  have b8 := F8.binds (ps := ["numbers"]) fun _ _ _ _ _ _ us hl => match us, hl with | [_], _ => rfl
  have o_least : ∀ base : Heap, Cal P w K mg base "least" 1 2 F_least := fun base => ok_least T F8 (PySem.W.mg_of X G a8) b8 (o_count_bits base)
  have F9 := fun_mk (st := s_form_by) l9 c9 k9
  have b9 := F9.binds (ps := ["numbers", "low"]) fun _ _ _ _ _ _ us hl => match us, hl with | [_, _], _ => rfl
  have o_form_by : ∀ base : Heap, Cal P w K mg base "form_by" 2 3 F_form_by := fun base => ok_form_by T F9 (PySem.W.mg_of X G a9) b9 (o_least base) (o_mask_of base)
  have F10 := fun_mk (st := s_low_of) l10 c10 k10
  have b10 := F10.binds (ps := ["masks"]) fun _ _ _ _ _ _ us hl => match us, hl with | [_], _ => rfl
  have o_low_of : ∀ base : Heap, Cal P w K mg base "low_of" 1 1 F_low_of := fun base => ok_low_of T F10 (PySem.W.mg_of X G a10) b10 
  have F11 := fun_mk (st := s_form_for) l11 c11 k11
  have b11 := F11.binds (ps := ["masks"]) fun _ _ _ _ _ _ us hl => match us, hl with | [_], _ => rfl
  have o_form_for : ∀ base : Heap, Cal P w K mg base "form_for" 1 4 F_form_for := fun base => ok_form_for T F11 (PySem.W.mg_of X G a11) b11 (o_numbers_of base) (o_form_by base) (o_low_of base)
  have F12 := fun_mk (st := s_is_filter) l12 c12 k12
  have b12 := F12.binds (ps := ["value"]) fun _ _ _ _ _ _ us hl => match us, hl with | [_], _ => rfl
  have o_is_filter : ∀ base : Heap, Cal P w K mg base "is_filter" 1 5 F_is_filter := fun base => ok_is_filter T F12 (PySem.W.mg_of X G a12) b12 (o_is_masks base) (o_form_for base)
  have F13 := fun_mk (st := s_need_filter) l13 c13 k13
  have b13 := F13.binds (ps := ["one"]) fun _ _ _ _ _ _ us hl => match us, hl with | [_], _ => rfl
  have o_need_filter : ∀ base : Heap, Cal P w K mg base "need_filter" 1 6 F_need_filter := fun base => ok_need_filter T F13 (PySem.W.mg_of X G a13) b13 (o_is_filter base)
  have F14 := fun_mk (st := s_need_mask) l14 c14 k14
  have b14 := F14.binds (ps := ["mask"]) fun _ _ _ _ _ _ us hl => match us, hl with | [_], _ => rfl
  have o_need_mask : ∀ base : Heap, Cal P w K mg base "need_mask" 1 3 F_need_mask := fun base => ok_need_mask T F14 (PySem.W.mg_of X G a14) b14 (o_is_offsets base)
  have F15 := fun_mk (st := s_is_ring) l15 c15 k15
  have b15 := F15.binds (ps := ["value"]) fun _ _ _ _ _ _ us hl => match us, hl with | [_], _ => rfl
  have o_is_ring : ∀ base : Heap, Cal P w K mg base "is_ring" 1 1 F_is_ring := fun base => ok_is_ring T F15 (PySem.W.mg_of X G a15) b15 
  have F16 := fun_mk (st := s_need_ring) l16 c16 k16
  have b16 := F16.binds (ps := ["ring"]) fun _ _ _ _ _ _ us hl => match us, hl with | [_], _ => rfl
  have o_need_ring : ∀ base : Heap, Cal P w K mg base "need_ring" 1 2 F_need_ring := fun base => ok_need_ring T F16 (PySem.W.mg_of X G a16) b16 (o_is_ring base)
  have F17 := fun_mk (st := s_has_dot) l17 c17 k17
  have b17 := F17.binds (ps := ["one", "ring", "place"]) fun _ _ _ _ _ _ us hl => match us, hl with | [_, _, _], _ => rfl
  have o_has_dot : ∀ base : Heap, Cal P w K mg base "has_dot" 3 1 F_has_dot := fun base => ok_has_dot T F17 (PySem.W.mg_of X G a17) b17 
  have F18 := fun_mk (st := s_apply) l18 c18 k18
  have b18 := F18.binds (ps := ["one", "ring"]) fun _ _ _ _ _ _ us hl => match us, hl with | [_, _], _ => rfl
  have o_apply : ∀ base : Heap, Cal P w K mg base "apply" 2 2 F_apply := fun base => ok_apply T F18 (PySem.W.mg_of X G a18) b18 (o_has_dot base)
  have F19 := fun_mk (st := s_filtered) l19 c19 k19
  have b19 := F19.binds (ps := ["one", "ring"]) fun _ _ _ _ _ _ us hl => match us, hl with | [_, _], _ => rfl
  have o_filtered : ∀ base : Heap, Cal P w K mg base "filtered" 2 7 F_filtered := fun base => ok_filtered T F19 (PySem.W.mg_of X G a19) b19 (o_apply base) (o_need_ring base) (o_need_filter base)
  have F20 := fun_mk (st := s_levelled) l20 c20 k20
  have b20 := F20.binds (ps := ["one", "levels"]) fun _ _ _ _ _ _ us hl => match us, hl with | [_, _], _ => rfl
  have o_levelled : ∀ base : Heap, Cal P w K mg base "levelled" 2 7 F_levelled := fun base => ok_levelled T F20 (PySem.W.mg_of X G a20) b20 (o_is_integer base) (o_need_filter base)
  have F21 := fun_mk (st := s_thin_by) l21 c21 k21
  have b21 := F21.binds (ps := ["mask"]) fun _ _ _ _ _ _ us hl => match us, hl with | [_], _ => rfl
  have o_thin_by : ∀ base : Heap, Cal P w K mg base "thin_by" 1 1 F_thin_by := fun base => ok_thin_by T F21 (PySem.W.mg_of X G a21) b21 
  have F22 := fun_mk (st := s_thicken_by) l22 c22 k22
  have b22 := F22.binds (ps := ["mask"]) fun _ _ _ _ _ _ us hl => match us, hl with | [_], _ => rfl
  have o_thicken_by : ∀ base : Heap, Cal P w K mg base "thicken_by" 1 1 F_thicken_by := fun base => ok_thicken_by T F22 (PySem.W.mg_of X G a22) b22 
  have F23 := fun_mk (st := s_thinning) l23 c23 k23
  have b23 := F23.binds (ps := ["mask"]) fun _ _ _ _ _ _ us hl => match us, hl with | [_], _ => rfl
  have o_thinning : ∀ base : Heap, Cal P w K mg base "thinning" 1 4 F_thinning := fun base => ok_thinning T F23 (PySem.W.mg_of X G a23) b23 (o_thin_by base) (o_need_mask base)
  have F24 := fun_mk (st := s_thickening) l24 c24 k24
  have b24 := F24.binds (ps := ["mask"]) fun _ _ _ _ _ _ us hl => match us, hl with | [_], _ => rfl
  have o_thickening : ∀ base : Heap, Cal P w K mg base "thickening" 1 4 F_thickening := fun base => ok_thickening T F24 (PySem.W.mg_of X G a24) b24 (o_thicken_by base) (o_need_mask base)
  have F25 := fun_mk (st := s__law_source) l25 c25 k25
  have b25 := F25.binds (ps := ["script", "index"]) fun _ _ _ _ _ _ us hl => match us, hl with | [_, _], _ => rfl
  have o__law_source : ∀ base : Heap, Cal P w K mg base "_law_source" 2 1 F__law_source := fun base => ok__law_source T F25 (PySem.W.mg_of X G a25) b25 
  have F26 := fun_mk (st := s__law_draw) l26 c26 k26
  have b26 := F26.binds (ps := ["source", "size"]) fun _ _ _ _ _ _ us hl => match us, hl with | [_, _], _ => rfl
  have o__law_draw : ∀ base : Heap, Cal P w K mg base "_law_draw" 2 1 F__law_draw := fun base => ok__law_draw T F26 (PySem.W.mg_of X G a26) b26 
  have F27 := fun_mk (st := s__law_choice) l27 c27 k27
  have b27 := F27.binds (ps := ["source", "items"]) fun _ _ _ _ _ _ us hl => match us, hl with | [_, _], _ => rfl
  have o__law_choice : ∀ base : Heap, Cal P w K mg base "_law_choice" 2 2 F__law_choice := fun base => ok__law_choice T F27 (PySem.W.mg_of X G a27) b27 (o__law_draw base)
  have F28 := fun_mk (st := s__law_mask) l28 c28 k28
  have b28 := F28.binds (ps := ["source", "most"]) fun _ _ _ _ _ _ us hl => match us, hl with | [_, _], _ => rfl
  have o__law_mask : ∀ base : Heap, Cal P w K mg base "_law_mask" 2 2 F__law_mask := fun base => ok__law_mask T F28 (PySem.W.mg_of X G a28) b28 (o__law_draw base)
  have F29 := fun_mk (st := s__law_within) l29 c29 k29
  have b29 := F29.binds (ps := ["one", "other"]) fun _ _ _ _ _ _ us hl => match us, hl with | [_, _], _ => rfl
  have o__law_within : ∀ base : Heap, Cal P w K mg base "_law_within" 2 1 F__law_within := fun base => ok__law_within T F29 (PySem.W.mg_of X G a29) b29 
  have F30 := fun_mk (st := s__law_least) l30 c30 k30
  have b30 := F30.binds (ps := ["masks"]) fun _ _ _ _ _ _ us hl => match us, hl with | [_], _ => rfl
  have o__law_least : ∀ base : Heap, Cal P w K mg base "_law_least" 1 2 F__law_least := fun base => ok__law_least T F30 (PySem.W.mg_of X G a30) b30 (o__law_within base)
  have F31 := fun_mk (st := s__law_filter) l31 c31 k31
  have b31 := F31.binds (ps := ["source", "most"]) fun _ _ _ _ _ _ us hl => match us, hl with | [_, _], _ => rfl
  have o__law_filter : ∀ base : Heap, Cal P w K mg base "_law_filter" 2 3 F__law_filter := fun base => ok__law_filter T F31 (PySem.W.mg_of X G a31) b31 (o__law_draw base) (o__law_mask base) (o__law_least base)
  have F32 := fun_mk (st := s__law_ring) l32 c32 k32
  have b32 := F32.binds (ps := ["source", "most"]) fun _ _ _ _ _ _ us hl => match us, hl with | [_, _], _ => rfl
  have o__law_ring : ∀ base : Heap, Cal P w K mg base "_law_ring" 2 3 F__law_ring := fun base => ok__law_ring T F32 (PySem.W.mg_of X G a32) b32 (o__law_draw base) (o__law_choice base)
  have F33 := fun_mk (st := s__law_lies) l33 c33 k33
  have b33 := F33.binds (ps := ["one", "other"]) fun _ _ _ _ _ _ us hl => match us, hl with | [_, _], _ => rfl
  have o__law_lies : ∀ base : Heap, Cal P w K mg base "_law_lies" 2 1 F__law_lies := fun base => ok__law_lies T F33 (PySem.W.mg_of X G a33) b33 
  have F34 := fun_mk (st := s__law_joined) l34 c34 k34
  have b34 := F34.binds (ps := ["one", "other"]) fun _ _ _ _ _ _ us hl => match us, hl with | [_, _], _ => rfl
  have o__law_joined : ∀ base : Heap, Cal P w K mg base "_law_joined" 2 1 F__law_joined := fun base => ok__law_joined T F34 (PySem.W.mg_of X G a34) b34 
  have F35 := fun_mk (st := s__law_shared) l35 c35 k35
  have b35 := F35.binds (ps := ["one", "other"]) fun _ _ _ _ _ _ us hl => match us, hl with | [_, _], _ => rfl
  have o__law_shared : ∀ base : Heap, Cal P w K mg base "_law_shared" 2 1 F__law_shared := fun base => ok__law_shared T F35 (PySem.W.mg_of X G a35) b35 
  have F36 := fun_mk (st := s_law) l36 c36 k36
  exact ⟨PySem.W.fnOf "law" "law" (defArgs s_law) (defBody s_law) (defScope s_law) .none kV36 dc36 pm36 an36 cd36 ct_36, fun s u => .of_eq rfl, fun base _ _ => law_of (ok_law T F36 (o_thickening base) (o_filtered base) (o_thinning base) (o_levelled base) (o__law_draw base) (o__law_joined base) (o__law_shared base) (o__law_mask base) (o__law_lies base) (o__law_choice base) (o__law_ring base) (o__law_filter base) (o__law_source base)) law_true⟩
end Lw
end DL
end L2
open PySem PySem.W PyProof.Rows
set_option maxRecDepth 100000 in
set_option maxHeartbeats 0 in
theorem PySem.Challenge.cw_rowmasks_k39_whole_more_dots_make_more_holds : PySem.Challenge.rw_rowmasks_k39_whole_more_dots_make_more.Holds := by
  w_on; o_law; k_head; (case hw => w_witness2)
  k_fill
  refine L2.DL.law_walk (kk := L2.DL.Lw.lvl) (l := PySem.Challenge.rw_rowmasks_k39_whole_more_dots_make_more) rfl rfl (by exact ⟨by decide, by decide, by decide⟩) (fun w h Y => PySem.W.kIn_of Y) ?F
  case F =>
    intro w mg fa h KX G hmg
    refine' L2.DL.Lw.all_mk KX G hmg ?n_abs ?n_all ?n_any ?n_bool ?n_enumerate ?n_int ?n_isinstance ?n_len ?n_list ?n_max ?n_min ?n_range ?n_set ?n_sorted ?n_str ?n_sum ?n_tuple ?n_zip ?g_MOST_SPAN ?g_MOST_MASKS ?g_MOST_PLACES ?g_DOT ?g_BLANK ?g_BITS ?cl5 ?a_InvalidFilter ?xe_InvalidFilter ?ke_InvalidFilter ?be_InvalidFilter ?te_InvalidFilter ?a_InvalidLevels ?xe_InvalidLevels ?ke_InvalidLevels ?be_InvalidLevels ?te_InvalidLevels ?a_InvalidMask ?xe_InvalidMask ?ke_InvalidMask ?be_InvalidMask ?te_InvalidMask ?a_InvalidRing ?xe_InvalidRing ?ke_InvalidRing ?be_InvalidRing ?te_InvalidRing ?a0 ?l0 ?c0 ?k0 ?a1 ?l1 ?c1 ?k1 ?a2 ?l2 ?c2 ?k2 ?a3 ?l3 ?c3 ?k3 ?a4 ?l4 ?c4 ?k4 ?a5 ?l5 ?c5 ?k5 ?a6 ?l6 ?c6 ?k6 ?a7 ?l7 ?c7 ?k7 ?a8 ?l8 ?c8 ?k8 ?a9 ?l9 ?c9 ?k9 ?a10 ?l10 ?c10 ?k10 ?a11 ?l11 ?c11 ?k11 ?a12 ?l12 ?c12 ?k12 ?a13 ?l13 ?c13 ?k13 ?a14 ?l14 ?c14 ?k14 ?a15 ?l15 ?c15 ?k15 ?a16 ?l16 ?c16 ?k16 ?a17 ?l17 ?c17 ?k17 ?a18 ?l18 ?c18 ?k18 ?a19 ?l19 ?c19 ?k19 ?a20 ?l20 ?c20 ?k20 ?a21 ?l21 ?c21 ?k21 ?a22 ?l22 ?c22 ?k22 ?a23 ?l23 ?c23 ?k23 ?a24 ?l24 ?c24 ?k24 ?a25 ?l25 ?c25 ?k25 ?a26 ?l26 ?c26 ?k26 ?a27 ?l27 ?c27 ?k27 ?a28 ?l28 ?c28 ?k28 ?a29 ?l29 ?c29 ?k29 ?a30 ?l30 ?c30 ?k30 ?a31 ?l31 ?c31 ?k31 ?a32 ?l32 ?c32 ?k32 ?a33 ?l33 ?c33 ?k33 ?a34 ?l34 ?c34 ?k34 ?a35 ?l35 ?c35 ?k35 ?a36 ?l36 ?c36 ?k36
    (case n_abs => k_is)
    (case n_all => k_is)
    (case n_any => k_is)
    (case n_bool => k_is)
    (case n_enumerate => k_is)
    (case n_int => k_is)
    (case n_isinstance => k_is)
    (case n_len => k_is)
    (case n_list => k_is)
    (case n_max => k_is)
    (case n_min => k_is)
    (case n_range => k_is)
    (case n_set => k_is)
    (case n_sorted => k_is)
    (case n_str => k_is)
    (case n_sum => k_is)
    (case n_tuple => k_is)
    (case n_zip => k_is)
    (case g_MOST_SPAN => k_is)
    (case g_MOST_MASKS => k_is)
    (case g_MOST_PLACES => k_is)
    (case g_DOT => k_is)
    (case g_BLANK => k_is)
    (case g_BITS => k_is)
    (case cl5 => k_is)
    (case a_InvalidFilter => k_is)
    (case xe_InvalidFilter => k_exc)
    (case ke_InvalidFilter => k_is)
    (case be_InvalidFilter => k_is)
    (case te_InvalidFilter => k_is)
    (case a_InvalidLevels => k_is)
    (case xe_InvalidLevels => k_exc)
    (case ke_InvalidLevels => k_is)
    (case be_InvalidLevels => k_is)
    (case te_InvalidLevels => k_is)
    (case a_InvalidMask => k_is)
    (case xe_InvalidMask => k_exc)
    (case ke_InvalidMask => k_is)
    (case be_InvalidMask => k_is)
    (case te_InvalidMask => k_is)
    (case a_InvalidRing => k_is)
    (case xe_InvalidRing => k_exc)
    (case ke_InvalidRing => k_is)
    (case be_InvalidRing => k_is)
    (case te_InvalidRing => k_is)
    (case a0 => k_is)
    (case l0 => k_is)
    (case c0 => k_is)
    (case k0 => k_is)
    (case a1 => k_is)
    (case l1 => k_is)
    (case c1 => k_is)
    (case k1 => k_is)
    (case a2 => k_is)
    (case l2 => k_is)
    (case c2 => k_is)
    (case k2 => k_is)
    (case a3 => k_is)
    (case l3 => k_is)
    (case c3 => k_is)
    (case k3 => k_is)
    (case a4 => k_is)
    (case l4 => k_is)
    (case c4 => k_is)
    (case k4 => k_is)
    (case a5 => k_is)
    (case l5 => k_is)
    (case c5 => k_is)
    (case k5 => k_is)
    (case a6 => k_is)
    (case l6 => k_is)
    (case c6 => k_is)
    (case k6 => k_is)
    (case a7 => k_is)
    (case l7 => k_is)
    (case c7 => k_is)
    (case k7 => k_is)
    (case a8 => k_is)
    (case l8 => k_is)
    (case c8 => k_is)
    (case k8 => k_is)
    (case a9 => k_is)
    (case l9 => k_is)
    (case c9 => k_is)
    (case k9 => k_is)
    (case a10 => k_is)
    (case l10 => k_is)
    (case c10 => k_is)
    (case k10 => k_is)
    (case a11 => k_is)
    (case l11 => k_is)
    (case c11 => k_is)
    (case k11 => k_is)
    (case a12 => k_is)
    (case l12 => k_is)
    (case c12 => k_is)
    (case k12 => k_is)
    (case a13 => k_is)
    (case l13 => k_is)
    (case c13 => k_is)
    (case k13 => k_is)
    (case a14 => k_is)
    (case l14 => k_is)
    (case c14 => k_is)
    (case k14 => k_is)
    (case a15 => k_is)
    (case l15 => k_is)
    (case c15 => k_is)
    (case k15 => k_is)
    (case a16 => k_is)
    (case l16 => k_is)
    (case c16 => k_is)
    (case k16 => k_is)
    (case a17 => k_is)
    (case l17 => k_is)
    (case c17 => k_is)
    (case k17 => k_is)
    (case a18 => k_is)
    (case l18 => k_is)
    (case c18 => k_is)
    (case k18 => k_is)
    (case a19 => k_is)
    (case l19 => k_is)
    (case c19 => k_is)
    (case k19 => k_is)
    (case a20 => k_is)
    (case l20 => k_is)
    (case c20 => k_is)
    (case k20 => k_is)
    (case a21 => k_is)
    (case l21 => k_is)
    (case c21 => k_is)
    (case k21 => k_is)
    (case a22 => k_is)
    (case l22 => k_is)
    (case c22 => k_is)
    (case k22 => k_is)
    (case a23 => k_is)
    (case l23 => k_is)
    (case c23 => k_is)
    (case k23 => k_is)
    (case a24 => k_is)
    (case l24 => k_is)
    (case c24 => k_is)
    (case k24 => k_is)
    (case a25 => k_is)
    (case l25 => k_is)
    (case c25 => k_is)
    (case k25 => k_is)
    (case a26 => k_is)
    (case l26 => k_is)
    (case c26 => k_is)
    (case k26 => k_is)
    (case a27 => k_is)
    (case l27 => k_is)
    (case c27 => k_is)
    (case k27 => k_is)
    (case a28 => k_is)
    (case l28 => k_is)
    (case c28 => k_is)
    (case k28 => k_is)
    (case a29 => k_is)
    (case l29 => k_is)
    (case c29 => k_is)
    (case k29 => k_is)
    (case a30 => k_is)
    (case l30 => k_is)
    (case c30 => k_is)
    (case k30 => k_is)
    (case a31 => k_is)
    (case l31 => k_is)
    (case c31 => k_is)
    (case k31 => k_is)
    (case a32 => k_is)
    (case l32 => k_is)
    (case c32 => k_is)
    (case k32 => k_is)
    (case a33 => k_is)
    (case l33 => k_is)
    (case c33 => k_is)
    (case k33 => k_is)
    (case a34 => k_is)
    (case l34 => k_is)
    (case c34 => k_is)
    (case k34 => k_is)
    (case a35 => k_is)
    (case l35 => k_is)
    (case c35 => k_is)
    (case k35 => k_is)
    (case a36 => k_is)
    (case l36 => k_is)
    (case c36 => k_is)
    (case k36 => k_is)
#print axioms PySem.Challenge.cw_rowmasks_k39_whole_more_dots_make_more_holds
